import PyProof.Rows.All
import Wide.All
import OpenK.AllK
import Wide.FinOn
import HandS.ForMost
import HandS.Walk
import HandS.Flow
import HandS.Wide
import HandS.EndBits
import HandS.Conv
import HandS.TupAny
import HandS.TupMul
import HandS.IsInst
import PySem.Challenge.RW_readtell_k76_things_shown
set_option Elab.async false
set_option linter.all false
set_option maxRecDepth 100000
/-! Lt1: a small language of values (trees) and cells (what changes), in which the program's defs are said again. -/
namespace Lt
/-- a text: its codes -/
abbrev Tx := List Nat
/-- a key of a dict -/
abbrev DK := Sum Int Tx
/-- a value: a tree; what may change stands in a cell -/
inductive PV where
  | non | bl (b : Bool) | int (i : Int) | str (s : Tx) | tup (xs : List PV) | lst (xs : List PV)
  | dct (ks : List DK) (vs : List PV) | cell (i : Nat)
mutual
def eqv0 : PV → PV → Bool
  | .non, .non => true
  | .bl a, .bl b => a == b
  | .int a, .int b => a == b
  | .str a, .str b => a == b
  | .tup xs, .tup ys => eqv0s xs ys
  | .lst xs, .lst ys => eqv0s xs ys
  | .dct ks vs, .dct ks' vs' => decide (ks = ks') && eqv0s vs vs'
  | .cell a, .cell b => a == b
  | _, _ => false
def eqv0s : List PV → List PV → Bool
  | [], [] => true
  | x :: r, y :: s => eqv0 x y && eqv0s r s
  | _, _ => false
end
mutual
theorem eqv0_iff : ∀ p q : PV, eqv0 p q = true ↔ p = q
  | .non, q => by cases q <;> simp [eqv0]
  | .bl _, q => by cases q <;> simp [eqv0]
  | .int _, q => by cases q <;> simp [eqv0]
  | .str _, q => by cases q <;> simp [eqv0]
  | .tup xs, q => by cases q <;> simp [eqv0, eqv0s_iff xs]
  | .lst xs, q => by cases q <;> simp [eqv0, eqv0s_iff xs]
  | .dct ks vs, q => by cases q <;> simp [eqv0, eqv0s_iff vs]
  | .cell _, q => by cases q <;> simp [eqv0]
theorem eqv0s_iff : ∀ p q : List PV, eqv0s p q = true ↔ p = q
  | [], q => by cases q <;> simp [eqv0s]
  | x :: r, q => by cases q <;> simp [eqv0s, eqv0_iff x, eqv0s_iff r]
end
instance : DecidableEq PV := fun p q => decidable_of_iff _ (eqv0_iff p q)
instance : Inhabited PV := ⟨.non⟩

/-- what stands in a cell -/
inductive Cell where
  | lst (xs : List PV)
  | dct (kvs : List (DK × PV))
  deriving DecidableEq
abbrev Store := List Cell
/-- a run: the store ahead, what it gives and the store behind; none: it isn't said -/
abbrev M (α : Type) := Store → Option (α × Store)
def pr {α : Type} (a : α) : M α := fun st => some (a, st)
def no {α : Type} : M α := fun _ => none
def bd {α β : Type} (m : M α) (k : α → M β) : M β := fun st => match m st with
  | some (a, st') => k a st'
  | none => none
def ofO {α : Type} (o : Option α) : M α := match o with
  | some a => pr a
  | none => no
open Classical in
noncomputable def grd (p : Prop) : M Unit := fun st => if p then some ((), st) else none
def getS : M Store := fun st => some (st, st)
def setS (st' : Store) : M Unit := fun _ => some ((), st')

/-- the longest that a text or a list may be -/
def SL : Nat := 16777216
abbrev Env := List (Option PV)

/-! ### operators -/
inductive BOp where | add | sub | mul | fdiv | mod | pow
  deriving DecidableEq
inductive COp where | eq | ne | lt | le | gt | ge | is | isnot | in_ | notin
  deriving DecidableEq
def okMul (i j : Int) : Prop := L2.CMul i j ∨ L2.CMulW i j
/-- a list's items: a value's or a cell's -/
def itemsL : PV → Store → Option (List PV)
  | .lst xs, _ => some xs
  | .cell i, st => match st[i]? with
    | some (.lst xs) => some xs
    | _ => none
  | _, _ => none
def itemsLM (p : PV) : M (List PV) := fun st => (itemsL p st).map fun xs => (xs, st)
noncomputable def rdiv (a b : Int) : M PV := bd (grd (L2.CDivW a b)) fun _ => pr (.int (a / b))
noncomputable def rmod (a b : Int) : M PV := bd (grd (0 < b)) fun _ => pr (.int (a % b))
def rep {α : Type} (xs : List α) (k : Int) : List α := (List.replicate k.toNat xs).flatten
noncomputable def bop : BOp → PV → PV → M PV
  | .add, .int a, .int b => pr (.int (a + b))
  | .add, .str a, .str b => bd (grd (a.length + b.length ≤ SL)) fun _ => pr (.str (a ++ b))
  | .add, .tup a, .tup b => bd (grd (a.length + b.length ≤ SL)) fun _ => pr (.tup (a ++ b))
  | .add, p, q => bd (itemsLM p) fun a => bd (itemsLM q) fun b => bd (grd (a.length + b.length ≤ SL)) fun _ => pr (.lst (a ++ b))
  | .sub, .int a, .int b => pr (.int (a - b))
  | .mul, .int a, .int b => bd (grd (okMul a b)) fun _ => pr (.int (a * b))
  | .mul, .str a, .int b => bd (grd (-(2 ^ 63) ≤ b ∧ b < 2 ^ 63 ∧ a.length * b.toNat ≤ SL)) fun _ => pr (.str (rep a b))
  | .mul, .tup a, .int b => bd (grd (a ≠ [] ∧ 2 ≤ b ∧ b ≤ 1000 ∧ a.length ≤ 1000)) fun _ => pr (.tup (rep a b))
  | .mul, .lst a, .int b => bd (grd (-(2 ^ 63) ≤ b ∧ b < 2 ^ 63 ∧ a.length * b.toNat ≤ SL)) fun _ => pr (.lst (rep a b))
  | .fdiv, .int a, .int b => rdiv a b
  | .mod, .int a, .int b => rmod a b
  | .pow, .int a, .int b => bd (grd (L2.CPow a b)) fun _ => pr (.int (a ^ b.toNat))
  | _, _, _ => no

/-! ### == -/
mutual
/-- Python's == of trees -/
def eqv : PV → PV → Bool
  | .non, .non => true
  | .bl a, .bl b => a == b
  | .bl a, .int j => (if a then 1 else 0) == j
  | .int i, .bl b => i == (if b then 1 else 0)
  | .int a, .int b => a == b
  | .str a, .str b => a == b
  | .tup xs, .tup ys => eqvs xs ys
  | .lst xs, .lst ys => eqvs xs ys
  | _, _ => false
def eqvs : List PV → List PV → Bool
  | [], [] => true
  | x :: r, y :: s => eqv x y && eqvs r s
  | _, _ => false
end
/-- codes of texts that may be compared within trees -/
def okC (c : Nat) : Bool := decide (c < 55296)
mutual
/-- data: no dicts, no cells; texts of plain codes; at most n deep -/
def okD : Nat → PV → Bool
  | _, .non => true
  | _, .bl _ => true
  | _, .int _ => true
  | _, .str s => s.all okC
  | 0, .tup _ => false
  | 0, .lst _ => false
  | n + 1, .tup xs => okDs n xs
  | n + 1, .lst xs => okDs n xs
  | _, .dct _ _ => false
  | _, .cell _ => false
def okDs : Nat → List PV → Bool
  | _, [] => true
  | n, x :: r => okD n x && okDs n r
end
def isScal : PV → Bool
  | .non => true | .bl _ => true | .int _ => true | .str _ => true | _ => false
/-- a cell's list as a tree -/
def seen : PV → Store → PV
  | .cell i, st => match st[i]? with
    | some (.lst xs) => .lst xs
    | _ => .cell i
  | p, _ => p
noncomputable def eqM (p q : PV) : M Bool := fun st => (bd (grd (okD 64 (seen p st) = true ∧ okD 64 (seen q st) = true)) fun _ => pr (eqv (seen p st) (seen q st))) st

/-! ### comparisons -/
def isNon : PV → Bool | .non => true | _ => false
def inTx (c : Tx) (s : Tx) : Bool := match c with
  | [x] => decide (x ∈ s)
  | _ => false
/-- is: against None, True, False -/
def isM (p q : PV) : M Bool := match q with
  | .non => pr (isNon p)
  | .bl b => (match p with | .bl c => pr (c == b) | _ => no)
  | _ => no
/-- x in a tuple, a list of flat things -/
def flat : PV → Bool
  | .non => true | .bl _ => true | .int _ => true | .str _ => true | _ => false
noncomputable def inM (p q : PV) : M Bool := match q with
  | .str s => (match p with
    | .str [c] => pr (decide (c ∈ s))
    | _ => no)
  | .tup xs => bd (grd (flat p = true ∧ xs.all flat = true)) fun _ => pr (xs.any fun y => eqv y p)
  | .lst xs => bd (grd (flat p = true ∧ xs.all flat = true)) fun _ => pr (xs.any fun y => eqv y p)
  | _ => no
noncomputable def cop : COp → PV → PV → M Bool
  | .eq, p, q => eqM p q
  | .ne, p, q => bd (eqM p q) fun b => pr (!b)
  | .lt, .int a, .int b => pr (decide (a < b))
  | .le, .int a, .int b => pr (decide (a ≤ b))
  | .gt, .int a, .int b => pr (decide (b < a))
  | .ge, .int a, .int b => pr (decide (b ≤ a))
  | .lt, .str a, .str b => pr (decide (a < b))
  | .le, .str a, .str b => pr (!decide (b < a))
  | .is, p, q => isM p q
  | .isnot, p, q => bd (isM p q) fun b => pr (!b)
  | .in_, p, q => inM p q
  | .notin, p, q => bd (inM p q) fun b => pr (!b)
  | _, _, _ => no

/-! ### truth -/
noncomputable def truthM (p : PV) : M Bool := match p with
  | .non => pr false
  | .bl b => pr b
  | .int i => pr (i != 0)
  | .str s => bd (grd (s.length ≤ SL)) fun _ => pr (!s.isEmpty)
  | .tup xs => pr (!xs.isEmpty)
  | .lst xs => pr (!xs.isEmpty)
  | .dct ks _ => pr (!ks.isEmpty)
  | .cell i => fun st => match st[i]? with
    | some (.lst xs) => some (!xs.isEmpty, st)
    | some (.dct kvs) => some (!kvs.isEmpty, st)
    | none => none

/-! ### items, slices, dicts -/
def dkOf : PV → Option DK
  | .int i => some (.inl i)
  | .str s => some (.inr s)
  | _ => none
def dkV : DK → PV
  | .inl i => .int i
  | .inr s => .str s
def dfind (kvs : List (DK × PV)) (k : DK) : Option PV := (kvs.find? fun kv => decide (kv.1 = k)).map (·.2)
def dput (kvs : List (DK × PV)) (k : DK) (v : PV) : List (DK × PV) :=
  if (kvs.any fun kv => decide (kv.1 = k)) = true then kvs.map (fun kv => if kv.1 = k then (kv.1, v) else kv) else kvs ++ [(k, v)]
def dmerge (kvs more : List (DK × PV)) : List (DK × PV) := more.foldl (fun acc kv => dput acc kv.1 kv.2) kvs
/-- a dict's pairs: a value's or a cell's -/
def itemsD : PV → Store → Option (List (DK × PV))
  | .dct ks vs, _ => some (ks.zip vs)
  | .cell i, st => match st[i]? with
    | some (.dct kvs) => some kvs
    | _ => none
  | _, _ => none
def itemsDM (p : PV) : M (List (DK × PV)) := fun st => (itemsD p st).map fun xs => (xs, st)
def mkD (kvs : List (DK × PV)) : PV := .dct (kvs.map (·.1)) (kvs.map (·.2))
/-- o[i] -/
noncomputable def idxM (o i : PV) : M PV := match o with
  | .str s => (match i with
    | .int k => bd (grd (s.length ≤ SL)) fun _ => bd (ofO (L2.atI s k)) fun c => pr (.str [c])
    | _ => no)
  | .tup xs => (match i with
    | .int k => ofO (L2.atI xs k)
    | _ => no)
  | .lst xs => (match i with
    | .int k => ofO (L2.atI xs k)
    | _ => no)
  | .dct ks vs => bd (ofO (dkOf i)) fun k => ofO (dfind (ks.zip vs) k)
  | .cell c => fun st => match st[c]? with
    | some (.lst xs) => (match i with
      | .int k => ofO (L2.atI xs k) st
      | _ => none)
    | some (.dct kvs) => (bd (ofO (dkOf i)) fun k => ofO (dfind kvs k)) st
    | none => none
  | _ => no
def cut {α : Type} (xs : List α) (lo hi : Option Int) : List α := (xs.drop (HT.sIx xs.length 0 lo)).take (HT.sIx xs.length xs.length hi - HT.sIx xs.length 0 lo)
def optI : PV → M (Option Int)
  | .int i => pr (some i)
  | _ => no
/-- o[lo:hi] -/
noncomputable def slcM (o : PV) (l h : Option Int) : M PV := match o with
  | .str s => bd (grd (s.length ≤ SL)) fun _ => pr (.str (cut s l h))
  | .tup xs => pr (.tup (cut xs l h))
  | p => bd (itemsLM p) fun xs => pr (.lst (cut xs l h))
/-- o[i] = v -/
def setM (o i v : PV) : M Unit := match o with
  | .cell c => fun st => match st[c]? with
    | some (.lst xs) => (match i with
      | .int k => (match L2.ixN xs.length k with
        | some j => some ((), st.set c (.lst (xs.set j v)))
        | none => none)
      | _ => none)
    | some (.dct kvs) => (match dkOf i with
      | some k => if kvs.length < SL then some ((), st.set c (.dct (dput kvs k v))) else none
      | none => none)
    | none => none
  | _ => no
def newCell (c : Cell) : M PV := fun st => some (.cell st.length, st ++ [c])

/-! ### built-ins and methods -/
inductive BI where | len | abs | int | str | ord | all | any | tuple | list | min2 | max2
  deriving DecidableEq
/-- forms of their own -/
inductive SP where | lrange1 | lrange2 | trange1 | trange2
  deriving DecidableEq
inductive Ty where | str | int | tuple | bool | list | dict
  deriving DecidableEq
/-- a number's figures -/
def figs (i : Int) : Tx := (toString i).toList.map Char.toNat
noncomputable def lenM (p : PV) : M PV := match p with
  | .str s => bd (grd (s.length ≤ SL)) fun _ => pr (.int s.length)
  | .tup xs => pr (.int xs.length)
  | .dct ks _ => pr (.int ks.length)
  | p => fun st => match itemsL p st with
    | some xs => some (.int xs.length, st)
    | none => (match itemsD p st with
      | some kvs => some (.int kvs.length, st)
      | none => none)
def bls : List PV → Option (List Bool)
  | [] => some []
  | .bl b :: r => (bls r).map (b :: ·)
  | _ :: _ => none
noncomputable def bi : BI → List PV → M PV
  | .len, [p] => lenM p
  | .abs, [.int i] => pr (.int (if i < 0 then -i else i))
  | .int, [.int i] => pr (.int i)
  | .int, [.bl b] => pr (.int (if b then 1 else 0))
  | .str, [.int i] => bd (grd (i.natAbs.log2 < 1920)) fun _ => pr (.str (figs i))
  | .ord, [.str [c]] => pr (.int c)
  | .all, [.lst xs] => bd (ofO (bls xs)) fun bs => pr (.bl (bs.all id))
  | .any, [.lst xs] => bd (ofO (bls xs)) fun bs => pr (.bl (bs.any id))
  | .tuple, [.lst xs] => pr (.tup xs)
  | .tuple, [.tup xs] => pr (.tup xs)
  | .tuple, [.cell c] => bd (itemsLM (.cell c)) fun xs => pr (.tup xs)
  | .list, [.tup xs] => pr (.lst xs)
  | .list, [p] => bd (itemsLM p) fun xs => pr (.lst xs)
  | .min2, [.int i, .int j] => pr (.int (if j < i then j else i))
  | .max2, [.int i, .int j] => pr (.int (if j > i then j else i))
  | _, _ => no
def isTy : Ty → PV → Store → Option Bool
  | t, p, st => match p with
    | .non => some false
    | .bl _ => some (t == .int || t == .bool)
    | .int _ => some (t == .int)
    | .str _ => some (t == .str)
    | .tup _ => some (t == .tuple)
    | .lst _ => some (t == .list)
    | .dct _ _ => some (t == .dict)
    | .cell c => (match st[c]? with
      | some (.lst _) => some (t == .list)
      | some (.dct _) => some (t == .dict)
      | none => none)
def isiM (t : Ty) (p : PV) : M PV := fun st => (isTy t p st).map fun b => (.bl b, st)
inductive ME where | join | append | pop0 | pop1 | extend | upper | startswith
  deriving DecidableEq
/-- of a text, else of a list -/
def ME.ofStr : ME → Bool
  | .join | .upper | .startswith => true
  | _ => false
/-- the receiver is of the method's type -/
def recv (m : ME) (p : PV) : M Unit := fun st => match p with
  | .str _ => if m.ofStr = true then some ((), st) else none
  | p => if m.ofStr = false ∧ (itemsL p st).isSome = true then some ((), st) else none
def txs : List PV → Option (List Tx)
  | [] => some []
  | .str s :: r => (txs r).map (s :: ·)
  | _ :: _ => none
def joinTx (sep : Tx) (l : List Tx) : Tx := TL.joinL sep l
/-- A to Z of a to z; other ASCII codes as they are -/
def upC (c : Nat) : Nat := PyProof.Rows.up1 c
noncomputable def me : ME → PV → List PV → M PV
  | .join, .str sep, [p] => bd (match p with | .tup xs => pr xs | p => itemsLM p) fun xs => bd (ofO (txs xs)) fun ys =>
      bd (grd ((ys.map (·.length)).sum + ys.length * sep.length ≤ 16777216)) fun _ => pr (.str (joinTx sep ys))
  | .append, .cell c, [v] => fun st => match st[c]? with
    | some (.lst xs) => if xs.length < SL then some (.non, st.set c (.lst (xs ++ [v]))) else none
    | _ => none
  | .pop0, .cell c, [] => fun st => match st[c]? with
    | some (.lst xs) => (match xs[xs.length - 1]? with
      | some y => some (y, st.set c (.lst xs.dropLast))
      | none => none)
    | _ => none
  | .pop1, .cell c, [.int i] => fun st => match st[c]? with
    | some (.lst xs) => (match L2.ixN xs.length i with
      | some k => (match xs[k]? with
        | some y => some (y, st.set c (.lst (xs.eraseIdx k)))
        | none => none)
      | none => none)
    | _ => none
  | .extend, .cell c, [p] => fun st => match st[c]?, itemsL p st with
    | some (.lst xs), some ys => if xs.length + ys.length ≤ SL ∧ p ≠ .cell c then some (.non, st.set c (.lst (xs ++ ys))) else none
    | _, _ => none
  | .upper, .str s, [] => bd (grd (s.length ≤ 5592405 ∧ s.all (fun c => decide (c < 128)) = true)) fun _ => pr (.str (s.map upC))
  | .startswith, .str s, [.str t] => pr (.bl (t.isPrefixOf s))
  | _, _, _ => no

def rgM (tup : Bool) (i j : Int) : M PV := fun st => if -(2 ^ 62) ≤ i ∧ i < 2 ^ 62 ∧ -(2 ^ 62) ≤ j ∧ j < 2 ^ 62 ∧ (j - i).toNat ≤ SL then
  some (if tup = true then .tup ((List.range (j - i).toNat).map fun (k : Nat) => PV.int (i + k)) else .lst ((List.range (j - i).toNat).map fun (k : Nat) => PV.int (i + k)), st) else none
def sp (s : SP) (xs : List PV) : M PV := match s with
  | .lrange1 => match xs with
    | [.int j] => rgM false 0 j
    | _ => no
  | .lrange2 => match xs with
    | [.int i, .int j] => rgM false i j
    | _ => no
  | .trange1 => match xs with
    | [.int j] => rgM true 0 j
    | _ => no
  | .trange2 => match xs with
    | [.int i, .int j] => rgM true i j
    | _ => no

/-! ### the language -/
inductive LG where
  | name (i : Nat)
  | tup (gs : List LG)
/-- what is walked: a thing's items; ranges; pairs with numbers; pairs of two; backwards -/
inductive IK where | seq | range1 | range2 | enum | zip | rev
  deriving DecidableEq
inductive LE where
  | var (i : Nat)
  | cst (v : PV)
  | glob (g : Nat)
  | bin (op : BOp) (a b : LE)
  | neg (a : LE)
  | cmp (op : COp) (a b : LE)
  | chn (op : COp) (a b : LE) (op' : COp) (c : LE)
  | and (es : List LE)
  | or (es : List LE)
  | not (a : LE)
  | ife (c a b : LE)
  | tup (es : List LE)
  | lst (es : List LE)
  | lstC (es : List LE)
  | dct (kvs : List LE)
  | dctC (kvs : List LE)
  | idx (a i : LE)
  | slc (a : LE) (hl : Bool) (lo : LE) (hh : Bool) (hi : LE)
  | call (f : Nat) (es : List LE)
  | bi (b : BI) (es : List LE)
  | me (m : ME) (o : LE) (es : List LE)
  | isi (a : LE) (t : Ty)
  | sp (s : SP) (es : List LE)
  | lc (e : LE) (tg : LG) (ik : IK) (its : List LE) (ifs : List LE) (own : List Nat)
inductive LS where
  | set (tg : LG) (e : LE)
  | setI (o i e : LE)
  | expr (e : LE)
  | ret (e : LE)
  | retN
  | ife (c : LE) (a b : List LS)
  | for_ (tg : LG) (ik : IK) (its : List LE) (body : List LS)
  | whl (c : LE) (body : List LS)
  | brk
  | cnt
  | pas
inductive Out where
  | nx (env : Env) | rt (v : PV) | bk (env : Env) | ct (env : Env)

/-- what is known of the module: its constants, its defs' meanings, how long a while may go on -/
structure Rg where
  gl : Nat → Option PV
  fn : Nat → List PV → M PV
  fu : Nat
def getV (env : Env) (i : Nat) : M PV := match env[i]? with
  | some (some v) => pr v
  | _ => no
def unb : PV → M Bool
  | .bl b => pr b
  | _ => no
mutual
def asg : LG → PV → Env → Option Env
  | .name i, v, env => if i < env.length then some (env.set i (some v)) else none
  | .tup gs, .tup xs, env => asgs gs xs env
  | .tup _, _, _ => none
def asgs : List LG → List PV → Env → Option Env
  | [], [], env => some env
  | g :: gs, x :: xs, env => match asg g x env with
    | some env' => asgs gs xs env'
    | none => none
  | _, _, _ => none
end
mutual
def LG.slots : LG → List Nat
  | .name i => [i]
  | .tup gs => slotss gs
def slotss : List LG → List Nat
  | [] => []
  | g :: gs => g.slots ++ slotss gs
end
/-- the items that are walked -/
def iterS : IK → List PV → Store → Option (List PV)
  | .seq, [.tup xs], _ => some xs
  | .seq, [.str s], _ => some (s.map fun c => .str [c])
  | .seq, [p], st => itemsL p st
  | .range1, [.int j], _ => if -(2 ^ 62) ≤ j ∧ j < 2 ^ 62 then some ((List.range j.toNat).map fun (k : Nat) => PV.int k) else none
  | .range2, [.int i, .int j], _ => if -(2 ^ 62) ≤ i ∧ i < 2 ^ 62 ∧ -(2 ^ 62) ≤ j ∧ j < 2 ^ 62 then some ((List.range (j - i).toNat).map fun (k : Nat) => PV.int (i + k)) else none
  | .enum, [p], st => match p with
    | .lst xs => some (xs.zipIdx.map fun (x, k) => .tup [.int k, x])
    | _ => none
  | .zip, [.lst xs, .lst ys], _ => some ((xs.zip ys).map fun (x, y) => .tup [x, y])
  | .rev, [.lst xs], _ => some xs.reverse
  | _, _, _ => none
def iterM (k : IK) (vs : List PV) : M (List PV) := fun st => (iterS k vs st).map fun xs => (xs, st)
/-- what is walked stays as it is -/
noncomputable def still (k : IK) (vs : List PV) (xs : List PV) : M Unit := fun st => grd (iterS k vs st = some xs) st
def wipeE (env : Env) : List Nat → Env
  | [] => env
  | v :: vs => (wipeE env vs).set v none
/-- a comprehension's turns -/
noncomputable def lcL (chk : M Unit) (tg : LG) (t : Env → M Bool) (e : Env → M PV) (env : Env) : List PV → List PV → M (List PV)
  | [], acc => bd chk fun _ => pr acc
  | x :: xs, acc => bd chk fun _ => bd (ofO (asg tg x env)) fun env' => bd (t env') fun b =>
      if b = true then bd (e env') fun y => bd (grd (acc.length < SL)) fun _ => lcL chk tg t e env xs (acc ++ [y]) else lcL chk tg t e env xs acc
/-- a for's turns -/
noncomputable def forL (chk : M Unit) (tg : LG) (body : Env → M Out) : List PV → Env → M Out
  | [], env => bd chk fun _ => pr (.nx env)
  | x :: xs, env => bd chk fun _ => bd (ofO (asg tg x env)) fun env' => bd (body env') fun o => match o with
    | .nx env2 => forL chk tg body xs env2
    | .ct env2 => forL chk tg body xs env2
    | .bk env2 => pr (.nx env2)
    | .rt v => pr (.rt v)
def whlL (c : Env → M Bool) (body : Env → M Out) : Nat → Env → M Out
  | 0, _ => no
  | n + 1, env => bd (c env) fun b => if b = true then bd (body env) fun o => match o with
      | .nx env2 => whlL c body n env2
      | .ct env2 => whlL c body n env2
      | .bk env2 => pr (.nx env2)
      | .rt v => pr (.rt v)
    else pr (.nx env)
def keysOf (ps : List PV) : Option (List DK) := ps.mapM dkOf

mutual
noncomputable def ev (R : Rg) : LE → Env → M PV
  | .var i, env => getV env i
  | .cst v, _ => pr v
  | .glob g, _ => ofO (R.gl g)
  | .bin op a b, env => bd (ev R a env) fun x => bd (ev R b env) fun y => bop op x y
  | .neg a, env => bd (ev R a env) fun x => match x with
    | .int i => pr (.int (-i))
    | _ => no
  | .cmp op a b, env => bd (ev R a env) fun x => bd (ev R b env) fun y => bd (cop op x y) fun c => pr (.bl c)
  | .chn op a b op' c, env => bd (ev R a env) fun x => bd (ev R b env) fun y => bd (cop op x y) fun k =>
      if k = true then bd (ev R c env) fun z => bd (cop op' y z) fun k' => pr (.bl k') else pr (.bl false)
  | .and es, env => evAnd R es env
  | .or es, env => evOr R es env
  | .not a, env => bd (ev R a env) fun x => bd (truthM x) fun k => pr (.bl (!k))
  | .ife c a b, env => bd (ev R c env) fun x => bd (truthM x) fun k => if k = true then ev R a env else ev R b env
  | .tup es, env => bd (evs R es env) fun xs => bd (grd (xs.length ≤ SL)) fun _ => pr (.tup xs)
  | .lst es, env => bd (evs R es env) fun xs => bd (grd (xs.length ≤ SL)) fun _ => pr (.lst xs)
  | .lstC es, env => bd (evs R es env) fun xs => bd (grd (xs.length ≤ SL)) fun _ => newCell (.lst xs)
  | .dct kvs, env => bd (evPs R kvs env) fun ps => bd (ofO (keysOf (ps.map (·.1)))) fun k => bd (grd (ps.length ≤ 15)) fun _ => pr (mkD (dmerge [] (k.zip (ps.map (·.2)))))
  | .dctC kvs, env => bd (evPs R kvs env) fun ps => bd (ofO (keysOf (ps.map (·.1)))) fun k => bd (grd (ps.length ≤ 15)) fun _ => newCell (.dct (dmerge [] (k.zip (ps.map (·.2)))))
  | .idx a i, env => bd (ev R a env) fun x => bd (ev R i env) fun y => idxM x y
  | .slc a hl lo hh hi, env => bd (ev R a env) fun x => bd (if hl = true then bd (ev R lo env) optI else pr none) fun l =>
      bd (if hh = true then bd (ev R hi env) optI else pr none) fun h => slcM x l h
  | .call f es, env => bd (evs R es env) fun xs => R.fn f xs
  | .bi b es, env => bd (evs R es env) fun xs => bi b xs
  | .me m o es, env => bd (ev R o env) fun x => bd (recv m x) fun _ => bd (evs R es env) fun xs => me m x xs
  | .isi a t, env => bd (ev R a env) fun x => isiM t x
  | .sp s es, env => bd (evs R es env) fun xs => sp s xs
  | .lc e tg ik its ifs own, env => bd (evs R its env) fun vs => bd (iterM ik vs) fun xs =>
      bd (lcL (still ik vs xs) tg (fun en => evIfs R ifs en) (fun en => ev R e en) (wipeE env own) xs []) fun acc => pr (.lst acc)
noncomputable def evs (R : Rg) : List LE → Env → M (List PV)
  | [], _ => pr []
  | e :: es, env => bd (ev R e env) fun x => bd (evs R es env) fun xs => pr (x :: xs)
noncomputable def evPs (R : Rg) : List LE → Env → M (List (PV × PV))
  | [], _ => pr []
  | [_], _ => no
  | k :: v :: r, env => bd (ev R k env) fun x => bd (ev R v env) fun y => bd (evPs R r env) fun r => pr ((x, y) :: r)
noncomputable def evAnd (R : Rg) : List LE → Env → M PV
  | [], _ => no
  | [e], env => ev R e env
  | e :: e' :: es, env => bd (ev R e env) fun x => bd (truthM x) fun k => if k = true then evAnd R (e' :: es) env else pr x
noncomputable def evOr (R : Rg) : List LE → Env → M PV
  | [], _ => no
  | [e], env => ev R e env
  | e :: e' :: es, env => bd (ev R e env) fun x => bd (truthM x) fun k => if k = true then pr x else evOr R (e' :: es) env
noncomputable def evIfs (R : Rg) : List LE → Env → M Bool
  | [], _ => pr true
  | [e], env => bd (ev R e env) truthM
  | _ :: _ :: _, _ => no
end
noncomputable def evT (R : Rg) (e : LE) (env : Env) : M Bool := bd (ev R e env) truthM

mutual
noncomputable def evS (R : Rg) : LS → Env → M Out
  | .set tg e, env => bd (ev R e env) fun x => bd (ofO (asg tg x env)) fun env' => pr (.nx env')
  | .setI o i e, env => bd (ev R e env) fun x => bd (ev R o env) fun y => bd (ev R i env) fun z => bd (setM y z x) fun _ => pr (.nx env)
  | .expr e, env => bd (ev R e env) fun _ => pr (.nx env)
  | .ret e, env => bd (ev R e env) fun x => pr (.rt x)
  | .retN, _ => pr (.rt .non)
  | .ife c a b, env => bd (evT R c env) fun k => if k = true then evSs R a env else evSs R b env
  | .for_ tg ik its body, env => bd (evs R its env) fun vs => bd (iterM ik vs) fun xs => forL (still ik vs xs) tg (fun en => evSs R body en) xs env
  | .whl c body, env => whlL (fun en => evT R c en) (fun en => evSs R body en) R.fu env
  | .brk, env => pr (.bk env)
  | .cnt, env => pr (.ct env)
  | .pas, env => pr (.nx env)
noncomputable def evSs (R : Rg) : List LS → Env → M Out
  | [], env => pr (.nx env)
  | s :: ss, env => bd (evS R s env) fun o => match o with
    | .nx env' => evSs R ss env'
    | o => pr o
end
/-- a def: its parameters' number, its names' number, its body -/
structure Df where
  par : Nat
  nam : Nat
  body : List LS
noncomputable def runDf (R : Rg) (d : Df) (ps : List PV) : M PV :=
  if ps.length = d.par then bd (evSs R d.body (ps.map some ++ List.replicate (d.nam - d.par) none)) fun o => match o with
    | .nx _ => pr .non
    | .rt v => pr v
    | _ => no
  else no
/-- the defs' meanings, calls at most n deep -/
noncomputable def mean (gl : Nat → Option PV) (ds : List Df) (fu : Nat) : Nat → Nat → List PV → M PV
  | 0, _, _ => no
  | n + 1, f, ps => match ds[f]? with
    | some d => runDf ⟨gl, mean gl ds fu n, fu⟩ d ps
    | none => no
end Lt

/-! Lt2: how trees and cells stand in the abstract heap. -/
namespace Lt
open PySem PySem.Spec PyProof.Rows L2

def mkS (s : Tx) : Str := ⟨s.toArray⟩
theorem mkS_len (s : Tx) : (mkS s).length = s.length := by simp [mkS, Str.length]
theorem mkS_cps (s : Tx) : (mkS s).cps.toList = s := by simp [mkS]
theorem mkS_inj {s t : Tx} (h : mkS s = mkS t) : s = t := by rw [← mkS_cps s, h, mkS_cps]
theorem mkS_of (x : Str) : mkS x.cps.toList = x := by cases x; simp [mkS]
theorem mkS_dec (s t : Tx) : decide (mkS s = mkS t) = decide (s = t) := by
  by_cases h : s = t
  · subst h; simp
  · rw [decide_eq_false h, decide_eq_false fun e => h (mkS_inj e)]
theorem mkS_app (s t : Tx) : mkS s ++ mkS t = mkS (s ++ t) := by
  have h := TL.tl_append (mkS s) (mkS t)
  apply TL.ext_tl
  rw [h]
  simp [TL.tl, mkS]
def keyS : DK → Key
  | .inl i => .inl i
  | .inr s => .inr (mkS s)
theorem keyS_inj {a b : DK} (h : keyS a = keyS b) : a = b := by
  cases a <;> cases b <;> simp [keyS] at h <;> first | (subst h; rfl) | (rw [mkS_inj h])
theorem keyS_dec (a b : DK) : decide (keyS a = keyS b) = decide (a = b) := by
  by_cases h : a = b
  · subst h; simp
  · rw [decide_eq_false h, decide_eq_false fun e => h (keyS_inj e)]
theorem keyS_dkV {v : PV} {k : DK} (h : dkOf v = some k) : v = dkV k := by
  cases v <;> simp [dkOf] at h <;> subst h <;> rfl

/-- of a written object -/
def WrT (K : PySem.W.Frag) (a : Addr) (vs : List V) : Prop :=
  ∃ (o : Obj) (its : Array Value) (n : Nat), K.lookup a = some o ∧ o.cls = .type "tuple" ∧ o.data = .seq its n ∧ its.size ≤ sizeLine ∧ Vals vs its.toList
def WrL (K : PySem.W.Frag) (a : Addr) (vs : List V) : Prop :=
  ∃ (o : Obj) (its : Array Value) (n : Nat), K.lookup a = some o ∧ o.cls = .type "list" ∧ o.dict = none ∧ o.data = .seq its n ∧ its.size ≤ sizeLine ∧ Vals vs its.toList
structure Ws where
  K : PySem.W.Frag
  μ : List Addr
section
variable (W : Ws) (ρ : List Addr) (H : Hp)
def TupAt (a : Addr) (vs : List V) : Prop := (H a = some (.tup vs) ∧ a ∉ ρ ∧ a ∉ W.μ) ∨ WrT W.K a vs
def LstAt (a : Addr) (vs : List V) : Prop := (Rd H a (.lst vs) ∧ a ∉ ρ ∧ a ∉ W.μ) ∨ WrL W.K a vs
def DctAt (a : Addr) (kvs : List (Key × V)) : Prop := H a = some (.dK kvs) ∧ a ∉ ρ ∧ a ∉ W.μ
mutual
/-- a value stands for a tree -/
def Rep : PV → V → Prop
  | .non, v => v = .non
  | .bl b, v => v = .bl b
  | .int i, v => v = .int i
  | .str s, v => v = .str (mkS s)
  | .tup ps, v => ∃ a vs, v = .ref a ∧ TupAt W ρ H a vs ∧ Reps ps vs
  | .lst ps, v => ∃ a vs, v = .ref a ∧ LstAt W ρ H a vs ∧ Reps ps vs
  | .dct ks ps, v => ∃ a kvs, v = .ref a ∧ DctAt W ρ H a kvs ∧ kvs.map (·.1) = ks.map keyS ∧ Reps ps (kvs.map (·.2))
  | .cell i, v => ∃ a, ρ[i]? = some a ∧ v = .ref a
def Reps : List PV → List V → Prop
  | [], vs => vs = []
  | p :: ps, vs => ∃ v r, vs = v :: r ∧ Rep p v ∧ Reps ps r
end
/-- what a cell is there -/
def CellO (c : Cell) (o : HO) : Prop := match c with
  | .lst ps => ∃ vs, o = .lst vs ∧ Reps W ρ H ps vs
  | .dct qs => ∃ kvs, o = .dK kvs ∧ kvs.map (·.1) = (qs.map (·.1)).map keyS ∧ Reps W ρ H (qs.map (·.2)) (kvs.map (·.2))
/-- the cells stand at ρ -/
structure SR (st : Store) : Prop where
  len : ρ.length = st.length
  nd : ρ.Nodup
  at_ : ∀ (i : Nat) (a : Addr) (c : Cell), ρ[i]? = some a → st[i]? = some c → ∃ o, H a = some o ∧ CellO W ρ H c o
  off : ∀ a ∈ ρ, a ∉ W.μ
  mu : ∀ a ∈ W.μ, ∃ o, H a = some o
/-- names' values -/
def ER (env : Env) (σ : L2.St) : Prop := env.length = σ.length ∧ ∀ (i : Nat) (p : PV), env[i]? = some (some p) → ∃ v, σ[i]? = some (some v) ∧ Rep W ρ H p v
end
/-- from one state to a later one: what isn't a cell stays -/
structure Kp (ρ : List Addr) (H : Hp) (ρ' : List Addr) (H' : Hp) : Prop where
  pre : ∃ t, ρ' = ρ ++ t
  new : ∀ b ∈ ρ', b ∉ ρ → H b = none
  keep : ∀ b o, b ∉ ρ → H b = some o → H' b = some o
theorem Kp.refl {ρ H} : Kp ρ H ρ H := ⟨⟨[], by simp⟩, fun _ h n => absurd h n, fun _ _ _ h => h⟩
theorem Kp.trans {ρ H ρ1 H1 ρ2 H2} (a : Kp ρ H ρ1 H1) (b : Kp ρ1 H1 ρ2 H2) : Kp ρ H ρ2 H2 where
  pre := by
    obtain ⟨t, e⟩ := a.pre
    obtain ⟨u, e2⟩ := b.pre
    exact ⟨t ++ u, by rw [e2, e, List.append_assoc]⟩
  new := fun c h n => by
    by_cases h1 : c ∈ ρ1
    · exact a.new c h1 n
    · cases e : H c with
      | none => rfl
      | some o =>
        have e1 := a.keep c o n e
        rw [b.new c h h1] at e1
        cases e1
  keep := fun c o n e => by
    have e1 := a.keep c o n e
    refine b.keep c o (fun h1 => ?_) e1
    have := a.new c h1 n
    rw [this] at e
    cases e
theorem Kp.mem {ρ H ρ1 H1} (k : Kp ρ H ρ1 H1) {a : Addr} (h : a ∈ ρ) : a ∈ ρ1 := by
  obtain ⟨t, e⟩ := k.pre
  rw [e]
  exact List.mem_append_left _ h
theorem Kp.get {ρ H ρ1 H1} (k : Kp ρ H ρ1 H1) {i : Nat} {a : Addr} (h : ρ[i]? = some a) : ρ1[i]? = some a := by
  obtain ⟨t, e⟩ := k.pre
  rw [e, List.getElem?_append_left]
  · exact h
  · exact (List.getElem?_eq_some_iff.mp h).1
theorem Kp.notin {ρ H ρ1 H1} (k : Kp ρ H ρ1 H1) {a : Addr} {o : HO} (h : H a = some o) (n : a ∉ ρ) : a ∉ ρ1 := fun h1 => by
  rw [k.new a h1 n] at h
  cases h
theorem Kp.rd {ρ H ρ1 H1} (k : Kp ρ H ρ1 H1) {a : Addr} {u : HO} (h : Rd H a u) (n : a ∉ ρ) : Rd H1 a u := by
  rcases h with h | ⟨o, h⟩
  · exact .inl (k.keep _ _ n h)
  · exact .inr ⟨o, k.keep _ _ n h⟩
theorem rd_some {H : Hp} {a : Addr} {u : HO} (h : Rd H a u) : ∃ o, H a = some o := by
  rcases h with h | ⟨o, h⟩
  · exact ⟨_, h⟩
  · exact ⟨_, h⟩
section
variable {W : Ws} {ρ ρ1 : List Addr} {H H1 : Hp}
theorem TupAt.mono (k : Kp ρ H ρ1 H1) {a : Addr} {vs : List V} (h : TupAt W ρ H a vs) : TupAt W ρ1 H1 a vs := by
  rcases h with ⟨h, n1, n2⟩ | h
  · exact .inl ⟨k.keep _ _ n1 h, k.notin h n1, n2⟩
  · exact .inr h
theorem LstAt.mono (k : Kp ρ H ρ1 H1) {a : Addr} {vs : List V} (h : LstAt W ρ H a vs) : LstAt W ρ1 H1 a vs := by
  rcases h with ⟨h, n1, n2⟩ | h
  · obtain ⟨o, e⟩ := rd_some h
    exact .inl ⟨k.rd h n1, k.notin e n1, n2⟩
  · exact .inr h
theorem DctAt.mono (k : Kp ρ H ρ1 H1) {a : Addr} {kvs : List (Key × V)} (h : DctAt W ρ H a kvs) : DctAt W ρ1 H1 a kvs := by
  obtain ⟨h, n1, n2⟩ := h
  exact ⟨k.keep _ _ n1 h, k.notin h n1, n2⟩
mutual
theorem Rep.mono (k : Kp ρ H ρ1 H1) : ∀ {p : PV} {v : V}, Rep W ρ H p v → Rep W ρ1 H1 p v
  | .non, _, h => h
  | .bl _, _, h => h
  | .int _, _, h => h
  | .str _, _, h => h
  | .tup ps, v, h => by
    simp only [Rep] at h ⊢
    obtain ⟨a, vs, e, t, r⟩ := h
    exact ⟨a, vs, e, t.mono k, Reps.mono k r⟩
  | .lst ps, v, h => by
    simp only [Rep] at h ⊢
    obtain ⟨a, vs, e, t, r⟩ := h
    exact ⟨a, vs, e, t.mono k, Reps.mono k r⟩
  | .dct ks ps, v, h => by
    simp only [Rep] at h ⊢
    obtain ⟨a, vs, e, t, r, q⟩ := h
    exact ⟨a, vs, e, t.mono k, r, Reps.mono k q⟩
  | .cell i, v, h => by
    simp only [Rep] at h ⊢
    obtain ⟨a, e, r⟩ := h
    exact ⟨a, k.get e, r⟩
theorem Reps.mono (k : Kp ρ H ρ1 H1) : ∀ {ps : List PV} {vs : List V}, Reps W ρ H ps vs → Reps W ρ1 H1 ps vs
  | [], _, h => h
  | p :: ps, vs, h => by
    simp only [Reps] at h ⊢
    obtain ⟨v, r, e, q, t⟩ := h
    exact ⟨v, r, e, Rep.mono k q, Reps.mono k t⟩
end
theorem ER.mono (k : Kp ρ H ρ1 H1) {env : Env} {σ : L2.St} (h : ER W ρ H env σ) : ER W ρ1 H1 env σ :=
  ⟨h.1, fun i p e => let ⟨v, e1, r⟩ := h.2 i p e; ⟨v, e1, r.mono k⟩⟩
/-! lists of things -/
theorem Reps.length : ∀ {ps : List PV} {vs : List V}, Reps W ρ H ps vs → ps.length = vs.length
  | [], _, h => by simp only [Reps] at h; subst h; rfl
  | p :: ps, vs, h => by
    simp only [Reps] at h
    obtain ⟨v, r, e, q, t⟩ := h
    subst e
    simp [Reps.length t]
theorem Reps.nil : Reps W ρ H [] [] := by simp only [Reps]
theorem Reps.cons {p : PV} {ps : List PV} {v : V} {vs : List V} (h : Rep W ρ H p v) (t : Reps W ρ H ps vs) : Reps W ρ H (p :: ps) (v :: vs) := by
  simp only [Reps]
  exact ⟨v, vs, rfl, h, t⟩
theorem Reps.append : ∀ {ps qs : List PV} {vs ws : List V}, Reps W ρ H ps vs → Reps W ρ H qs ws → Reps W ρ H (ps ++ qs) (vs ++ ws)
  | [], _, _, _, h, h2 => by simp only [Reps] at h; subst h; exact h2
  | p :: ps, qs, vs, ws, h, h2 => by
    simp only [Reps] at h
    obtain ⟨v, r, e, q, t⟩ := h
    subst e
    exact .cons q (Reps.append t h2)
theorem Reps.get : ∀ {ps : List PV} {vs : List V} {i : Nat} {p : PV}, Reps W ρ H ps vs → ps[i]? = some p → ∃ v, vs[i]? = some v ∧ Rep W ρ H p v
  | [], _, _, _, _, e => by simp at e
  | q :: ps, vs, i, p, h, e => by
    simp only [Reps] at h
    obtain ⟨v, r, e1, q1, t⟩ := h
    subst e1
    cases i with
    | zero =>
      have e' : q = p := by simpa using e
      subst e'
      exact ⟨v, by simp, q1⟩
    | succ i =>
      obtain ⟨w, e2, r2⟩ := Reps.get (i := i) t (by simpa using e)
      exact ⟨w, by simpa using e2, r2⟩
theorem Reps.get' {ps : List PV} {vs : List V} {i : Nat} {v : V} (h : Reps W ρ H ps vs) (e : vs[i]? = some v) : ∃ p, ps[i]? = some p ∧ Rep W ρ H p v := by
  have hi : i < ps.length := by rw [h.length]; exact (List.getElem?_eq_some_iff.mp e).1
  obtain ⟨w, e1, r⟩ := h.get (List.getElem?_eq_getElem hi)
  rw [e] at e1
  cases e1
  exact ⟨_, List.getElem?_eq_getElem hi, r⟩
theorem Reps.take : ∀ {ps : List PV} {vs : List V} (n : Nat), Reps W ρ H ps vs → Reps W ρ H (ps.take n) (vs.take n)
  | _, _, 0, _ => by simp only [List.take_zero]; exact .nil
  | [], _, n + 1, h => by simp only [Reps] at h; subst h; exact .nil
  | p :: ps, vs, n + 1, h => by
    simp only [Reps] at h
    obtain ⟨v, r, e, q, t⟩ := h
    subst e
    exact .cons q (Reps.take n t)
theorem Reps.drop : ∀ {ps : List PV} {vs : List V} (n : Nat), Reps W ρ H ps vs → Reps W ρ H (ps.drop n) (vs.drop n)
  | _, _, 0, h => h
  | [], _, n + 1, h => by simp only [Reps] at h; subst h; exact .nil
  | p :: ps, vs, n + 1, h => by
    simp only [Reps] at h
    obtain ⟨v, r, e, q, t⟩ := h
    subst e
    exact Reps.drop n t
theorem Reps.set : ∀ {ps : List PV} {vs : List V} (i : Nat) {p : PV} {v : V}, Reps W ρ H ps vs → Rep W ρ H p v → Reps W ρ H (ps.set i p) (vs.set i v)
  | [], _, i, p, v, h, _ => by simp only [Reps] at h; subst h; exact .nil
  | q :: ps, vs, i, p, v, h, r => by
    simp only [Reps] at h
    obtain ⟨u, us, e, q1, t⟩ := h
    subst e
    cases i with
    | zero => exact .cons r t
    | succ i => exact .cons q1 (Reps.set i t r)
theorem Reps.eraseIdx : ∀ {ps : List PV} {vs : List V} (i : Nat), Reps W ρ H ps vs → Reps W ρ H (ps.eraseIdx i) (vs.eraseIdx i)
  | [], _, i, h => by simp only [Reps] at h; subst h; exact .nil
  | q :: ps, vs, i, h => by
    simp only [Reps] at h
    obtain ⟨u, us, e, q1, t⟩ := h
    subst e
    cases i with
    | zero => exact t
    | succ i => exact .cons q1 (Reps.eraseIdx i t)
theorem Reps.dropLast {ps : List PV} {vs : List V} (h : Reps W ρ H ps vs) : Reps W ρ H ps.dropLast vs.dropLast := by
  rw [List.dropLast_eq_take, List.dropLast_eq_take, h.length]
  exact h.take _
theorem Reps.reverse : ∀ {ps : List PV} {vs : List V}, Reps W ρ H ps vs → Reps W ρ H ps.reverse vs.reverse
  | [], _, h => by simp only [Reps] at h; subst h; exact .nil
  | p :: ps, vs, h => by
    simp only [Reps] at h
    obtain ⟨v, r, e, q, t⟩ := h
    subst e
    rw [List.reverse_cons, List.reverse_cons]
    exact (Reps.reverse t).append (.cons q .nil)
theorem Reps.flat (k : Nat) {ps : List PV} {vs : List V} (h : Reps W ρ H ps vs) : Reps W ρ H (List.replicate k ps).flatten (List.replicate k vs).flatten := by
  induction k with
  | zero => exact .nil
  | succ k ih =>
    rw [List.replicate_succ, List.replicate_succ, List.flatten_cons, List.flatten_cons]
    exact h.append ih
theorem Reps.map_str : ∀ (l : List Tx), Reps W ρ H (l.map .str) ((l.map mkS).map V.str)
  | [] => .nil
  | s :: l => .cons (by simp only [Rep]) (Reps.map_str l)
theorem Reps.of_txs : ∀ {ps : List PV} {l : List Tx} {vs : List V}, txs ps = some l → Reps W ρ H ps vs → vs = (l.map mkS).map V.str
  | [], l, vs, e, h => by
    simp only [Reps] at h
    simp only [txs, Option.some.injEq] at e
    subst e h
    rfl
  | .str s :: r, l, vs, e, h => by
    simp only [Reps] at h
    obtain ⟨v, ws, e1, q, t⟩ := h
    simp only [txs, Option.map_eq_some_iff] at e
    obtain ⟨m, e2, e3⟩ := e
    have := Reps.of_txs e2 t
    simp only [Rep] at q
    subst e1 e3 q this
    rfl
  | .non :: _, _, _, e, _ => by simp [txs] at e
  | .bl _ :: _, _, _, e, _ => by simp [txs] at e
  | .int _ :: _, _, _, e, _ => by simp [txs] at e
  | .tup _ :: _, _, _, e, _ => by simp [txs] at e
  | .lst _ :: _, _, _, e, _ => by simp [txs] at e
  | .dct _ _ :: _, _, _, e, _ => by simp [txs] at e
  | .cell _ :: _, _, _, e, _ => by simp [txs] at e
theorem Reps.of_bls : ∀ {ps : List PV} {l : List Bool} {vs : List V}, bls ps = some l → Reps W ρ H ps vs → vs = l.map V.bl
  | [], l, vs, e, h => by
    simp only [Reps] at h
    simp only [bls, Option.some.injEq] at e
    subst e h
    rfl
  | .bl s :: r, l, vs, e, h => by
    simp only [Reps] at h
    obtain ⟨v, ws, e1, q, t⟩ := h
    simp only [bls, Option.map_eq_some_iff] at e
    obtain ⟨m, e2, e3⟩ := e
    have := Reps.of_bls e2 t
    simp only [Rep] at q
    subst e1 e3 q this
    rfl
  | .non :: _, _, _, e, _ => by simp [bls] at e
  | .str _ :: _, _, _, e, _ => by simp [bls] at e
  | .int _ :: _, _, _, e, _ => by simp [bls] at e
  | .tup _ :: _, _, _, e, _ => by simp [bls] at e
  | .lst _ :: _, _, _, e, _ => by simp [bls] at e
  | .dct _ _ :: _, _, _, e, _ => by simp [bls] at e
  | .cell _ :: _, _, _, e, _ => by simp [bls] at e

/-! the heap -/
theorem TupAt.sq {a : Addr} {vs : List V} (h : TupAt W ρ H a vs) : SqT W.K H a vs := by
  rcases h with ⟨h, _⟩ | h
  · exact .inl (.inl h)
  · exact .inr h
theorem LstAt.sq {a : Addr} {vs : List V} (h : LstAt W ρ H a vs) : SqL W.K H a vs := by
  rcases h with ⟨h, _⟩ | h
  · exact .inl h
  · exact .inr h
theorem CellO.mono (k : Kp ρ H ρ1 H1) {c : Cell} {o : HO} (h : CellO W ρ H c o) : CellO W ρ1 H1 c o := by
  cases c with
  | lst ps =>
    obtain ⟨vs, q, r⟩ := h
    exact ⟨vs, q, r.mono k⟩
  | dct qs =>
    obtain ⟨vs, q, r, t⟩ := h
    exact ⟨vs, q, r, t.mono k⟩
theorem SR.cell {st : Store} (s : SR W ρ H st) {i : Nat} {a : Addr} (h : ρ[i]? = some a) : ∃ c o, st[i]? = some c ∧ H a = some o ∧ CellO W ρ H c o := by
  have hi : i < st.length := by rw [← s.len]; exact (List.getElem?_eq_some_iff.mp h).1
  obtain ⟨o, e, q⟩ := s.at_ i a _ h (List.getElem?_eq_getElem hi)
  exact ⟨_, o, List.getElem?_eq_getElem hi, e, q⟩
theorem SR.addr {st : Store} (s : SR W ρ H st) {i : Nat} {c : Cell} (h : st[i]? = some c) : ∃ a o, ρ[i]? = some a ∧ H a = some o ∧ CellO W ρ H c o := by
  have hi : i < ρ.length := by rw [s.len]; exact (List.getElem?_eq_some_iff.mp h).1
  obtain ⟨o, e, q⟩ := s.at_ i _ c (List.getElem?_eq_getElem hi) h
  exact ⟨_, o, List.getElem?_eq_getElem hi, e, q⟩
theorem SR.dom {st : Store} (s : SR W ρ H st) {a : Addr} (h : a ∈ ρ) : ∃ o, H a = some o := by
  obtain ⟨i, hi⟩ := List.mem_iff_getElem?.mp h
  obtain ⟨c, o, _, e, _⟩ := s.cell hi
  exact ⟨o, e⟩
theorem SR.off_of {st : Store} (s : SR W ρ H st) {p : Addr} (h : H p = none) : p ∉ ρ ∧ p ∉ W.μ := by
  refine ⟨fun m => ?_, fun m => ?_⟩
  · obtain ⟨o, e⟩ := s.dom m
    rw [h] at e
    cases e
  · obtain ⟨o, e⟩ := s.mu p m
    rw [h] at e
    cases e
/-- all that stands stays -/
theorem SR.ext {st : Store} (s : SR W ρ H st) (e : ∀ b o, H b = some o → H1 b = some o) : SR W ρ H1 st ∧ Kp ρ H ρ H1 := by
  have k : Kp ρ H ρ H1 := ⟨⟨[], by simp⟩, fun _ h n => absurd h n, fun b o _ h => e b o h⟩
  exact ⟨⟨s.len, s.nd, fun i a c h1 h2 => let ⟨o, e1, q⟩ := s.at_ i a c h1 h2; ⟨o, e _ _ e1, q.mono k⟩, s.off, fun a h => let ⟨o, e1⟩ := s.mu a h; ⟨o, e _ _ e1⟩⟩, k⟩
theorem upd_ext {H : Hp} {p : Addr} {o : HO} (h : H p = none) : ∀ b u, H b = some u → upd H p o b = some u := fun b u e => by
  rw [upd_ne (ne_of_none e h)]
  exact e
/-- a new thing that isn't a cell -/
theorem SR.alloc {st : Store} (s : SR W ρ H st) {p : Addr} {o : HO} (h : H p = none) : SR W ρ (upd H p o) st ∧ Kp ρ H ρ (upd H p o) := s.ext (upd_ext h)
/-- a new cell -/
theorem SR.push {st : Store} {p : Addr} {o : HO} {c : Cell} (s : SR W ρ H st) (h : H p = none) (hc : CellO W ρ H c o) : SR W (ρ ++ [p]) (upd H p o) (st ++ [c]) ∧ Kp ρ H (ρ ++ [p]) (upd H p o) := by
  obtain ⟨np, nm⟩ := s.off_of h
  have k : Kp ρ H (ρ ++ [p]) (upd H p o) := ⟨⟨[p], rfl⟩, fun b hb n => by
    rcases List.mem_append.mp hb with hb | hb
    · exact absurd hb n
    · rw [List.mem_singleton.mp hb]
      exact h, fun b u _ e => upd_ext h b u e⟩
  refine ⟨⟨by simp [s.len], ?_, fun i a d h1 h2 => ?_, fun a ha => ?_, fun a ha => ?_⟩, k⟩
  · exact List.nodup_append.mpr ⟨s.nd, by simp, fun a ha b hb => by rw [List.mem_singleton.mp hb]; rintro rfl; exact np ha⟩
  · by_cases hi : i < ρ.length
    · rw [List.getElem?_append_left hi] at h1
      rw [List.getElem?_append_left (by rw [← s.len]; exact hi)] at h2
      obtain ⟨u, e, q⟩ := s.at_ i a d h1 h2
      exact ⟨u, upd_ext h _ _ e, q.mono k⟩
    · have hi' : i = ρ.length := by
        have := (List.getElem?_eq_some_iff.mp h1).1
        simp at this
        omega
      subst hi'
      simp at h1
      have h2' : (st ++ [c])[st.length]? = some d := by rw [← s.len]; exact h2
      simp at h2'
      subst h1 h2'
      exact ⟨o, upd_same, hc.mono k⟩
  · rcases List.mem_append.mp ha with ha | ha
    · exact s.off a ha
    · rw [List.mem_singleton.mp ha]
      exact nm
  · obtain ⟨u, e⟩ := s.mu a ha
    exact ⟨u, upd_ext h _ _ e⟩
/-- a cell is changed -/
theorem SR.put {st : Store} {i : Nat} {a : Addr} {o : HO} {c : Cell} (s : SR W ρ H st) (hi : ρ[i]? = some a) (hc : CellO W ρ H c o) : SR W ρ (upd H a o) (st.set i c) ∧ Kp ρ H ρ (upd H a o) := by
  have ha : a ∈ ρ := List.mem_of_getElem? hi
  have k : Kp ρ H ρ (upd H a o) := ⟨⟨[], by simp⟩, fun _ h n => absurd h n, fun b u n e => by
    rw [upd_ne (show b ≠ a from fun z => n (by rw [z]; exact ha))]
    exact e⟩
  refine ⟨⟨by simp [s.len], s.nd, fun j b d h1 h2 => ?_, s.off, fun b hb => ?_⟩, k⟩
  · by_cases hj : j = i
    · subst hj
      rw [hi] at h1
      cases h1
      have hl : j < st.length := by rw [← s.len]; exact (List.getElem?_eq_some_iff.mp hi).1
      rw [List.getElem?_set_self hl] at h2
      cases h2
      exact ⟨o, upd_same, hc.mono k⟩
    · rw [List.getElem?_set_ne (Ne.symm hj)] at h2
      obtain ⟨u, e, q⟩ := s.at_ j b d h1 h2
      have ne : b ≠ a := by
        rintro rfl
        obtain ⟨l1, e1⟩ := List.getElem?_eq_some_iff.mp h1
        obtain ⟨l2, e2⟩ := List.getElem?_eq_some_iff.mp hi
        exact hj ((List.getElem_inj s.nd).mp (e1.trans e2.symm))
      exact ⟨u, by rw [upd_ne ne]; exact e, q.mono k⟩
  · obtain ⟨u, e⟩ := s.mu b hb
    exact ⟨u, by rw [upd_ne (show b ≠ a from fun z => s.off a ha (by rw [← z]; exact hb))]; exact e⟩
end
/-! one thing more is kept off -/
abbrev Ws.off (W : Ws) (D : Addr) : Ws := { W with μ := D :: W.μ }
section
variable {W : Ws} {ρ : List Addr} {H : Hp} {D : Addr} {o : HO}
theorem TupAt.more (h : H D = none) {a : Addr} {vs : List V} (t : TupAt W ρ H a vs) : TupAt (W.off D) ρ (upd H D o) a vs := by
  rcases t with ⟨t, n1, n2⟩ | t
  · refine .inl ⟨upd_ext h _ _ t, n1, fun m => ?_⟩
    rcases List.mem_cons.mp m with e | m
    · rw [e, h] at t
      cases t
    · exact n2 m
  · exact .inr t
theorem rd_more (h : H D = none) {a : Addr} {u : HO} (t : Rd H a u) : Rd (upd H D o) a u ∧ a ≠ D := by
  rcases t with t | ⟨q, t⟩
  · exact ⟨.inl (upd_ext h _ _ t), ne_of_none t h⟩
  · exact ⟨.inr ⟨q, upd_ext h _ _ t⟩, ne_of_none t h⟩
theorem LstAt.more (h : H D = none) {a : Addr} {vs : List V} (t : LstAt W ρ H a vs) : LstAt (W.off D) ρ (upd H D o) a vs := by
  rcases t with ⟨t, n1, n2⟩ | t
  · obtain ⟨q, n⟩ := rd_more (o := o) h t
    refine .inl ⟨q, n1, fun m => ?_⟩
    rcases List.mem_cons.mp m with e | m
    · exact n e
    · exact n2 m
  · exact .inr t
theorem DctAt.more (h : H D = none) {a : Addr} {vs : List (Key × V)} (t : DctAt W ρ H a vs) : DctAt (W.off D) ρ (upd H D o) a vs := by
  obtain ⟨t, n1, n2⟩ := t
  refine ⟨upd_ext h _ _ t, n1, fun m => ?_⟩
  rcases List.mem_cons.mp m with e | m
  · exact ne_of_none t h e
  · exact n2 m
mutual
theorem Rep.more (k : H D = none) : ∀ {p : PV} {v : V}, Rep W ρ H p v → Rep (W.off D) ρ (upd H D o) p v
  | .non, _, h => h
  | .bl _, _, h => h
  | .int _, _, h => h
  | .str _, _, h => h
  | .tup ps, v, h => by
    simp only [Rep] at h ⊢
    obtain ⟨a, vs, e, t, r⟩ := h
    exact ⟨a, vs, e, t.more k, Reps.more k r⟩
  | .lst ps, v, h => by
    simp only [Rep] at h ⊢
    obtain ⟨a, vs, e, t, r⟩ := h
    exact ⟨a, vs, e, t.more k, Reps.more k r⟩
  | .dct ks ps, v, h => by
    simp only [Rep] at h ⊢
    obtain ⟨a, vs, e, t, r, q⟩ := h
    exact ⟨a, vs, e, t.more k, r, Reps.more k q⟩
  | .cell i, v, h => h
theorem Reps.more (k : H D = none) : ∀ {ps : List PV} {vs : List V}, Reps W ρ H ps vs → Reps (W.off D) ρ (upd H D o) ps vs
  | [], _, h => h
  | p :: ps, vs, h => by
    simp only [Reps] at h ⊢
    obtain ⟨v, r, e, q, t⟩ := h
    exact ⟨v, r, e, Rep.more k q, Reps.more k t⟩
end
theorem CellO.more (k : H D = none) {c : Cell} {q : HO} (h : CellO W ρ H c q) : CellO (W.off D) ρ (upd H D o) c q := by
  cases c with
  | lst ps =>
    obtain ⟨vs, q, r⟩ := h
    exact ⟨vs, q, r.more k⟩
  | dct qs =>
    obtain ⟨vs, q, r, t⟩ := h
    exact ⟨vs, q, r, t.more k⟩
theorem SR.more {st : Store} (k : H D = none) (s : SR W ρ H st) : SR (W.off D) ρ (upd H D o) st := by
  obtain ⟨nd, nm⟩ := s.off_of k
  refine ⟨s.len, s.nd, fun i a c h1 h2 => ?_, fun a ha hm => ?_, fun a ha => ?_⟩
  · obtain ⟨q, e, r⟩ := s.at_ i a c h1 h2
    exact ⟨q, upd_ext k _ _ e, r.more k⟩
  · rcases List.mem_cons.mp hm with e | m
    · exact nd (e ▸ ha)
    · exact s.off a ha m
  · rcases List.mem_cons.mp ha with e | m
    · exact ⟨o, by rw [e]; exact upd_same⟩
    · obtain ⟨u, e⟩ := s.mu a m
      exact ⟨u, upd_ext k _ _ e⟩
theorem ER.more (k : H D = none) {env : Env} {σ : L2.St} (h : ER W ρ H env σ) : ER (W.off D) ρ (upd H D o) env σ :=
  ⟨h.1, fun i p e => let ⟨v, e1, r⟩ := h.2 i p e; ⟨v, e1, r.more k⟩⟩
/-! .. and no more -/
mutual
theorem Rep.less : ∀ {p : PV} {v : V}, Rep (W.off D) ρ H p v → Rep W ρ H p v
  | .non, _, h => h
  | .bl _, _, h => h
  | .int _, _, h => h
  | .str _, _, h => h
  | .tup ps, v, h => by
    simp only [Rep] at h ⊢
    obtain ⟨a, vs, e, t, r⟩ := h
    exact ⟨a, vs, e, t.imp (fun ⟨x, y, z⟩ => ⟨x, y, fun m => z (List.mem_cons_of_mem _ m)⟩) id, Reps.less r⟩
  | .lst ps, v, h => by
    simp only [Rep] at h ⊢
    obtain ⟨a, vs, e, t, r⟩ := h
    exact ⟨a, vs, e, t.imp (fun ⟨x, y, z⟩ => ⟨x, y, fun m => z (List.mem_cons_of_mem _ m)⟩) id, Reps.less r⟩
  | .dct ks ps, v, h => by
    simp only [Rep] at h ⊢
    obtain ⟨a, vs, e, ⟨x, y, z⟩, r, q⟩ := h
    exact ⟨a, vs, e, ⟨x, y, fun m => z (List.mem_cons_of_mem _ m)⟩, r, Reps.less q⟩
  | .cell i, v, h => h
theorem Reps.less : ∀ {ps : List PV} {vs : List V}, Reps (W.off D) ρ H ps vs → Reps W ρ H ps vs
  | [], _, h => h
  | p :: ps, vs, h => by
    simp only [Reps] at h ⊢
    obtain ⟨v, r, e, q, t⟩ := h
    exact ⟨v, r, e, Rep.less q, Reps.less t⟩
end
theorem SR.less {st : Store} (s : SR (W.off D) ρ H st) : SR W ρ H st := by
  refine ⟨s.len, s.nd, fun i a c h1 h2 => ?_, fun a ha hm => s.off a ha (List.mem_cons_of_mem _ hm), fun a ha => s.mu a (List.mem_cons_of_mem _ ha)⟩
  obtain ⟨q, e, r⟩ := s.at_ i a c h1 h2
  refine ⟨q, e, ?_⟩
  cases c with
  | lst ps =>
    obtain ⟨vs, q, r⟩ := r
    exact ⟨vs, q, r.less⟩
  | dct qs =>
    obtain ⟨vs, q, r, t⟩ := r
    exact ⟨vs, q, r, t.less⟩
/-! what is kept off may change -/
mutual
theorem Rep.poke : ∀ {p : PV} {v : V}, Rep (W.off D) ρ H p v → Rep (W.off D) ρ (upd H D o) p v
  | .non, _, h => h
  | .bl _, _, h => h
  | .int _, _, h => h
  | .str _, _, h => h
  | .tup ps, v, h => by
    simp only [Rep] at h ⊢
    obtain ⟨a, vs, e, t, r⟩ := h
    refine ⟨a, vs, e, t.imp (fun ⟨x, y, z⟩ => ⟨?_, y, z⟩) id, Reps.poke r⟩
    rw [upd_ne (show a ≠ D from fun q => z (by rw [q]; exact List.mem_cons_self))]
    exact x
  | .lst ps, v, h => by
    simp only [Rep] at h ⊢
    obtain ⟨a, vs, e, t, r⟩ := h
    refine ⟨a, vs, e, t.imp (fun ⟨x, y, z⟩ => ⟨?_, y, z⟩) id, Reps.poke r⟩
    have n : a ≠ D := fun q => z (by rw [q]; exact List.mem_cons_self)
    rcases x with x | ⟨q, x⟩
    · exact .inl (by rw [upd_ne n]; exact x)
    · exact .inr ⟨q, by rw [upd_ne n]; exact x⟩
  | .dct ks ps, v, h => by
    simp only [Rep] at h ⊢
    obtain ⟨a, vs, e, ⟨x, y, z⟩, r, q⟩ := h
    refine ⟨a, vs, e, ⟨?_, y, z⟩, r, Reps.poke q⟩
    rw [upd_ne (show a ≠ D from fun q => z (by rw [q]; exact List.mem_cons_self))]
    exact x
  | .cell i, v, h => h
theorem Reps.poke : ∀ {ps : List PV} {vs : List V}, Reps (W.off D) ρ H ps vs → Reps (W.off D) ρ (upd H D o) ps vs
  | [], _, h => h
  | p :: ps, vs, h => by
    simp only [Reps] at h ⊢
    obtain ⟨v, r, e, q, t⟩ := h
    exact ⟨v, r, e, Rep.poke q, Reps.poke t⟩
end
theorem CellO.poke {c : Cell} {q : HO} (h : CellO (W.off D) ρ H c q) : CellO (W.off D) ρ (upd H D o) c q := by
  cases c with
  | lst ps =>
    obtain ⟨vs, q, r⟩ := h
    exact ⟨vs, q, r.poke⟩
  | dct qs =>
    obtain ⟨vs, q, r, t⟩ := h
    exact ⟨vs, q, r, t.poke⟩
theorem SR.poke {st : Store} (s : SR (W.off D) ρ H st) : SR (W.off D) ρ (upd H D o) st := by
  refine ⟨s.len, s.nd, fun i a c h1 h2 => ?_, s.off, fun a ha => ?_⟩
  · obtain ⟨q, e, r⟩ := s.at_ i a c h1 h2
    have n : a ≠ D := fun z => s.off a (List.mem_of_getElem? h1) (by rw [z]; exact List.mem_cons_self)
    exact ⟨q, by rw [upd_ne n]; exact e, r.poke⟩
  · by_cases n : a = D
    · exact ⟨o, by rw [n]; exact upd_same⟩
    · obtain ⟨u, e⟩ := s.mu a ha
      exact ⟨u, by rw [upd_ne n]; exact e⟩
theorem ER.poke {env : Env} {σ : L2.St} (h : ER (W.off D) ρ H env σ) : ER (W.off D) ρ (upd H D o) env σ :=
  ⟨h.1, fun i p e => let ⟨v, e1, r⟩ := h.2 i p e; ⟨v, e1, r.poke⟩⟩
/-- what was kept off, begun at H, stands at last as o' -/
theorem Kp.poke {ρ1 : List Addr} {H1 : Hp} {o' : HO} (h : H D = none) (k : Kp ρ (upd H D o) ρ1 H1) (hD : D ∉ ρ) : Kp ρ H ρ1 (upd H1 D o') := by
  refine ⟨k.pre, fun b hb n => ?_, fun b u n e => ?_⟩
  · have q := k.new b hb n
    by_cases z : b = D
    · rw [z]; exact h
    · rwa [upd_ne z] at q
  · have z : b ≠ D := ne_of_none e h
    rw [upd_ne z]
    exact k.keep b u n (by rw [upd_ne z]; exact e)
theorem Kp.unmore {ρ1 : List Addr} {H1 : Hp} (h : H D = none) (k : Kp ρ (upd H D o) ρ1 H1) : Kp ρ H ρ1 H1 := by
  refine ⟨k.pre, fun b hb n => ?_, fun b u n e => ?_⟩
  · have q := k.new b hb n
    by_cases z : b = D
    · rw [z]; exact h
    · rwa [upd_ne z] at q
  · have z : b ≠ D := ne_of_none e h
    exact k.keep b u n (by rw [upd_ne z]; exact e)
mutual
theorem Rep.grow : ∀ {p : PV} {v : V}, Rep (W.off D) ρ H p v → Rep W (ρ ++ [D]) (upd H D o) p v
  | .non, _, h => h
  | .bl _, _, h => h
  | .int _, _, h => h
  | .str _, _, h => h
  | .tup ps, v, h => by
    simp only [Rep] at h ⊢
    obtain ⟨a, vs, e, t, r⟩ := h
    refine ⟨a, vs, e, t.imp (fun ⟨x, y, z⟩ => ?_) id, Reps.grow r⟩
    have n : a ≠ D := fun q => z (by rw [q]; exact List.mem_cons_self)
    exact ⟨by rw [upd_ne n]; exact x, fun m => (List.mem_append.mp m).elim y fun q => n (List.mem_singleton.mp q), fun m => z (List.mem_cons_of_mem _ m)⟩
  | .lst ps, v, h => by
    simp only [Rep] at h ⊢
    obtain ⟨a, vs, e, t, r⟩ := h
    refine ⟨a, vs, e, t.imp (fun ⟨x, y, z⟩ => ?_) id, Reps.grow r⟩
    have n : a ≠ D := fun q => z (by rw [q]; exact List.mem_cons_self)
    refine ⟨?_, fun m => (List.mem_append.mp m).elim y fun q => n (List.mem_singleton.mp q), fun m => z (List.mem_cons_of_mem _ m)⟩
    rcases x with x | ⟨q, x⟩
    · exact .inl (by rw [upd_ne n]; exact x)
    · exact .inr ⟨q, by rw [upd_ne n]; exact x⟩
  | .dct ks ps, v, h => by
    simp only [Rep] at h ⊢
    obtain ⟨a, vs, e, ⟨x, y, z⟩, r, q⟩ := h
    have n : a ≠ D := fun q => z (by rw [q]; exact List.mem_cons_self)
    exact ⟨a, vs, e, ⟨by rw [upd_ne n]; exact x, fun m => (List.mem_append.mp m).elim y fun q => n (List.mem_singleton.mp q), fun m => z (List.mem_cons_of_mem _ m)⟩, r, Reps.grow q⟩
  | .cell i, v, h => by
    simp only [Rep] at h ⊢
    obtain ⟨a, e, r⟩ := h
    exact ⟨a, by rw [List.getElem?_append_left (List.getElem?_eq_some_iff.mp e).1]; exact e, r⟩
theorem Reps.grow : ∀ {ps : List PV} {vs : List V}, Reps (W.off D) ρ H ps vs → Reps W (ρ ++ [D]) (upd H D o) ps vs
  | [], _, h => h
  | p :: ps, vs, h => by
    simp only [Reps] at h ⊢
    obtain ⟨v, r, e, q, t⟩ := h
    exact ⟨v, r, e, Rep.grow q, Reps.grow t⟩
end
/-- what was kept off becomes a cell -/
theorem SR.adopt {st : Store} {c : Cell} (s : SR (W.off D) ρ H st) (hm : D ∉ W.μ) (hc : CellO (W.off D) ρ H c o) : SR W (ρ ++ [D]) (upd H D o) (st ++ [c]) := by
  have np : D ∉ ρ := fun z => s.off D z List.mem_cons_self
  have lift : ∀ {c : Cell} {q : HO}, CellO (W.off D) ρ H c q → CellO W (ρ ++ [D]) (upd H D o) c q := by
    intro c q h
    have up : ∀ {ps : List PV} {vs : List V}, Reps (W.off D) ρ H ps vs → Reps W (ρ ++ [D]) (upd H D o) ps vs := by
      intro ps vs r
      exact Reps.grow r
    cases c with
    | lst ps =>
      obtain ⟨vs, q, r⟩ := h
      exact ⟨vs, q, up r⟩
    | dct qs =>
      obtain ⟨vs, q, r, t⟩ := h
      exact ⟨vs, q, r, up t⟩
  refine ⟨by simp [s.len], ?_, fun i a d h1 h2 => ?_, fun a ha => ?_, fun a ha => ?_⟩
  · exact List.nodup_append.mpr ⟨s.nd, by simp, fun a ha b hb => by rw [List.mem_singleton.mp hb]; rintro rfl; exact np ha⟩
  · by_cases hi : i < ρ.length
    · rw [List.getElem?_append_left hi] at h1
      rw [List.getElem?_append_left (by rw [← s.len]; exact hi)] at h2
      obtain ⟨u, e, q⟩ := s.at_ i a d h1 h2
      have n : a ≠ D := fun z => np (by rw [← z]; exact List.mem_of_getElem? h1)
      exact ⟨u, by rw [upd_ne n]; exact e, lift q⟩
    · have hi' : i = ρ.length := by
        have := (List.getElem?_eq_some_iff.mp h1).1
        simp at this
        omega
      subst hi'
      simp at h1
      have h2' : (st ++ [c])[st.length]? = some d := by rw [← s.len]; exact h2
      simp at h2'
      subst h1 h2'
      exact ⟨o, upd_same, lift hc⟩
  · rcases List.mem_append.mp ha with ha | ha
    · exact fun z => s.off a ha (List.mem_cons_of_mem _ z)
    · rw [List.mem_singleton.mp ha]
      exact hm
  · obtain ⟨u, e⟩ := s.mu a (List.mem_cons_of_mem _ ha)
    have n : a ≠ D := fun z => hm (by rw [← z]; exact ha)
    exact ⟨u, by rw [upd_ne n]; exact e⟩
end
end Lt

/-! Lt3: operators, comparisons, items, slices, built-ins, methods: the machine does what is said. -/
namespace Lt
open PySem PySem.Spec PyProof.Rows L2

/-! ### runs -/
theorem bd_some {α β : Type} {m : M α} {k : α → M β} {st : Store} {r : β × Store} : bd m k st = some r ↔ ∃ a st1, m st = some (a, st1) ∧ k a st1 = some r := by
  unfold bd
  cases e : m st with
  | none => simp
  | some x =>
    obtain ⟨y, z⟩ := x
    simp only [Option.some.injEq, Prod.mk.injEq]
    exact ⟨fun h => ⟨y, z, ⟨rfl, rfl⟩, h⟩, fun ⟨_, _, ⟨e1, e2⟩, h⟩ => by subst e1 e2; exact h⟩
theorem pr_some {α : Type} {a b : α} {st st' : Store} : pr a st = some (b, st') ↔ a = b ∧ st = st' := by simp [pr]
theorem no_some {α : Type} {st : Store} {r : α × Store} : (no : M α) st = some r ↔ False := by simp [no]
theorem grd_some {p : Prop} {st st' : Store} {u : Unit} : grd p st = some (u, st') ↔ p ∧ st = st' := by
  unfold grd
  by_cases h : p
  · simp [h]
  · simp [h]
theorem ofO_some {α : Type} {o : Option α} {b : α} {st st' : Store} : ofO o st = some (b, st') ↔ o = some b ∧ st = st' := by
  cases o <;> simp [ofO, pr, no]
theorem itemsLM_some {p : PV} {xs : List PV} {st st' : Store} : itemsLM p st = some (xs, st') ↔ itemsL p st = some xs ∧ st = st' := by
  unfold itemsLM
  cases itemsL p st <;> simp
theorem itemsDM_some {p : PV} {xs : List (DK × PV)} {st st' : Store} : itemsDM p st = some (xs, st') ↔ itemsD p st = some xs ∧ st = st' := by
  unfold itemsDM
  cases itemsD p st <;> simp

/-! ### what is wanted behind -/
def Post (W : Ws) (ρ : List Addr) (H : Hp) (p : PV) (st : Store) (Q : VK) : Prop := ∀ ρ' H' w, Kp ρ H ρ' H' → SR W ρ' H' st → Rep W ρ' H' p w → Q w H'
def PostA (W : Ws) (ρ : List Addr) (H : Hp) (ps : List PV) (st : Store) (Q : List V → Hp → Prop) : Prop := ∀ ρ' H' ws, Kp ρ H ρ' H' → SR W ρ' H' st → Reps W ρ' H' ps ws → Q ws H'
def PostT (W : Ws) (ρ : List Addr) (H : Hp) (b : Bool) (st : Store) (Q : Bool → Hp → Prop) : Prop := ∀ ρ' H', Kp ρ H ρ' H' → SR W ρ' H' st → Q b H'
section
variable {W : Ws} {ρ ρ1 : List Addr} {H H1 : Hp} {p : PV} {st : Store} {Q : VK}
theorem Post.here (h : Post W ρ H p st Q) (s : SR W ρ H st) {w : V} (r : Rep W ρ H p w) : Q w H := h ρ H w .refl s r
theorem Post.mono (h : Post W ρ H p st Q) (k : Kp ρ H ρ1 H1) : Post W ρ1 H1 p st Q := fun ρ' H' w k' s r => h ρ' H' w (k.trans k') s r
theorem Rep.newTup {ps : List PV} {vs : List V} {a : Addr} (s : SR W ρ H st) (h : H a = none) (r : Reps W ρ H ps vs) : Rep W ρ (upd H a (.tup vs)) (.tup ps) (.ref a) := by
  simp only [Rep]
  exact ⟨a, vs, rfl, .inl ⟨upd_same, (s.off_of h).1, (s.off_of h).2⟩, r.mono (s.alloc h).2⟩
theorem Rep.newLst {ps : List PV} {vs : List V} {a : Addr} (s : SR W ρ H st) (h : H a = none) (r : Reps W ρ H ps vs) : Rep W ρ (upd H a (.lst vs)) (.lst ps) (.ref a) := by
  simp only [Rep]
  exact ⟨a, vs, rfl, .inl ⟨.inl upd_same, (s.off_of h).1, (s.off_of h).2⟩, r.mono (s.alloc h).2⟩
theorem Post.newTup {ps : List PV} {vs : List V} {a : Addr} (h : Post W ρ H (.tup ps) st Q) (s : SR W ρ H st) (ha : H a = none) (r : Reps W ρ H ps vs) : Q (.ref a) (upd H a (.tup vs)) :=
  h ρ _ _ (s.alloc ha).2 (s.alloc ha).1 (.newTup s ha r)
theorem Post.newLst {ps : List PV} {vs : List V} {a : Addr} (h : Post W ρ H (.lst ps) st Q) (s : SR W ρ H st) (ha : H a = none) (r : Reps W ρ H ps vs) : Q (.ref a) (upd H a (.lst vs)) :=
  h ρ _ _ (s.alloc ha).2 (s.alloc ha).1 (.newLst s ha r)
/-- a list's items as they stand -/
theorem Rep.list {xs : List PV} {v : V} (s : SR W ρ H st) (h : itemsL p st = some xs) (r : Rep W ρ H p v) : ∃ a vs, v = .ref a ∧ SqL W.K H a vs ∧ Reps W ρ H xs vs := by
  cases p with
  | lst ps =>
    simp only [itemsL, Option.some.injEq] at h
    subst h
    simp only [Rep] at r
    obtain ⟨a, vs, e, t, q⟩ := r
    exact ⟨a, vs, e, t.sq, q⟩
  | cell i =>
    simp only [Rep] at r
    obtain ⟨a, e, ev⟩ := r
    obtain ⟨c, o, e1, e2, q⟩ := s.cell e
    simp only [itemsL, e1] at h
    cases c with
    | lst ps =>
      simp only [Option.some.injEq] at h
      subst h
      obtain ⟨vs, rfl, q⟩ := q
      exact ⟨a, vs, ev, .inl (.inl e2), q⟩
    | dct _ => cases h
  | _ => simp [itemsL] at h
theorem Rep.tuple {xs : List PV} {v : V} (r : Rep W ρ H (.tup xs) v) : ∃ a vs, v = .ref a ∧ SqT W.K H a vs ∧ Reps W ρ H xs vs := by
  simp only [Rep] at r
  obtain ⟨a, vs, e, t, q⟩ := r
  exact ⟨a, vs, e, t.sq, q⟩
end
theorem SL_eq : SL = sizeLine := by rw [sizeLine_eq]; rfl

/-! ### operators -/
def rO (K : PySem.W.Frag) (f : PV → PV → M PV) : R2 := fun x y H Q => ∃ μ ρ st p q r st', Rep ⟨K, μ⟩ ρ H p x ∧ Rep ⟨K, μ⟩ ρ H q y ∧ SR ⟨K, μ⟩ ρ H st ∧ f p q st = some (r, st') ∧ Post ⟨K, μ⟩ ρ H r st' Q
theorem rep_len {α : Type} (xs : List α) (k : Int) : (rep xs k).length = xs.length * k.toNat := by
  unfold rep
  rw [PyProof.Rows.lm_len_rep_flat, Nat.mul_comm]
section
variable {X : Cx}
theorem bo_sub : OpR X (binaryOp .Sub) (rO X.K (bop .sub)) := by
  rintro pins s σ H x y v u Q I rx ry ⟨μ, ρ, st, p, q, r, st', rp, rq, sr, hf, post⟩
  cases p <;> cases q <;> simp only [bop, no_some, pr_some] at hf
  case int.int a b =>
    obtain ⟨rfl, rfl⟩ := hf
    simp only [Rep] at rp rq
    subst rp rq
    exact op_sub pins s σ H _ _ v u Q I rx ry ⟨a, b, rfl, rfl, post.here sr (by simp only [Rep])⟩
theorem bo_fdiv : OpR X (binaryOp .FloorDiv) (rO X.K (bop .fdiv)) := by
  rintro pins s σ H x y v u Q I rx ry ⟨μ, ρ, st, p, q, r, st', rp, rq, sr, hf, post⟩
  cases p <;> cases q <;> simp only [bop, rdiv, bd_some, grd_some, no_some, pr_some] at hf
  case int.int a b =>
    obtain ⟨_, _, ⟨hc, rfl⟩, rfl, rfl⟩ := hf
    simp only [Rep] at rp rq
    subst rp rq
    exact op_fdivW pins s σ H _ _ v u Q I rx ry ⟨a, b, rfl, rfl, hc, post.here sr (by simp only [Rep])⟩
theorem bo_mod : OpR X (binaryOp .Mod) (rO X.K (bop .mod)) := by
  rintro pins s σ H x y v u Q I rx ry ⟨μ, ρ, st, p, q, r, st', rp, rq, sr, hf, post⟩
  cases p <;> cases q <;> simp only [bop, rmod, bd_some, grd_some, no_some, pr_some] at hf
  case int.int a b =>
    obtain ⟨_, _, ⟨hc, rfl⟩, rfl, rfl⟩ := hf
    simp only [Rep] at rp rq
    subst rp rq
    exact op_mod pins s σ H _ _ v u Q I rx ry ⟨a, b, rfl, rfl, hc, post.here sr (by simp only [Rep])⟩
theorem bo_pow : OpR X (binaryOp .Pow) (rO X.K (bop .pow)) := by
  rintro pins s σ H x y v u Q I rx ry ⟨μ, ρ, st, p, q, r, st', rp, rq, sr, hf, post⟩
  cases p <;> cases q <;> simp only [bop, rmod, bd_some, grd_some, no_some, pr_some] at hf
  case int.int a b =>
    obtain ⟨_, _, ⟨hc, rfl⟩, rfl, rfl⟩ := hf
    simp only [Rep] at rp rq
    subst rp rq
    exact op_pow pins s σ H _ _ v u Q I rx ry ⟨a, b, rfl, rfl, hc, post.here sr (by simp only [Rep])⟩
/-- a list, whoever made it -/
theorem add_lists {pins : List (Addr × Obj)} {s : Shared} {σ : L2.St} {H : Hp} {a b : Addr} {xs ys : List V} {Q : VK} (I : Inv X pins σ H s) (ha : SqL X.K H a xs) (hb : SqL X.K H b ys) (hz : xs.length + ys.length ≤ sizeLine)
    (q : ∀ p, H p = none → Q (.ref p) (upd H p (.lst (xs ++ ys)))) : wpAny (model X.prog X.w) X.A (binaryOp .Add (.ref a) (.ref b)) (EP X pins σ Q) X.xe s := by
  obtain ⟨its, r, p1, _⟩ := I.list ha
  obtain ⟨its2, r2, p2, _⟩ := I.list hb
  obtain ⟨⟨cls, dd, data, sl⟩, ho, hc, n, hd⟩ := p1.isList
  obtain ⟨⟨cls2, dd2, data2, sl2⟩, ho2, hc2, n2, hd2⟩ := p2.isList
  simp only at hc hd hc2 hd2
  subst hc hd hc2 hd2
  have e : its.toArray ++ its2.toArray = (its ++ its2).toArray := by simp
  have h1 := r.length
  have h2 := r2.length
  refine concat_meets ⟨_, ho, rfl⟩ ⟨_, ho2, rfl⟩ noFill_list_add seq_list_add PySem.F.slot_list_add PySem.F.entry_list_add (PySem.F.args_list_add_2 _ _)
    (PyProof.Rows.list_addW a b its.toArray its2.toArray n n2 dd dd2 sl sl2 (by simp only [List.size_toArray]; omega)) ⟨ho, ho2, ?_⟩
  rw [e]
  exact ⟨.ref _, _, I.lnew (t' := s.toks) (r.append r2) (by rw [List.length_append]; omega), rfl, q _ I.fresh⟩
theorem bo_add : OpR X (binaryOp .Add) (rO X.K (bop .add)) := by
  rintro pins s σ H x y v u Q I rx ry ⟨μ, ρ, st, p, q, r, st', rp, rq, sr, hf, post⟩
  have lists : ∀ a b, itemsL p st = some a → itemsL q st = some b → a.length + b.length ≤ SL → r = .lst (a ++ b) → st = st' → wpAny (model X.prog X.w) X.A (binaryOp .Add v u) (EP X pins σ Q) X.xe s := by
    rintro a b h1 h2 hz rfl rfl
    obtain ⟨l1, vs, rfl, q1, t1⟩ := rp.list sr h1
    obtain ⟨l2, ws, rfl, q2, t2⟩ := rq.list sr h2
    cases rx
    cases ry
    exact add_lists I q1 q2 (by rw [← t1.length, ← t2.length, ← SL_eq]; exact hz) fun p hp => post.newLst sr hp (t1.append t2)
  cases p <;> cases q <;> simp only [bop, bd_some, grd_some, no_some, pr_some, itemsLM_some, itemsL] at hf
  case int.int a b =>
    obtain ⟨rfl, rfl⟩ := hf
    simp only [Rep] at rp rq
    subst rp rq
    exact op_add pins s σ H _ _ v u Q I rx ry ⟨a, b, rfl, rfl, post.here sr (by simp only [Rep])⟩
  case str.str a b =>
    obtain ⟨_, _, ⟨hc, rfl⟩, rfl, rfl⟩ := hf
    simp only [Rep] at rp rq
    subst rp rq
    refine op_add_str pins s σ H _ _ v u Q I rx ry ⟨mkS a, mkS b, rfl, rfl, ?_, post.here sr (by simp only [Rep, mkS_app])⟩
    rw [mkS_len, mkS_len, ← SL_eq]
    exact hc
  case tup.tup a b =>
    obtain ⟨_, _, ⟨hc, rfl⟩, rfl, rfl⟩ := hf
    obtain ⟨l1, vs, rfl, q1, t1⟩ := rp.tuple
    obtain ⟨l2, ws, rfl, q2, t2⟩ := rq.tuple
    have len1 := t1.length
    have len2 := t2.length
    refine op_catA pins s σ H _ _ v u Q I rx ry ⟨l1, l2, vs, ws, rfl, rfl, q1, q2, by rw [← len1, ← len2, ← SL_eq]; exact hc, fun e => ?_, fun _ e => ?_, fun _ _ p hp => post.newTup sr hp (t1.append t2)⟩
    · subst e
      rw [List.length_nil, List.length_eq_zero_iff] at len1
      subst len1
      exact post.here sr rq
    · subst e
      rw [List.length_nil, List.length_eq_zero_iff] at len2
      subst len2
      exact post.here sr (by rw [List.append_nil]; exact rp)
  case lst.lst a b =>
    obtain ⟨_, _, ⟨e1, rfl⟩, _, _, ⟨e2, rfl⟩, _, _, ⟨hc, rfl⟩, e3, e4⟩ := hf
    exact lists _ _ (by simp only [itemsL]; exact e1) (by simp only [itemsL]; exact e2) hc e3.symm e4
  case lst.cell a b =>
    obtain ⟨_, _, ⟨e1, rfl⟩, _, _, ⟨e2, rfl⟩, _, _, ⟨hc, rfl⟩, e3, e4⟩ := hf
    exact lists _ _ (by simp only [itemsL]; exact e1) (by simp only [itemsL]; exact e2) hc e3.symm e4
  case cell.lst a b =>
    obtain ⟨_, _, ⟨e1, rfl⟩, _, _, ⟨e2, rfl⟩, _, _, ⟨hc, rfl⟩, e3, e4⟩ := hf
    exact lists _ _ (by simp only [itemsL]; exact e1) (by simp only [itemsL]; exact e2) hc e3.symm e4
  case cell.cell a b =>
    obtain ⟨_, _, ⟨e1, rfl⟩, _, _, ⟨e2, rfl⟩, _, _, ⟨hc, rfl⟩, e3, e4⟩ := hf
    exact lists _ _ (by simp only [itemsL]; exact e1) (by simp only [itemsL]; exact e2) hc e3.symm e4
  all_goals simp at hf

/-! a list times a number -/
theorem int_rmul_listG (a : Int) (t : Tok) (l : Addr) (items : Array Value) (n : Nat) (dd : Option Addr) (sl : Array (Option Value)) :
    Meets (Builtin.«int.__rmul__» ⟨[.int a t, .ref l], []⟩) (fun _ R s => s.heap.get? l = some { cls := .type "list", dict := dd, data := .seq items n, slots := sl } ∧ R (.ok (.ret Value.notImplemented)) s) :=
  .of_wp fun prog w A R s h => by obtain ⟨hp, gg, dd, tk, os⟩ := s; obtain ⟨hl, h⟩ := h; wp_walk using wpAny_loadPart' hl; exact ⟨_, rfl, h⟩
theorem list_mulG (l : Addr) (items : Array Value) (n : Nat) (dd : Option Addr) (sl : Array (Option Value)) (x : Int) (u : Tok) (hc0 : ¬(!Builtin.List.listFitsIndex x) = true) (hc1 : ¬items.size * x.toNat > (2 ^ 63 - 1) / 8) (hc2 : ¬Builtin.List.listTooLong (items.size * x.toNat) = true) :
    Meets (Builtin.«list.__mul__» ⟨[.ref l, .int x u], []⟩) (fun _ R s => s.heap.get? l = some { cls := .type "list", dict := dd, data := .seq items n, slots := sl } ∧ R (.ok (.ret (Value.ref s.heap.objs.size))) { s with heap := s.heap.push { cls := Value.type "list", data := Data.seq (List.foldl (fun x1 x2 => x1 ++ x2) #[] (List.replicate (if items.isEmpty = true then 0 else x.toNat) items)) }, toks := s.toks }) :=
  .of_wp fun prog w A R s h => by
    obtain ⟨hp, gg, dd, tk, os⟩ := s; obtain ⟨hl, h⟩ := h
    have hSq := AutoListH.joined_fits hc2
    have f1 := AutoSeq1.idx_int
    wp_walk using wpAny_loadPart' hl; refine wpAny_ite_false (decide_eq_false (Nat.not_lt.mpr hSq)) ?_; wp_walk using wpAny_loadPart' hl; exact ⟨_, rfl, h⟩
theorem mul_list {pins : List (Addr × Obj)} {s : Shared} {σ : L2.St} {H : Hp} {l : Addr} {xs : List V} {k : Int} {t : Tok} {Q : VK} (I : Inv X pins σ H s) (hl : SqL X.K H l xs) (h1 : -(2 ^ 63) ≤ k) (h2 : k < 2 ^ 63) (hz : xs.length * k.toNat ≤ sizeLine)
    (q : ∀ p, H p = none → Q (.ref p) (upd H p (.lst (rep xs k)))) : wpAny (model X.prog X.w) X.A (binaryOp .Mult (.ref l) (.int k t)) (EP X pins σ Q) X.xe s := by
  obtain ⟨its, r, p1, _⟩ := I.list hl
  obtain ⟨⟨cls, dd, data, sl⟩, ho, hc, n, hd⟩ := p1.isList
  simp only at hc hd
  subst hc hd
  have hlen0 := r.length
  have hlen : its.toArray.size * k.toNat ≤ sizeLine := by rw [List.size_toArray, ← hlen0]; exact hz
  have hCa : ¬ its.toArray.size * k.toNat > (2 ^ 63 - 1) / 8 := by
    have : (sizeLine : Nat) ≤ (2 ^ 63 - 1) / 8 := by decide
    omega
  have hFi : ¬ (!Builtin.List.listFitsIndex k) = true := by
    rw [fitsIndex_both h1 h2]
    exact Bool.false_ne_true
  have hLo : ¬ Builtin.List.listTooLong (its.toArray.size * k.toNat) = true := by
    rw [notLongL hlen]
    exact Bool.false_ne_true
  have hNw : List.foldl (fun x1 x2 => x1 ++ x2) #[] (List.replicate (if its.toArray.isEmpty = true then 0 else k.toNat) its.toArray) = (List.replicate k.toNat its).flatten.toArray := by
    have fAll : ∀ m : Nat, List.foldl (fun x1 x2 => x1 ++ x2) #[] (List.replicate m its.toArray) = (List.replicate m its).flatten.toArray := fun m => by
      have := foldl_rep its m []
      rw [List.nil_append] at this
      exact this
    rw [fAll]
    cases its with
    | nil => simp
    | cons a r' => rw [if_neg (by simp)]
  refine wpAny_binaryOp_repeat_ref (T := "list") (U := "int") (by decide) ⟨_, ho, rfl⟩ (fun s' => typeIs_int s' k t) noFill_list_mul F.fills_int_mul F.slot_int_rmul repeat_list F.slot_int_index.lookup
    (call_meets F.slot_int_rmul (typeIs_int s k t) F.entry_int_rmul (F.args_int_rmul_2 _ _) (int_rmul_listG k t l its.toArray n dd sl)
      ⟨ho, rfl, ⟨_, ho, rfl⟩, call_meets F.slot_list_mul ⟨_, ho, rfl⟩ F.entry_list_mul (F.args_list_mul_2 _ _) (list_mulG l its.toArray n dd sl k t hFi hCa hLo) ⟨ho, ?_⟩⟩)
  rw [hNw]
  exact ⟨.ref _, _, I.lnew (t' := s.toks) (r.rep k.toNat) (by rw [PyProof.Rows.lm_len_rep_flat, Nat.mul_comm]; exact hz), rfl, q _ I.fresh⟩
theorem rep_mkS (a : Tx) (n : Nat) : (⟨(List.replicate n (mkS a).cps).foldl (· ++ ·) #[]⟩ : Str) = mkS (List.replicate n a).flatten := by
  have h : ∀ (m : Nat) (acc : List Nat), (List.replicate m (mkS a).cps).foldl (· ++ ·) acc.toArray = (acc ++ (List.replicate m a).flatten).toArray := by
    intro m
    induction m with
    | zero => intro acc; simp
    | succ m ih =>
      intro acc
      rw [List.replicate_succ, List.foldl_cons, List.replicate_succ, List.flatten_cons]
      have e : acc.toArray ++ (mkS a).cps = (acc ++ a).toArray := by simp [mkS]
      rw [e, ih, List.append_assoc]
  have := h n []
  simp only [List.nil_append] at this
  unfold mkS at this ⊢
  rw [this]
theorem bo_mul : OpR X (binaryOp .Mult) (rO X.K (bop .mul)) := by
  rintro pins s σ H x y v u Q I rx ry ⟨μ, ρ, st, p, q, r, st', rp, rq, sr, hf, post⟩
  cases p <;> cases q <;> simp only [bop, bd_some, grd_some, no_some, pr_some, itemsLM_some, itemsL] at hf
  case int.int a b =>
    obtain ⟨_, _, ⟨hc, rfl⟩, rfl, rfl⟩ := hf
    simp only [Rep] at rp rq
    subst rp rq
    rcases hc with hc | hc
    · exact op_mul pins s σ H _ _ v u Q I rx ry ⟨a, b, rfl, rfl, hc, post.here sr (by simp only [Rep])⟩
    · exact op_mulW pins s σ H _ _ v u Q I rx ry ⟨a, b, rfl, rfl, hc, post.here sr (by simp only [Rep])⟩
  case str.int a b =>
    obtain ⟨_, _, ⟨⟨h1, h2, h3⟩, rfl⟩, rfl, rfl⟩ := hf
    simp only [Rep] at rp rq
    subst rp rq
    obtain ⟨t, rfl⟩ := rx
    obtain ⟨t', rfl⟩ := ry
    have hz : (sizeLine : Nat) < 2 ^ 63 := line63
    rw [SL_eq] at h3
    have fin : ∀ k, (.str (mkS (rep a b)) : V) = k → EP X pins σ Q (.str (mkS (rep a b)) s.toks) { s with toks := s.toks + 1 } := fun _ _ => ⟨.str (mkS (rep a b)), H, I.tok _, ⟨_, rfl⟩, post.here sr (by simp only [Rep])⟩
    refine PySem.P.mul_str (by rw [decide_eq_false (by omega), decide_eq_false (by omega)] <;> rfl) (fun hb _ => ?_) (fun hb _ => ?_) ?_
    · rw [mkS_len]
      have hb' : 0 < b := by omega
      intro hgt
      have h4 : (2 ^ 63 - 1 : Int) < (a.length : Int) * b := by
        have := Int.lt_mul_of_ediv_lt hb' hgt
        exact this
      have h5 : (a.length : Int) * b = ((a.length * b.toNat : Nat) : Int) := by
        rw [Int.natCast_mul, Int.toNat_of_nonneg (by omega)]
      omega
    · rw [mkS_len]
      show decide (a.length * b.toNat > sizeLine) = false
      exact decide_eq_false (by omega)
    · by_cases hb : b < 1
      · rw [if_pos hb]
        have e : rep a b = [] := by
          unfold rep
          rw [show b.toNat = 0 by omega]
          rfl
        refine ⟨by decide, ?_⟩
        have := fin _ rfl
        rw [e] at this
        exact this
      · rw [if_neg hb]
        by_cases h6 : (b == 1 || (mkS a).length == 0) = true
        · rw [if_pos h6]
          have e : rep a b = a := by
            rw [mkS_len] at h6
            unfold rep
            rcases Bool.or_eq_true_iff.mp h6 with h | h
            · have : b = 1 := by simpa using h
              subst this
              simp
            · have : a = [] := by
                apply List.eq_nil_of_length_eq_zero
                simpa using h
              subst this
              simp
          exact ⟨.str (mkS a), H, I, ⟨t, rfl⟩, post.here sr (by simp only [Rep, e])⟩
        · rw [if_neg h6]
          rw [rep_mkS]
          refine ⟨?_, fin _ rfl⟩
          rw [mkS_len]
          have := rep_len a b
          unfold rep at this
          omega
  case tup.int a b =>
    obtain ⟨_, _, ⟨⟨h0, h1, h2, h3⟩, rfl⟩, rfl, rfl⟩ := hf
    obtain ⟨l1, vs, rfl, q1, t1⟩ := rp.tuple
    simp only [Rep] at rq
    subst rq
    have len1 := t1.length
    refine op_repT pins s σ H _ _ v u Q I rx ry ⟨l1, b, vs, rfl, rfl, q1, fun e => ?_, h1, h2, by omega, fun p hp => post.newTup sr hp (t1.flat _)⟩
    subst e
    rw [List.length_nil, List.length_eq_zero_iff] at len1
    exact h0 len1
  case lst.int a b =>
    obtain ⟨_, _, ⟨⟨h1, h2, h3⟩, rfl⟩, rfl, rfl⟩ := hf
    obtain ⟨l1, vs, rfl, q1, t1⟩ := rp.list sr (xs := a) (by simp only [itemsL])
    simp only [Rep] at rq
    subst rq
    obtain ⟨t', rfl⟩ := ry
    cases rx
    have len1 := t1.length
    exact mul_list I q1 h1 h2 (by rw [← len1, ← SL_eq]; exact h3) fun p hp => post.newLst sr hp (t1.flat _)
end
end Lt

/-! Lt4: comparisons, truth, items, slices, stores. -/
namespace Lt
open PySem PySem.Spec PyProof.Rows L2

/-! ### == -/
mutual
def toD : PV → PyData
  | .non => .none
  | .bl b => .bool b
  | .int i => .int i
  | .str s => .str (mkS s)
  | .tup xs => .tuple (toDs xs)
  | .lst xs => .list (toDs xs)
  | .dct _ _ => .none
  | .cell _ => .none
def toDs : List PV → List PyData
  | [] => []
  | x :: r => toD x :: toDs r
end
theorem strOk_mkS {s : Tx} (h : s.all okC = true) : PyData.strOk (mkS s) = true := by
  unfold PyData.strOk mkS
  rw [List.all_eq_true] at h
  simp only [List.all_toArray, List.all_eq_true, decide_eq_true_eq]
  intro c hc
  have := h c hc
  unfold okC at this
  have := of_decide_eq_true this
  omega
mutual
theorem okD_canLay : ∀ (n : Nat) (p : PV), okD n p = true → (toD p).canLay0 = true
  | _, .non, _ => by simp only [toD, PyData.canLay0]
  | _, .bl _, _ => by simp only [toD, PyData.canLay0]
  | _, .int _, _ => by simp only [toD, PyData.canLay0]
  | _, .str s, h => by
    simp only [okD] at h
    simp only [toD, PyData.canLay0]
    exact strOk_mkS h
  | 0, .tup xs, h => by simp [okD] at h
  | n + 1, .tup xs, h => by
    simp only [okD] at h
    simp only [toD, PyData.canLay0]
    exact okDs_canLay n xs h
  | 0, .lst xs, h => by simp [okD] at h
  | n + 1, .lst xs, h => by
    simp only [okD] at h
    simp only [toD, PyData.canLay0]
    exact okDs_canLay n xs h
  | _, .dct _ _, h => by simp [okD] at h
  | _, .cell _, h => by simp [okD] at h
theorem okDs_canLay : ∀ (n : Nat) (ps : List PV), okDs n ps = true → PyData.canLayAll0 (toDs ps) = true
  | _, [], _ => by simp only [toDs, PyData.canLayAll0]
  | n, x :: r, h => by
    simp only [okDs, Bool.and_eq_true] at h
    simp only [toDs, PyData.canLayAll0, Bool.and_eq_true]
    exact ⟨okD_canLay n x h.1, okDs_canLay n r h.2⟩
end
mutual
theorem okD_depth : ∀ (n : Nat) (p : PV), okD n p = true → (toD p).depth ≤ n
  | _, .non, _ => by simp only [toD, PyData.depth]; omega
  | _, .bl _, _ => by simp only [toD, PyData.depth]; omega
  | _, .int _, _ => by simp only [toD, PyData.depth]; omega
  | _, .str s, h => by simp only [toD, PyData.depth]; omega
  | 0, .tup xs, h => by simp [okD] at h
  | n + 1, .tup xs, h => by
    simp only [okD] at h
    simp only [toD, PyData.depth]
    have := okDs_depth n xs h
    omega
  | 0, .lst xs, h => by simp [okD] at h
  | n + 1, .lst xs, h => by
    simp only [okD] at h
    simp only [toD, PyData.depth]
    have := okDs_depth n xs h
    omega
  | _, .dct _ _, h => by simp [okD] at h
  | _, .cell _, h => by simp [okD] at h
theorem okDs_depth : ∀ (n : Nat) (ps : List PV), okDs n ps = true → PyData.depthAll (toDs ps) ≤ n
  | _, [], _ => by simp only [toDs, PyData.depthAll]; omega
  | n, x :: r, h => by
    simp only [okDs, Bool.and_eq_true] at h
    simp only [toDs, PyData.depthAll]
    have h1 := okD_depth n x h.1
    have h2 := okDs_depth n r h.2
    omega
end
theorem okD_shaped {p : PV} (h : okD 64 p = true) : SeqAt.shaped (toD p) = true := by
  unfold SeqAt.shaped
  rw [okD_canLay _ _ h, decide_eq_true (okD_depth _ _ h)]
  rfl
theorem beq_mkS (a b : Tx) : (mkS a == mkS b) = (a == b) := by
  rw [Bool.eq_iff_iff]
  simp only [beq_iff_eq]
  exact ⟨mkS_inj, fun h => by rw [h]⟩
mutual
theorem eqv_toD : ∀ (n m : Nat) (p q : PV), okD n p = true → okD m q = true → PyData.eqv (toD p) (toD q) = eqv p q
  | n, m, .non, q, hp, hq => by cases q <;> first | (simp [okD] at hq; done) | simp [toD, PyData.eqv, eqv]
  | n, m, .bl _, q, hp, hq => by cases q <;> first | (simp [okD] at hq; done) | simp [toD, PyData.eqv, eqv]
  | n, m, .int _, q, hp, hq => by cases q <;> first | (simp [okD] at hq; done) | simp [toD, PyData.eqv, eqv]
  | n, m, .str s, q, hp, hq => by cases q <;> first | (simp [okD] at hq; done) | simp [toD, PyData.eqv, eqv, beq_mkS]
  | 0, m, .tup xs, q, hp, hq => by simp [okD] at hp
  | n + 1, m, .tup xs, q, hp, hq => by
    simp only [okD] at hp
    cases q <;> try (first | (simp [okD] at hq; done) | (simp [toD, PyData.eqv, eqv]; done))
    case tup ys =>
      cases m with
      | zero => simp [okD] at hq
      | succ m =>
        simp only [okD] at hq
        simp only [toD, PyData.eqv, eqv]
        exact eqvs_toD n m xs ys hp hq
  | 0, m, .lst xs, q, hp, hq => by simp [okD] at hp
  | n + 1, m, .lst xs, q, hp, hq => by
    simp only [okD] at hp
    cases q <;> try (first | (simp [okD] at hq; done) | (simp [toD, PyData.eqv, eqv]; done))
    case lst ys =>
      cases m with
      | zero => simp [okD] at hq
      | succ m =>
        simp only [okD] at hq
        simp only [toD, PyData.eqv, eqv]
        exact eqvs_toD n m xs ys hp hq
  | _, _, .dct _ _, _, hp, _ => by simp [okD] at hp
  | _, _, .cell _, _, hp, _ => by simp [okD] at hp
theorem eqvs_toD : ∀ (n m : Nat) (ps qs : List PV), okDs n ps = true → okDs m qs = true → PyData.eqvAll (toDs ps) (toDs qs) = eqvs ps qs
  | _, _, [], [], _, _ => by simp [toDs, PyData.eqvAll, eqvs]
  | _, _, [], _ :: _, _, _ => by simp [toDs, PyData.eqvAll, eqvs]
  | _, _, _ :: _, [], _, _ => by simp [toDs, PyData.eqvAll, eqvs]
  | n, m, x :: r, y :: s, hp, hq => by
    simp only [okDs, Bool.and_eq_true] at hp hq
    simp only [toDs, PyData.eqvAll, eqvs]
    rw [eqv_toD n m x y hp.1 hq.1, eqvs_toD n m r s hp.2 hq.2]
end
section
variable {W : Ws} {ρ : List Addr} {H : Hp}
mutual
theorem Rep.dp : ∀ {n : Nat} {p : PV} {v : V}, okD n p = true → Rep W ρ H p v → Dp W.K H v (toD p)
  | _, .non, _, _, r => by simp only [Rep] at r; subst r; simp only [toD]; exact .non
  | _, .bl _, _, _, r => by simp only [Rep] at r; subst r; simp only [toD]; exact .bl _
  | _, .int _, _, _, r => by simp only [Rep] at r; subst r; simp only [toD]; exact .int _
  | _, .str _, _, _, r => by simp only [Rep] at r; subst r; simp only [toD]; exact .str _
  | 0, .tup xs, _, h, _ => by simp [okD] at h
  | n + 1, .tup xs, _, h, r => by
    simp only [okD] at h
    simp only [Rep] at r
    obtain ⟨a, vs, rfl, t, q⟩ := r
    simp only [toD]
    exact .tup t.sq (Reps.dps h q)
  | 0, .lst xs, _, h, _ => by simp [okD] at h
  | n + 1, .lst xs, _, h, r => by
    simp only [okD] at h
    simp only [Rep] at r
    obtain ⟨a, vs, rfl, t, q⟩ := r
    simp only [toD]
    exact .lst t.sq (Reps.dps h q)
  | _, .dct _ _, _, h, _ => by simp [okD] at h
  | _, .cell _, _, h, _ => by simp [okD] at h
theorem Reps.dps : ∀ {n : Nat} {ps : List PV} {vs : List V}, okDs n ps = true → Reps W ρ H ps vs → DpAll W.K H vs (toDs ps)
  | _, [], _, _, r => by simp only [Reps] at r; subst r; simp only [toDs]; exact .nil
  | n, x :: r, vs, h, t => by
    simp only [okDs, Bool.and_eq_true] at h
    simp only [Reps] at t
    obtain ⟨v, ws, rfl, q, t⟩ := t
    simp only [toDs]
    exact .cons (Rep.dp h.1 q) (Reps.dps h.2 t)
end
theorem Rep.seenDp {st : Store} (s : SR W ρ H st) {p : PV} {v : V} (h : okD 64 (seen p st) = true) (r : Rep W ρ H p v) : Dp W.K H v (toD (seen p st)) := by
  cases p with
  | cell i =>
    have r' := r
    simp only [Rep] at r'
    obtain ⟨a, e, rfl⟩ := r'
    obtain ⟨c, o, e1, e2, q⟩ := s.cell e
    cases c with
    | lst ps =>
      obtain ⟨vs, rfl, t⟩ := q
      have hs : seen (.cell i) st = .lst ps := by simp only [seen, e1]
      rw [hs] at h ⊢
      simp only [okD] at h
      simp only [toD]
      exact .lst (.inl (.inl e2)) (Reps.dps h t)
    | dct _ =>
      have hs : seen (.cell i) st = .cell i := by simp only [seen, e1]
      rw [hs] at h
      simp [okD] at h
  | non => exact Rep.dp h r
  | bl _ => exact Rep.dp h r
  | int _ => exact Rep.dp h r
  | str _ => exact Rep.dp h r
  | tup _ => exact Rep.dp h r
  | lst _ => exact Rep.dp h r
  | dct _ _ => exact Rep.dp h r
end
theorem eqM_some {p q : PV} {b : Bool} {st st' : Store} : eqM p q st = some (b, st') ↔ ((okD 64 (seen p st) = true ∧ okD 64 (seen q st) = true) ∧ eqv (seen p st) (seen q st) = b) ∧ st = st' := by
  unfold eqM
  simp only [bd_some, grd_some, pr_some]
  constructor
  · rintro ⟨_, _, ⟨h, rfl⟩, h2, rfl⟩
    exact ⟨⟨h, h2⟩, rfl⟩
  · rintro ⟨⟨h, h2⟩, rfl⟩
    exact ⟨(), st, ⟨h, rfl⟩, h2, rfl⟩

/-! ### comparisons as values -/
noncomputable def copV (op : COp) (p q : PV) : M PV := bd (cop op p q) fun c => pr (.bl c)
theorem copV_some {op : COp} {p q r : PV} {st st' : Store} : copV op p q st = some (r, st') ↔ ∃ c, cop op p q st = some (c, st') ∧ r = .bl c := by
  unfold copV
  simp only [bd_some, pr_some]
  constructor
  · rintro ⟨a, st1, h, rfl, rfl⟩
    exact ⟨a, h, rfl⟩
  · rintro ⟨c, h, rfl⟩
    exact ⟨c, st', h, rfl, rfl⟩
theorem flatP_V {W : Ws} {ρ : List Addr} {H : Hp} {p : PV} {v : V} (h : flat p = true) (r : Rep W ρ H p v) : flatV v = true := by
  cases p <;> simp [flat] at h <;> simp only [Rep] at r <;> subst r <;> rfl
theorem flatPs_V {W : Ws} {ρ : List Addr} {H : Hp} : ∀ {ps : List PV} {vs : List V}, ps.all flat = true → Reps W ρ H ps vs → vs.all flatV = true
  | [], vs, _, r => by simp only [Reps] at r; subst r; rfl
  | p :: ps, vs, h, r => by
    simp only [Reps] at r
    obtain ⟨v, ws, rfl, q, t⟩ := r
    simp only [List.all_cons, Bool.and_eq_true] at h ⊢
    exact ⟨flatP_V h.1 q, flatPs_V h.2 t⟩
theorem eqV_of {W : Ws} {ρ : List Addr} {H : Hp} {p q : PV} {v u : V} (hp : flat p = true) (hq : flat q = true) (rp : Rep W ρ H p v) (rq : Rep W ρ H q u) : eqV v u = eqv p q := by
  cases p <;> simp [flat] at hp <;> cases q <;> simp [flat] at hq <;> simp only [Rep] at rp rq <;> subst rp rq <;> simp [eqV, eqv, beq_mkS]
section
variable {X : Cx}
theorem co_is : OpR X (compareOp .Is) (rO X.K (copV .is)) := by
  rintro pins s σ H x y v u Q I rx ry ⟨μ, ρ, st, p, q, r, st', rp, rq, sr, hf, post⟩
  obtain ⟨c, hc, rfl⟩ := copV_some.mp hf
  simp only [cop, isM] at hc
  cases q <;> simp only [no_some, pr_some] at hc
  case non =>
    obtain ⟨rfl, rfl⟩ := hc
    simp only [Rep] at rq
    subst rq
    have e : isNon p = decide (x = .non) := by
      cases p <;> simp only [Rep] at rp
      case non => subst rp; rfl
      case bl => subst rp; rfl
      case int => subst rp; rfl
      case str => subst rp; rfl
      case tup => obtain ⟨a, vs, rfl, _⟩ := rp; rfl
      case lst => obtain ⟨a, vs, rfl, _⟩ := rp; rfl
      case dct => obtain ⟨a, vs, rfl, _⟩ := rp; rfl
      case cell => obtain ⟨a, _, rfl⟩ := rp; rfl
    exact op_isN pins s σ H _ _ v u Q I rx ry ⟨rfl, post.here sr (by simp only [Rep, e])⟩
  case bl b =>
    cases p <;> simp only [no_some, pr_some] at hc
    case bl a =>
      obtain ⟨rfl, rfl⟩ := hc
      simp only [Rep] at rp rq
      subst rp rq
      cases rx
      cases ry
      exact PyProof.Rows.is_bool ⟨.bl _, H, I, rfl, post.here sr (by simp only [Rep])⟩
theorem co_isnot : OpR X (compareOp .IsNot) (rO X.K (copV .isnot)) := by
  rintro pins s σ H x y v u Q I rx ry ⟨μ, ρ, st, p, q, r, st', rp, rq, sr, hf, post⟩
  obtain ⟨c, hc, rfl⟩ := copV_some.mp hf
  simp only [cop, isM, bd_some, pr_some] at hc
  obtain ⟨c0, st1, hc, rfl, rfl⟩ := hc
  cases q <;> simp only [no_some, pr_some] at hc
  case non =>
    obtain ⟨rfl, rfl⟩ := hc
    simp only [Rep] at rq
    subst rq
    have e : isNon p = decide (x = .non) := by
      cases p <;> simp only [Rep] at rp
      case non => subst rp; rfl
      case bl => subst rp; rfl
      case int => subst rp; rfl
      case str => subst rp; rfl
      case tup => obtain ⟨a, vs, rfl, _⟩ := rp; rfl
      case lst => obtain ⟨a, vs, rfl, _⟩ := rp; rfl
      case dct => obtain ⟨a, vs, rfl, _⟩ := rp; rfl
      case cell => obtain ⟨a, _, rfl⟩ := rp; rfl
    exact op_notN pins s σ H _ _ v u Q I rx ry ⟨rfl, post.here sr (by simp only [Rep, e])⟩
  case bl b =>
    cases p <;> simp only [no_some, pr_some] at hc
    case bl a =>
      obtain ⟨rfl, rfl⟩ := hc
      simp only [Rep] at rp rq
      subst rp rq
      cases rx
      cases ry
      exact PyProof.Rows.isnot_bool ⟨.bl _, H, I, rfl, post.here sr (by simp only [Rep, bne])⟩
theorem co_eq (hu : X.A.units + 64 < cLine) : OpR X (compareOp .Eq) (rO X.K (copV .eq)) := by
  rintro pins s σ H x y v u Q I rx ry ⟨μ, ρ, st, p, q, r, st', rp, rq, sr, hf, post⟩
  obtain ⟨c, hc, rfl⟩ := copV_some.mp hf
  simp only [cop, eqM_some] at hc
  obtain ⟨⟨⟨h1, h2⟩, rfl⟩, rfl⟩ := hc
  refine op_eqD hu pins s σ H _ _ v u Q I rx ry ⟨_, _, rp.seenDp sr h1, rq.seenDp sr h2, okD_shaped h1, okD_shaped h2, post.here sr ?_⟩
  simp only [Rep]
  rw [eqv_toD 64 64 _ _ h1 h2]
theorem co_ne (hu : X.A.units + 64 < cLine) : OpR X (compareOp .NotEq) (rO X.K (copV .ne)) := by
  rintro pins s σ H x y v u Q I rx ry ⟨μ, ρ, st, p, q, r, st', rp, rq, sr, hf, post⟩
  obtain ⟨c, hc, rfl⟩ := copV_some.mp hf
  simp only [cop, bd_some, eqM_some, pr_some] at hc
  obtain ⟨c0, st1, ⟨⟨⟨h1, h2⟩, rfl⟩, rfl⟩, rfl, rfl⟩ := hc
  refine op_neD hu pins s σ H _ _ v u Q I rx ry ⟨_, _, rp.seenDp sr h1, rq.seenDp sr h2, okD_shaped h1, okD_shaped h2, post.here sr ?_⟩
  simp only [Rep]
  rw [eqv_toD 64 64 _ _ h1 h2]
theorem co_lt : OpR X (compareOp .Lt) (rO X.K (copV .lt)) := by
  rintro pins s σ H x y v u Q I rx ry ⟨μ, ρ, st, p, q, r, st', rp, rq, sr, hf, post⟩
  obtain ⟨c, hc, rfl⟩ := copV_some.mp hf
  cases p <;> cases q <;> simp only [cop, no_some, pr_some] at hc
  case int.int a b =>
    obtain ⟨rfl, rfl⟩ := hc
    simp only [Rep] at rp rq
    subst rp rq
    exact op_lt pins s σ H _ _ v u Q I rx ry ⟨a, b, rfl, rfl, post.here sr (by simp only [Rep])⟩
  case str.str a b =>
    obtain ⟨rfl, rfl⟩ := hc
    simp only [Rep] at rp rq
    subst rp rq
    exact op_lt_str pins s σ H _ _ v u Q I rx ry ⟨mkS a, mkS b, rfl, rfl, post.here sr (by simp only [Rep, mkS_cps])⟩
theorem co_le : OpR X (compareOp .LtE) (rO X.K (copV .le)) := by
  rintro pins s σ H x y v u Q I rx ry ⟨μ, ρ, st, p, q, r, st', rp, rq, sr, hf, post⟩
  obtain ⟨c, hc, rfl⟩ := copV_some.mp hf
  cases p <;> cases q <;> simp only [cop, no_some, pr_some] at hc
  case int.int a b =>
    obtain ⟨rfl, rfl⟩ := hc
    simp only [Rep] at rp rq
    subst rp rq
    exact op_le pins s σ H _ _ v u Q I rx ry ⟨a, b, rfl, rfl, post.here sr (by simp only [Rep])⟩
  case str.str a b =>
    obtain ⟨rfl, rfl⟩ := hc
    simp only [Rep] at rp rq
    subst rp rq
    refine op_le_str pins s σ H _ _ v u Q I rx ry ⟨mkS a, mkS b, rfl, rfl, post.here sr ?_⟩
    simp only [Rep, mkS_cps]
theorem co_gt : OpR X (compareOp .Gt) (rO X.K (copV .gt)) := by
  rintro pins s σ H x y v u Q I rx ry ⟨μ, ρ, st, p, q, r, st', rp, rq, sr, hf, post⟩
  obtain ⟨c, hc, rfl⟩ := copV_some.mp hf
  cases p <;> cases q <;> simp only [cop, no_some, pr_some] at hc
  case int.int a b =>
    obtain ⟨rfl, rfl⟩ := hc
    simp only [Rep] at rp rq
    subst rp rq
    exact op_gt pins s σ H _ _ v u Q I rx ry ⟨a, b, rfl, rfl, post.here sr (by simp only [Rep])⟩
theorem co_ge : OpR X (compareOp .GtE) (rO X.K (copV .ge)) := by
  rintro pins s σ H x y v u Q I rx ry ⟨μ, ρ, st, p, q, r, st', rp, rq, sr, hf, post⟩
  obtain ⟨c, hc, rfl⟩ := copV_some.mp hf
  cases p <;> cases q <;> simp only [cop, no_some, pr_some] at hc
  case int.int a b =>
    obtain ⟨rfl, rfl⟩ := hc
    simp only [Rep] at rp rq
    subst rp rq
    exact op_ge pins s σ H _ _ v u Q I rx ry ⟨a, b, rfl, rfl, post.here sr (by simp only [Rep])⟩

/-! ### in -/
theorem any_of {W : Ws} {ρ : List Addr} {H : Hp} {p : PV} {v : V} (hp : flat p = true) (rp : Rep W ρ H p v) : ∀ {qs : List PV} {us : List V}, qs.all flat = true → Reps W ρ H qs us → inV v us = qs.any fun y => eqv y p
  | [], us, _, r => by simp only [Reps] at r; subst r; rfl
  | q :: qs, us, h, r => by
    simp only [Reps] at r
    obtain ⟨u, ws, rfl, r1, t⟩ := r
    simp only [List.all_cons, Bool.and_eq_true] at h
    have ih := any_of hp rp h.2 t
    unfold inV at ih ⊢
    simp only [List.any_cons]
    rw [ih, eqV_of h.1 hp r1 rp]
theorem co_in : OpR X (compareOp .In) (rO X.K (copV .in_)) := by
  rintro pins s σ H x y v u Q I rx ry ⟨μ, ρ, st, p, q, r, st', rp, rq, sr, hf, post⟩
  obtain ⟨c, hc, rfl⟩ := copV_some.mp hf
  simp only [cop, inM] at hc
  cases q <;> simp only [no_some, bd_some, grd_some, pr_some] at hc
  case str t =>
    split at hc
    · rename_i c0
      obtain ⟨rfl, rfl⟩ := pr_some.mp hc
      simp only [Rep] at rp rq
      subst rp rq
      exact op_in_sign pins s σ H _ _ v u Q I rx ry ⟨c0, mkS t, rfl, rfl, post.here sr (by simp only [Rep, mkS_cps])⟩
    · exact absurd hc (by simp [no])
  case tup xs =>
    obtain ⟨_, _, ⟨⟨h1, h2⟩, rfl⟩, rfl, rfl⟩ := hc
    obtain ⟨a, vs, rfl, q1, t⟩ := rq.tuple
    refine op_in_seq pins s σ H _ _ v u Q I rx ry ⟨a, vs, rfl, .inr q1, flatP_V h1 rp, flatPs_V h2 t, post.here sr ?_⟩
    simp only [Rep, any_of h1 rp h2 t, Bool.false_eq_true, if_false]
  case lst xs =>
    obtain ⟨_, _, ⟨⟨h1, h2⟩, rfl⟩, rfl, rfl⟩ := hc
    obtain ⟨a, vs, rfl, q1, t⟩ := rq.list sr (xs := xs) (by simp only [itemsL])
    refine op_in_seq pins s σ H _ _ v u Q I rx ry ⟨a, vs, rfl, .inl q1, flatP_V h1 rp, flatPs_V h2 t, post.here sr ?_⟩
    simp only [Rep, any_of h1 rp h2 t, Bool.false_eq_true, if_false]
theorem co_notin : OpR X (compareOp .NotIn) (rO X.K (copV .notin)) := by
  rintro pins s σ H x y v u Q I rx ry ⟨μ, ρ, st, p, q, r, st', rp, rq, sr, hf, post⟩
  obtain ⟨c, hc, rfl⟩ := copV_some.mp hf
  simp only [cop, inM, bd_some, pr_some] at hc
  obtain ⟨c1, st1, hc, rfl, rfl⟩ := hc
  cases q <;> simp only [no_some, bd_some, grd_some, pr_some] at hc
  case str t =>
    split at hc
    · rename_i c0
      obtain ⟨rfl, rfl⟩ := pr_some.mp hc
      simp only [Rep] at rp rq
      subst rp rq
      exact op_notIn_sign pins s σ H _ _ v u Q I rx ry ⟨c0, mkS t, rfl, rfl, post.here sr (by simp only [Rep, mkS_cps])⟩
    · exact absurd hc (by simp [no])
  case tup xs =>
    obtain ⟨_, _, ⟨⟨h1, h2⟩, rfl⟩, rfl, rfl⟩ := hc
    obtain ⟨a, vs, rfl, q1, t⟩ := rq.tuple
    refine op_notIn_seq pins s σ H _ _ v u Q I rx ry ⟨a, vs, rfl, .inr q1, flatP_V h1 rp, flatPs_V h2 t, post.here sr ?_⟩
    simp only [Rep, any_of h1 rp h2 t, if_true]
  case lst xs =>
    obtain ⟨_, _, ⟨⟨h1, h2⟩, rfl⟩, rfl, rfl⟩ := hc
    obtain ⟨a, vs, rfl, q1, t⟩ := rq.list sr (xs := xs) (by simp only [itemsL])
    refine op_notIn_seq pins s σ H _ _ v u Q I rx ry ⟨a, vs, rfl, .inl q1, flatP_V h1 rp, flatPs_V h2 t, post.here sr ?_⟩
    simp only [Rep, any_of h1 rp h2 t, if_true]
/-- the machine's operator -/
def copOf : COp → CmpOp
  | .eq => .Eq | .ne => .NotEq | .lt => .Lt | .le => .LtE | .gt => .Gt | .ge => .GtE | .is => .Is | .isnot => .IsNot | .in_ => .In | .notin => .NotIn
def bopOf : BOp → Operator
  | .add => .Add | .sub => .Sub | .mul => .Mult | .fdiv => .FloorDiv | .mod => .Mod | .pow => .Pow
theorem co_all (hu : X.A.units + 64 < cLine) : ∀ op : COp, OpR X (compareOp (copOf op)) (rO X.K (copV op))
  | .eq => co_eq hu | .ne => co_ne hu | .lt => co_lt | .le => co_le | .gt => co_gt | .ge => co_ge | .is => co_is | .isnot => co_isnot | .in_ => co_in | .notin => co_notin
theorem bo_all : ∀ op : BOp, OpR X (binaryOp (bopOf op)) (rO X.K (bop op))
  | .add => bo_add | .sub => bo_sub | .mul => bo_mul | .fdiv => bo_fdiv | .mod => bo_mod | .pow => bo_pow

/-! ### truth -/
theorem tru_of {W : Ws} {ρ : List Addr} {H : Hp} {st st' : Store} {p : PV} {v : V} {k : Bool} (s : SR W ρ H st) (r : Rep W ρ H p v) (h : truthM p st = some (k, st')) : st = st' ∧ TruV W.K v H k := by
  cases p <;> simp only [truthM, bd_some, grd_some, pr_some] at h
  case non => obtain ⟨rfl, rfl⟩ := h; simp only [Rep] at r; subst r; exact ⟨rfl, rfl⟩
  case bl => obtain ⟨rfl, rfl⟩ := h; simp only [Rep] at r; subst r; exact ⟨rfl, rfl⟩
  case int => obtain ⟨rfl, rfl⟩ := h; simp only [Rep] at r; subst r; exact ⟨rfl, rfl⟩
  case str x =>
    obtain ⟨_, _, ⟨h1, rfl⟩, rfl, rfl⟩ := h
    simp only [Rep] at r
    subst r
    refine ⟨rfl, ?_⟩
    show (mkS x).length ≤ sizeLine ∧ (!x.isEmpty) = (((mkS x).length : Int) != 0)
    rw [mkS_len, ← SL_eq]
    refine ⟨h1, ?_⟩
    cases x with
    | nil => rfl
    | cons a b =>
      have : ((((a :: b).length : Nat) : Int) != 0) = true := by
        rw [bne_iff_ne]
        simp only [List.length_cons]
        omega
      rw [this]
      rfl
  case tup xs =>
    obtain ⟨rfl, rfl⟩ := h
    obtain ⟨a, vs, rfl, q, t⟩ := r.tuple
    refine ⟨rfl, .inr (.inl ⟨vs, q, ?_⟩)⟩
    have := t.length
    cases xs <;> cases vs <;> simp at this <;> rfl
  case lst xs =>
    obtain ⟨rfl, rfl⟩ := h
    obtain ⟨a, vs, rfl, q, t⟩ := r.list s (xs := xs) (by simp only [itemsL])
    refine ⟨rfl, .inl ⟨vs, q, ?_⟩⟩
    have := t.length
    cases xs <;> cases vs <;> simp at this <;> rfl
  case cell i =>
    simp only [Rep] at r
    obtain ⟨a, e, rfl⟩ := r
    obtain ⟨c, o, e1, e2, q⟩ := s.cell e
    rw [e1] at h
    cases c with
    | lst ps =>
      simp only [Option.some.injEq, Prod.mk.injEq] at h
      obtain ⟨rfl, rfl⟩ := h
      obtain ⟨vs, rfl, t⟩ := q
      refine ⟨rfl, .inl ⟨vs, .inl (.inl e2), ?_⟩⟩
      have := t.length
      cases ps <;> cases vs <;> simp at this <;> rfl
    | dct qs =>
      simp only [Option.some.injEq, Prod.mk.injEq] at h
      obtain ⟨rfl, rfl⟩ := h
      obtain ⟨kvs, rfl, ek, t⟩ := q
      refine ⟨rfl, .inr (.inr ⟨kvs, e2, ?_⟩)⟩
      have := congrArg List.length ek
      simp at this
      cases qs <;> cases kvs <;> simp at this <;> rfl
  case dct ks ps =>
    obtain ⟨rfl, rfl⟩ := h
    simp only [Rep] at r
    obtain ⟨a, kvs, rfl, ⟨e, _⟩, ek, t⟩ := r
    refine ⟨rfl, .inr (.inr ⟨kvs, e, ?_⟩)⟩
    have := congrArg List.length ek
    simp at this
    cases ks <;> cases kvs <;> simp at this <;> rfl
end
end Lt

/-! Lt5: items, slices, stores, built-ins, methods. -/
namespace Lt
open PySem PySem.Spec PyProof.Rows L2
theorem sl_line : SL = sizeLine := SL_eq
section
variable {W : Ws} {ρ : List Addr} {H : Hp}
theorem find_of : ∀ {kvs : List (Key × V)} {ks : List DK} {ps : List PV} (k : DK), kvs.map (·.1) = ks.map keyS → Reps W ρ H ps (kvs.map (·.2)) → ∀ p, dfind (ks.zip ps) k = some p → ∃ v, valV kvs (keyS k) = some v ∧ Rep W ρ H p v
  | [], ks, ps, k, e, r, p, h => by
    have e1 : ks = [] := by simpa using e.symm
    subst e1
    simp [dfind] at h
  | (q, v) :: kvs, ks, ps, k, e, r, p, h => by
    cases ks with
    | nil => simp at e
    | cons k1 ks =>
      cases ps with
      | nil =>
        simp only [Reps] at r
        simp at r
      | cons p1 ps =>
        simp only [List.map_cons, List.cons.injEq] at e
        simp only [List.map_cons, Reps] at r
        obtain ⟨v1, ws, ev, r1, t⟩ := r
        simp only [List.cons.injEq] at ev
        obtain ⟨rfl, rfl⟩ := ev
        simp only [dfind, List.zip_cons_cons, List.find?_cons] at h
        by_cases hk : k1 = k
        · subst hk
          simp only [decide_true, Option.map_some, Option.some.injEq] at h
          subst h
          exact ⟨v, valV_pos e.1, r1⟩
        · simp only [decide_eq_false hk] at h
          have ih := find_of (kvs := kvs) (ks := ks) (ps := ps) k e.2 t p h
          obtain ⟨u, h1, h2⟩ := ih
          refine ⟨u, ?_, h2⟩
          rw [valV_neg]
          · exact h1
          · intro z
            exact hk (keyS_inj (e.1.symm.trans z))
theorem find_none : ∀ {kvs : List (Key × V)} {ks : List DK} {ps : List PV} (k : DK), kvs.map (·.1) = ks.map keyS → Reps W ρ H ps (kvs.map (·.2)) → dfind (ks.zip ps) k = none → valV kvs (keyS k) = none
  | [], ks, ps, k, e, r, h => rfl
  | (q, v) :: kvs, ks, ps, k, e, r, h => by
    cases ks with
    | nil => simp at e
    | cons k1 ks =>
      cases ps with
      | nil =>
        simp only [Reps] at r
        simp at r
      | cons p1 ps =>
        simp only [List.map_cons, List.cons.injEq] at e
        simp only [List.map_cons, Reps] at r
        obtain ⟨v1, ws, ev, r1, t⟩ := r
        simp only [List.cons.injEq] at ev
        obtain ⟨rfl, rfl⟩ := ev
        simp only [dfind, List.zip_cons_cons, List.find?_cons] at h
        by_cases hk : k1 = k
        · subst hk
          simp at h
        · simp only [decide_eq_false hk] at h
          have ih := find_none (kvs := kvs) (ks := ks) (ps := ps) k e.2 t h
          rw [valV_neg]
          · exact ih
          · intro z
            exact hk (keyS_inj (e.1.symm.trans z))
theorem zip_fst_snd {α β : Type} : ∀ l : List (α × β), (l.map (·.1)).zip (l.map (·.2)) = l
  | [] => rfl
  | (a, b) :: l => by simp [zip_fst_snd l]
/-- a dict as it stands -/
theorem Rep.dict {st : Store} {p : PV} {v : V} {kvs : List (DK × PV)} (s : SR W ρ H st) (h : itemsD p st = some kvs) (r : Rep W ρ H p v) :
    ∃ a us, v = .ref a ∧ H a = some (.dK us) ∧ ((∃ (ks : List DK) (ps : List PV), kvs = ks.zip ps ∧ us.map (·.1) = ks.map keyS ∧ Reps W ρ H ps (us.map (·.2)))) := by
  cases p with
  | dct ks ps =>
    simp only [itemsD, Option.some.injEq] at h
    simp only [Rep] at r
    obtain ⟨a, us, rfl, ⟨e, _⟩, ek, t⟩ := r
    exact ⟨a, us, rfl, e, ks, ps, h.symm, ek, t⟩
  | cell i =>
    simp only [Rep] at r
    obtain ⟨a, e, rfl⟩ := r
    obtain ⟨c, o, e1, e2, q⟩ := s.cell e
    simp only [itemsD, e1] at h
    cases c with
    | dct qs =>
      simp only [Option.some.injEq] at h
      subst h
      obtain ⟨us, rfl, ek, t⟩ := q
      exact ⟨a, us, rfl, e2, _, _, (zip_fst_snd qs).symm, ek, t⟩
    | lst _ => cases h
  | _ => simp [itemsD] at h
theorem dk_rep {i : PV} {k : DK} {v : V} (h : dkOf i = some k) (r : Rep W ρ H i v) : v = kV (keyS k) := by
  cases i <;> simp [dkOf] at h <;> subst h <;> simp only [Rep] at r <;> subst r <;> rfl
theorem atI_rep {ps : List PV} {vs : List V} {i : Int} {p : PV} (r : Reps W ρ H ps vs) (h : atI ps i = some p) : ∃ v, atI vs i = some v ∧ Rep W ρ H p v := by
  unfold atI at h ⊢
  rw [← r.length]
  cases e : ixN ps.length i with
  | none => rw [e] at h; cases h
  | some j =>
    rw [e] at h
    exact r.get h
end
/-! ### items -/
def rIxD : R2 := fun x y H Q => ∃ a v, x = .ref a ∧ DGet H a y (some v) ∧ Q v H
section
variable {X : Cx}
theorem ix_dict (hu : X.A.units + 1 < cLine) : IxR X rIxD := by
  intro val sli pins s σ H x y v u Q I rx ry h hs
  obtain ⟨a, z, rfl, g, q⟩ := h
  cases rx
  have hT := dict_typeIs I g
  unfold subscriptTail
  refine wpAny_bind ?_
  rw [getitemInPython_of_ne hT.not_modules]
  refine wpAny_bind (wpAny_specialOf hT PySem.F.slot_dict_getitem.lookup ?_)
  have fin : wpAny (model X.prog X.w) X.A (subscripted sli false (.ref a) u) (fun r s₃ => wpAny (model X.prog X.w) X.A (letTemporaryGo val (.ref a) r >>= fun _ => pure r) (EP X pins σ Q) X.xe s₃) X.xe s := by
    rw [hs]
    exact wpAny_operating (d_getItem hu I g ry fun w' s' I' rw' => wpAny_bind (wpAny_letTemporaryGo (wpAny_pure ⟨z, H, I', rw', q⟩)))
  first
    | exact wpAny_pure (wpAny_bind fin)
    | exact wpAny_bind (wpAny_pure (wpAny_bind fin))
    | exact wpAny_bind fin
theorem ix_all (hu : X.A.units + 1 < cLine) : IxR X (rO X.K idxM) := by
  rintro value slice pins s σ H x y v u Q I rx ry ⟨μ, ρ, st, p, q, r, st', rp, rq, sr, hf, post⟩ hs
  have dict : ∀ kvs k, itemsD p st = some kvs → dkOf q = some k → dfind kvs k = some r → st = st' → wpAny (model X.prog X.w) X.A (subscriptTail value slice v u) (EP X pins σ Q) X.xe s := by
    rintro kvs k h1 h2 h3 rfl
    obtain ⟨a, us, rfl, e, ks, ps, rfl, ek, t⟩ := rp.dict sr h1
    obtain ⟨w, h4, h5⟩ := find_of k ek t r h3
    have hy := dk_rep h2 rq
    subst hy
    exact ix_dict hu value slice pins s σ H _ _ v u Q I rx ry ⟨a, w, rfl, by rw [← h4]; exact DGet.k e, post.here sr h5⟩ hs
  have list : ∀ xs k, itemsL p st = some xs → q = .int k → atI xs k = some r → st = st' → wpAny (model X.prog X.w) X.A (subscriptTail value slice v u) (EP X pins σ Q) X.xe s := by
    rintro xs k h1 rfl h3 rfl
    obtain ⟨a, vs, rfl, q1, t⟩ := rp.list sr h1
    simp only [Rep] at rq
    subst rq
    obtain ⟨w, h4, h5⟩ := atI_rep t h3
    exact ix_list value slice pins s σ H _ _ v u Q I rx ry ⟨a, vs, k, w, rfl, rfl, q1, h4, post.here sr h5⟩ hs
  cases p <;> simp only [idxM, no_some] at hf
  case str z =>
    cases q <;> simp only [no_some, bd_some, grd_some, ofO_some, pr_some] at hf
    case int k =>
      obtain ⟨_, _, ⟨h1, rfl⟩, c, _, ⟨h2, rfl⟩, rfl, rfl⟩ := hf
      simp only [Rep] at rp rq
      subst rp rq
      exact ix_str value slice pins s σ H _ _ v u Q I rx ry ⟨mkS z, k, c, rfl, rfl, by rw [mkS_len, ← SL_eq]; exact h1, by rw [mkS_cps]; exact h2, post.here sr (by simp only [Rep]; rfl)⟩ hs
  case tup xs =>
    cases q <;> simp only [no_some, ofO_some] at hf
    case int k =>
      obtain ⟨h1, rfl⟩ := hf
      obtain ⟨a, vs, rfl, q1, t⟩ := rp.tuple
      simp only [Rep] at rq
      subst rq
      obtain ⟨w, h4, h5⟩ := atI_rep t h1
      exact ix_tup value slice pins s σ H _ _ v u Q I rx ry ⟨a, vs, k, w, rfl, rfl, q1, h4, post.here sr h5⟩ hs
  case lst xs =>
    cases q <;> simp only [no_some, ofO_some] at hf
    case int k =>
      obtain ⟨h1, rfl⟩ := hf
      exact list xs k (by simp only [itemsL]) rfl h1 rfl
  case dct ks ps =>
    simp only [bd_some, ofO_some] at hf
    obtain ⟨k, _, ⟨h1, rfl⟩, h2, rfl⟩ := hf
    exact dict _ k (by simp only [itemsD]) h1 h2 rfl
  case cell c =>
    split at hf
    · rename_i xs e
      cases q <;> simp only [ofO_some] at hf
      case int k =>
        obtain ⟨h1, rfl⟩ := hf
        exact list xs k (by simp only [itemsL, e]) rfl h1 rfl
      all_goals cases hf
    · rename_i kvs e
      simp only [bd_some, ofO_some] at hf
      obtain ⟨k, _, ⟨h1, rfl⟩, h2, rfl⟩ := hf
      exact dict _ k (by simp only [itemsD, e]) h1 h2 rfl
    · cases hf
/-! ### slices -/
def rSl (K : PySem.W.Frag) : V → Option Int → Option Int → Hp → VK → Prop := fun x lo hi H Q => ∃ μ ρ st p r st', Rep ⟨K, μ⟩ ρ H p x ∧ SR ⟨K, μ⟩ ρ H st ∧ slcM p lo hi st = some (r, st') ∧ Post ⟨K, μ⟩ ρ H r st' Q
theorem Reps.cut {W : Ws} {ρ : List Addr} {H : Hp} {ps : List PV} {vs : List V} (r : Reps W ρ H ps vs) (lo hi : Option Int) : Reps W ρ H (cut ps lo hi) (cutV vs lo hi) := by
  unfold Lt.cut cutV
  rw [← r.length]
  exact (r.drop _).take _
theorem sl_all : SlR X (rSl X.K) := by
  rintro pins s σ H x v vl vu lo hi sl Q I rx hs pl pu ⟨μ, ρ, st, p, r, st', rp, sr, hf, post⟩
  have list : ∀ xs, itemsL p st = some xs → r = .lst (cut xs lo hi) → st = st' →
      ∃ T id, typeLookup (.type T) "__getitem__" = pure (some (.builtin id)) ∧ s.TypeIs v T ∧ wpAny (model X.prog X.w) X.A (getItem v (.ref sl)) (EP X pins σ Q) X.xe s := by
    rintro xs h1 rfl rfl
    obtain ⟨a, vs, rfl, q1, t⟩ := rp.list sr h1
    exact sl_list pins s σ H _ v vl vu lo hi sl Q I rx hs pl pu ⟨a, vs, rfl, q1, fun p hp => post.newLst sr hp (t.cut lo hi)⟩
  cases p <;> simp only [slcM, bd_some, grd_some, pr_some, itemsLM_some] at hf
  case str z =>
    obtain ⟨_, _, ⟨h1, rfl⟩, rfl, rfl⟩ := hf
    simp only [Rep] at rp
    subst rp
    refine sl_str pins s σ H _ v vl vu lo hi sl Q I rx hs pl pu ⟨mkS z, rfl, by rw [mkS_len, ← SL_eq]; exact h1, post.here sr ?_⟩
    simp only [Rep]
    unfold cutS Lt.cut
    rw [mkS_len, mkS_cps]
    rfl
  case tup xs =>
    obtain ⟨rfl, rfl⟩ := hf
    obtain ⟨a, vs, rfl, q1, t⟩ := rp.tuple
    refine sl_tupA pins s σ H _ v vl vu lo hi sl Q I rx hs pl pu ⟨a, vs, rfl, q1, fun hw => ?_, fun _ p hp => post.newTup sr hp (t.cut lo hi)⟩
    have e : cut xs lo hi = xs := by
      unfold Lt.cut
      rw [t.length, hw.1, hw.2, List.drop_zero, Nat.sub_zero, ← t.length, List.take_length]
    rw [e] at post
    exact post.here sr rp
  case lst xs =>
    obtain ⟨_, _, ⟨h1, rfl⟩, h2, h3⟩ := hf
    exact list _ h1 h2.symm h3
  case cell xs =>
    obtain ⟨_, _, ⟨h1, rfl⟩, h2, h3⟩ := hf
    exact list _ h1 h2.symm h3
  all_goals simp [itemsL] at hf
/-! ### stores -/
def rS (K : PySem.W.Frag) : TSet := fun o i v H Q => ∃ μ ρ st po pi pv st', Rep ⟨K, μ⟩ ρ H po o ∧ Rep ⟨K, μ⟩ ρ H pi i ∧ Rep ⟨K, μ⟩ ρ H pv v ∧ SR ⟨K, μ⟩ ρ H st ∧ setM po pi pv st = some ((), st') ∧ ∀ ρ' H', Kp ρ H ρ' H' → SR ⟨K, μ⟩ ρ' H' st' → Q H'
theorem any_keys : ∀ {kvs : List (DK × PV)} {us : List (Key × V)} (k : DK), us.map (·.1) = (kvs.map (·.1)).map keyS → (us.any fun kv => decide (kv.1 = keyS k)) = kvs.any fun kv => decide (kv.1 = k)
  | [], us, k, e => by
    have : us = [] := by simpa using e
    subst this
    rfl
  | (q, p) :: kvs, us, k, e => by
    cases us with
    | nil => simp at e
    | cons u us =>
      simp only [List.map_cons, List.cons.injEq] at e
      simp only [List.any_cons]
      rw [any_keys k e.2, e.1, keyS_dec]
theorem CellO.put {W : Ws} {ρ : List Addr} {H : Hp} {kvs : List (DK × PV)} {us : List (Key × V)} {k : DK} {p : PV} {v : V} (ek : us.map (·.1) = (kvs.map (·.1)).map keyS) (t : Reps W ρ H (kvs.map (·.2)) (us.map (·.2))) (r : Rep W ρ H p v) :
    (putK us (keyS k) v).map (·.1) = ((dput kvs k p).map (·.1)).map keyS ∧ Reps W ρ H ((dput kvs k p).map (·.2)) ((putK us (keyS k) v).map (·.2)) := by
  unfold putK dput
  rw [any_keys k ek]
  by_cases h : (kvs.any fun kv => decide (kv.1 = k)) = true
  · rw [if_pos h, if_pos h]
    clear h
    induction kvs generalizing us with
    | nil =>
      have : us = [] := by simpa using ek
      subst this
      exact ⟨rfl, .nil⟩
    | cons q kvs ih =>
      cases us with
      | nil => simp at ek
      | cons u us =>
        simp only [List.map_cons, List.cons.injEq] at ek
        simp only [List.map_cons, Reps] at t
        obtain ⟨w, ws, ev, r1, t⟩ := t
        simp only [List.cons.injEq] at ev
        obtain ⟨rfl, rfl⟩ := ev
        obtain ⟨i1, i2⟩ := ih ek.2 t
        have hk : (u.1 = keyS k) ↔ (q.1 = k) := by
          rw [ek.1]
          exact ⟨keyS_inj, fun z => by rw [z]⟩
        by_cases hq : q.1 = k
        · have hu := hk.mpr hq
          simp only [List.map_cons, if_pos hq, if_pos hu]
          exact ⟨by simp only [ek.1, i1], .cons r i2⟩
        · have hu : ¬ u.1 = keyS k := fun z => hq (hk.mp z)
          simp only [List.map_cons, if_neg hq, if_neg hu]
          exact ⟨by simp only [ek.1, i1], .cons r1 i2⟩
  · rw [if_neg h, if_neg h]
    constructor
    · simp only [List.map_append, ek, List.map_cons, List.map_nil]
    · simp only [List.map_append, List.map_cons, List.map_nil]
      exact t.append (.cons r .nil)
theorem ps_all (hu : X.A.units + 1 < cLine) : PSet X (rS X.K) := by
  rintro pins s σ H o i v ov iv u Q I ro ri rv ⟨μ, ρ, st, po, pi, pv, st', qo, qi, qv, sr, hf, post⟩
  cases po <;> simp only [setM, no_some] at hf
  case cell c =>
    simp only [Rep] at qo
    obtain ⟨a, ea, rfl⟩ := qo
    obtain ⟨ce, ob, e1, e2, q⟩ := sr.cell ea
    rw [e1] at hf
    cases ce with
    | lst ps =>
      obtain ⟨vs, rfl, t⟩ := q
      cases pi <;> simp only at hf
      case int k =>
        cases hk : ixN ps.length k with
        | none => rw [hk] at hf; cases hf
        | some j =>
          rw [hk] at hf
          simp only [Option.some.injEq, Prod.mk.injEq, true_and] at hf
          subst hf
          simp only [Rep] at qi
          subst qi
          have q := sr.put (o := .lst (vs.set j v)) (c := .lst (ps.set j pv)) ea ⟨_, rfl, t.set j qv⟩
          exact set_list pins s σ H _ _ _ ov iv u _ I ro ri rv ⟨a, vs, k, j, rfl, rfl, e2, by rw [← t.length]; exact hk, post _ _ q.2 q.1⟩
      all_goals cases hf
    | dct qs =>
      obtain ⟨us, rfl, ek, t⟩ := q
      simp only at hf
      cases hk : dkOf pi with
      | none => rw [hk] at hf; cases hf
      | some k =>
        rw [hk] at hf
        simp only at hf
        by_cases hl : qs.length < SL
        · rw [if_pos hl] at hf
          simp only [Option.some.injEq, Prod.mk.injEq, true_and] at hf
          subst hf
          have hi := dk_rep hk qi
          subst hi
          have cp := CellO.put (k := k) ek t qv
          have q := sr.put (o := .dK (putK us (keyS k) v)) (c := .dct (dput qs k pv)) ea ⟨_, rfl, cp.1, cp.2⟩
          cases ro
          have hlen : us.length < sizeLine := by
            have := congrArg List.length ek
            simp at this
            rw [this, ← SL_eq]
            exact hl
          exact d_setItem hu I (DPut.k e2 hlen) ri rv fun s' I' => ⟨_, I', post _ _ q.2 q.1⟩
        · rw [if_neg hl] at hf
          cases hf
end
end Lt

/-! Lt6: built-ins, isinstance, methods. -/
namespace Lt
open PySem PySem.Spec PyProof.Rows L2
def rB (K : PySem.W.Frag) (b : BI) : List V → Hp → VK → Prop := fun xs H Q => ∃ μ ρ st ps r st', Reps ⟨K, μ⟩ ρ H ps xs ∧ SR ⟨K, μ⟩ ρ H st ∧ bi b ps st = some (r, st') ∧ Post ⟨K, μ⟩ ρ H r st' Q
section
variable {W : Ws} {ρ : List Addr} {H : Hp}
theorem Reps.one {p : PV} {xs : List V} (r : Reps W ρ H [p] xs) : ∃ v, xs = [v] ∧ Rep W ρ H p v := by
  simp only [Reps] at r
  obtain ⟨v, ws, rfl, q, rfl⟩ := r
  exact ⟨v, rfl, q⟩
theorem Reps.two {p q : PV} {xs : List V} (r : Reps W ρ H [p, q] xs) : ∃ v u, xs = [v, u] ∧ Rep W ρ H p v ∧ Rep W ρ H q u := by
  simp only [Reps] at r
  obtain ⟨v, ws, rfl, q, u, ws', rfl, q2, rfl⟩ := r
  exact ⟨v, u, rfl, q, q2⟩
theorem bls_len : ∀ {ps : List PV} {bs : List Bool}, bls ps = some bs → ps.length = bs.length := by
  intro ps
  induction ps with
  | nil => intro bs h; simp [bls] at h; subst h; rfl
  | cons p ps ih =>
    intro bs h
    cases p <;> simp [bls] at h
    obtain ⟨m, h1, rfl⟩ := h
    simp [ih h1]
end
section
variable {X : Cx}
theorem cb_len : CallR X (.builtin "len") (rB X.K .len) := by
  rintro pins s σ H xs us Q I rs ⟨μ, ρ, st, ps, r, st', rp, sr, hf, post⟩
  match ps, rp, hf with
  | [], _, hf => simp [bi, no] at hf
  | _ :: _ :: _, _, hf => simp [bi, no] at hf
  | [p], rp, hf =>
    obtain ⟨v, rfl, rq⟩ := rp.one
    have list : ∀ ys, itemsL p st = some ys → r = .int ys.length → st = st' → wpAny (model X.prog X.w) X.A (call (.builtin "len") us) (EP X pins σ Q) X.xe s := by
      rintro ys h1 rfl rfl
      obtain ⟨a, vs, rfl, q, t⟩ := rq.list sr h1
      exact call_len pins s σ H _ us Q I rs ⟨_, vs.length, rfl, .inl ⟨vs, q, rfl⟩, post.here sr (by simp only [Rep, t.length])⟩
    have dict : ∀ kvs, itemsD p st = some kvs → r = .int kvs.length → st = st' → wpAny (model X.prog X.w) X.A (call (.builtin "len") us) (EP X pins σ Q) X.xe s := by
      rintro kvs h1 rfl rfl
      obtain ⟨a, vs, rfl, q, ks, qs, rfl, ek, t⟩ := rq.dict sr h1
      refine call_lenD pins s σ H _ us Q I rs ⟨a, vs, rfl, q, post.here sr ?_⟩
      simp only [Rep]
      have h1 := congrArg List.length ek
      have h2 := t.length
      simp at h1 h2
      rw [List.length_zip]
      congr 2
      omega
    cases p <;> simp only [bi, lenM, bd_some, grd_some, pr_some] at hf
    case str z =>
      obtain ⟨_, _, ⟨h1, rfl⟩, rfl, rfl⟩ := hf
      simp only [Rep] at rq
      subst rq
      exact call_len pins s σ H _ us Q I rs ⟨_, z.length, rfl, ⟨by rw [mkS_len, ← SL_eq]; exact h1, (mkS_len z).symm⟩, post.here sr (by simp only [Rep])⟩
    case tup xs =>
      obtain ⟨rfl, rfl⟩ := hf
      obtain ⟨a, vs, rfl, q, t⟩ := rq.tuple
      exact call_len pins s σ H _ us Q I rs ⟨_, vs.length, rfl, .inr ⟨vs, q, rfl⟩, post.here sr (by simp only [Rep, t.length])⟩
    case lst xs =>
      simp only [itemsL, Option.some.injEq, Prod.mk.injEq] at hf
      exact list xs (by simp only [itemsL]) hf.1.symm hf.2
    case dct ks qs =>
      obtain ⟨rfl, rfl⟩ := hf
      have rq' := rq
      simp only [Rep] at rq'
      obtain ⟨a, kvs, rfl, ⟨e, _⟩, ek, t⟩ := rq'
      refine call_lenD pins s σ H _ us Q I rs ⟨a, kvs, rfl, e, post.here sr ?_⟩
      have h1 := congrArg List.length ek
      simp at h1
      simp only [Rep, h1]
    case cell c =>
      cases e1 : itemsL (.cell c) st with
      | some ys =>
        rw [e1] at hf
        simp only [Option.some.injEq, Prod.mk.injEq] at hf
        exact list ys e1 hf.1.symm hf.2
      | none =>
        rw [e1] at hf
        simp only at hf
        cases e2 : itemsD (.cell c) st with
        | some kvs =>
          rw [e2] at hf
          simp only [Option.some.injEq, Prod.mk.injEq] at hf
          exact dict kvs e2 hf.1.symm hf.2
        | none =>
          rw [e2] at hf
          cases hf
    all_goals simp [itemsL, itemsD] at hf
theorem cb_abs : CallR X (.builtin "abs") (rB X.K .abs) := by
  rintro pins s σ H xs us Q I rs ⟨μ, ρ, st, ps, r, st', rp, sr, hf, post⟩
  match ps, rp, hf with
  | [], _, hf => simp [bi, no] at hf
  | _ :: _ :: _, _, hf => simp [bi, no] at hf
  | [p], rp, hf =>
    obtain ⟨v, rfl, rq⟩ := rp.one
    cases p <;> simp only [bi, no_some, pr_some] at hf
    case int i =>
      obtain ⟨rfl, rfl⟩ := hf
      simp only [Rep] at rq
      subst rq
      exact call_abs pins s σ H _ us Q I rs ⟨i, rfl, post.here sr (by simp only [Rep])⟩
theorem cb_int : CallR X (.type "int") (rB X.K .int) := by
  rintro pins s σ H xs us Q I rs ⟨μ, ρ, st, ps, r, st', rp, sr, hf, post⟩
  match ps, rp, hf with
  | [], _, hf => simp [bi, no] at hf
  | _ :: _ :: _, _, hf => simp [bi, no] at hf
  | [p], rp, hf =>
    obtain ⟨v, rfl, rq⟩ := rp.one
    cases p <;> simp only [bi, no_some, pr_some] at hf
    case int i =>
      obtain ⟨rfl, rfl⟩ := hf
      simp only [Rep] at rq
      subst rq
      exact call_int1 pins s σ H _ us Q I rs (.inl ⟨i, rfl, post.here sr (by simp only [Rep])⟩)
    case bl b =>
      obtain ⟨rfl, rfl⟩ := hf
      simp only [Rep] at rq
      subst rq
      exact call_int1 pins s σ H _ us Q I rs (.inr ⟨b, rfl, post.here sr (by simp only [Rep])⟩)
theorem str_figs (i : Int) : (toString i : Str) = mkS (figs i) := by
  apply TL.ext_tl
  unfold figs
  rw [TL.tl_ofString]
  simp [TL.tl, mkS]
theorem cb_str : CallR X (.type "str") (rB X.K .str) := by
  rintro pins s σ H xs us Q I rs ⟨μ, ρ, st, ps, r, st', rp, sr, hf, post⟩
  match ps, rp, hf with
  | [], _, hf => simp [bi, no] at hf
  | _ :: _ :: _, _, hf => simp [bi, no] at hf
  | [p], rp, hf =>
    obtain ⟨v, rfl, rq⟩ := rp.one
    cases p <;> simp only [bi, no_some, bd_some, grd_some, pr_some] at hf
    case int i =>
      obtain ⟨_, _, ⟨h1, rfl⟩, rfl, rfl⟩ := hf
      simp only [Rep] at rq
      subst rq
      exact call_str_int pins s σ H _ us Q I rs ⟨i, rfl, h1, post.here sr (by simp only [Rep, str_figs])⟩
theorem cb_ord : CallR X (.builtin "ord") (rB X.K .ord) := by
  rintro pins s σ H xs us Q I rs ⟨μ, ρ, st, ps, r, st', rp, sr, hf, post⟩
  match ps, rp, hf with
  | [], _, hf => simp [bi, no] at hf
  | _ :: _ :: _, _, hf => simp [bi, no] at hf
  | [p], rp, hf =>
    obtain ⟨v, rfl, rq⟩ := rp.one
    cases p <;> try (simp only [bi, no_some, pr_some] at hf; done)
    case str z =>
      match z, rq, hf with
      | [], _, hf => simp [bi, no] at hf
      | _ :: _ :: _, _, hf => simp [bi, no] at hf
      | [c], rq, hf =>
        simp only [bi, pr_some] at hf
        obtain ⟨rfl, rfl⟩ := hf
        simp only [Rep] at rq
        subst rq
        exact call_ord pins s σ H _ us Q I rs ⟨mkS [c], rfl, rfl, post.here sr (by simp only [Rep]; rfl)⟩
theorem cb_all (hc : X.calm = true) : CallR X (.builtin "all") (rB X.K .all) := by
  rintro pins s σ H xs us Q I rs ⟨μ, ρ, st, ps, r, st', rp, sr, hf, post⟩
  match ps, rp, hf with
  | [], _, hf => simp [bi, no] at hf
  | _ :: _ :: _, _, hf => simp [bi, no] at hf
  | [p], rp, hf =>
    obtain ⟨v, rfl, rq⟩ := rp.one
    cases p <;> simp only [bi, no_some, bd_some, ofO_some, pr_some] at hf
    case lst ys =>
      obtain ⟨bs, _, ⟨h1, rfl⟩, rfl, rfl⟩ := hf
      obtain ⟨a, vs, rfl, q, t⟩ := rq.list sr (xs := ys) (by simp only [itemsL])
      have e := t.of_bls h1
      subst e
      exact cr_all hc pins s σ H _ us Q I rs ⟨a, bs, rfl, q, post.here sr (by simp only [Rep])⟩
theorem cb_any (hc : X.calm = true) : CallR X (.builtin "any") (rB X.K .any) := by
  rintro pins s σ H xs us Q I rs ⟨μ, ρ, st, ps, r, st', rp, sr, hf, post⟩
  match ps, rp, hf with
  | [], _, hf => simp [bi, no] at hf
  | _ :: _ :: _, _, hf => simp [bi, no] at hf
  | [p], rp, hf =>
    obtain ⟨v, rfl, rq⟩ := rp.one
    cases p <;> simp only [bi, no_some, bd_some, ofO_some, pr_some] at hf
    case lst ys =>
      obtain ⟨bs, _, ⟨h1, rfl⟩, rfl, rfl⟩ := hf
      obtain ⟨a, vs, rfl, q, t⟩ := rq.list sr (xs := ys) (by simp only [itemsL])
      have e := t.of_bls h1
      subst e
      exact cr_any hc pins s σ H _ us Q I rs ⟨a, bs, rfl, q, post.here sr (by simp only [Rep])⟩
theorem cb_tuple : CallR X (.type "tuple") (rB X.K .tuple) := by
  rintro pins s σ H xs us Q I rs ⟨μ, ρ, st, ps, r, st', rp, sr, hf, post⟩
  match ps, rp, hf with
  | [], _, hf => simp [bi, no] at hf
  | _ :: _ :: _, _, hf => simp [bi, no] at hf
  | [p], rp, hf =>
    obtain ⟨v, rfl, rq⟩ := rp.one
    have list : ∀ ys, itemsL p st = some ys → r = .tup ys → st = st' → wpAny (model X.prog X.w) X.A (call (.type "tuple") us) (EP X pins σ Q) X.xe s := by
      rintro ys h1 rfl rfl
      obtain ⟨a, vs, rfl, q, t⟩ := rq.list sr h1
      exact call_tuple_of pins s σ H _ us Q I rs ⟨a, vs, rfl, .inl ⟨q, fun l hl => post.newTup sr hl t⟩⟩
    cases p <;> simp only [bi, no_some, bd_some, itemsLM_some, pr_some] at hf
    case tup ys =>
      obtain ⟨rfl, rfl⟩ := hf
      obtain ⟨a, vs, rfl, q, t⟩ := rq.tuple
      exact call_tuple_of pins s σ H _ us Q I rs ⟨a, vs, rfl, .inr ⟨q, post.here sr rq⟩⟩
    case lst ys =>
      obtain ⟨rfl, rfl⟩ := hf
      exact list ys (by simp only [itemsL]) rfl rfl
    case cell c =>
      obtain ⟨ys, _, ⟨h1, rfl⟩, rfl, rfl⟩ := hf
      exact list ys h1 rfl rfl
theorem cb_list : CallR X (.type "list") (rB X.K .list) := by
  rintro pins s σ H xs us Q I rs ⟨μ, ρ, st, ps, r, st', rp, sr, hf, post⟩
  match ps, rp, hf with
  | [], _, hf => simp [bi, no] at hf
  | _ :: _ :: _, _, hf => simp [bi, no] at hf
  | [p], rp, hf =>
    obtain ⟨v, rfl, rq⟩ := rp.one
    have list : ∀ ys, itemsL p st = some ys → r = .lst ys → st = st' → wpAny (model X.prog X.w) X.A (call (.type "list") us) (EP X pins σ Q) X.xe s := by
      rintro ys h1 rfl rfl
      obtain ⟨a, vs, rfl, q, t⟩ := rq.list sr h1
      exact call_list_of pins s σ H _ us Q I rs ⟨a, vs, rfl, .inl q, fun l hl => post.newLst sr hl t⟩
    cases p <;> simp only [bi, no_some, bd_some, itemsLM_some, pr_some] at hf
    case tup ys =>
      obtain ⟨rfl, rfl⟩ := hf
      obtain ⟨a, vs, rfl, q, t⟩ := rq.tuple
      exact call_list_of pins s σ H _ us Q I rs ⟨a, vs, rfl, .inr q, fun l hl => post.newLst sr hl t⟩
    case lst ys =>
      obtain ⟨zs, _, ⟨h1, rfl⟩, rfl, rfl⟩ := hf
      exact list zs h1 rfl rfl
    case cell c =>
      obtain ⟨ys, _, ⟨h1, rfl⟩, rfl, rfl⟩ := hf
      exact list ys h1 rfl rfl
    all_goals
      obtain ⟨ys, _, ⟨h1, rfl⟩, rfl, rfl⟩ := hf
      simp [itemsL] at h1
theorem cb_min2 (hc : X.calm = true) : CallR X (.builtin "min") (rB X.K .min2) := by
  rintro pins s σ H xs us Q I rs ⟨μ, ρ, st, ps, r, st', rp, sr, hf, post⟩
  match ps, rp, hf with
  | [], _, hf => simp [bi, no] at hf
  | [_], _, hf => simp [bi, no] at hf
  | _ :: _ :: _ :: _, _, hf => simp [bi, no] at hf
  | [p, q], rp, hf =>
    obtain ⟨v, u, rfl, r1, r2⟩ := rp.two
    cases p <;> cases q <;> simp only [bi, no_some, pr_some] at hf
    case int.int i j =>
      obtain ⟨rfl, rfl⟩ := hf
      simp only [Rep] at r1 r2
      subst r1 r2
      exact call_min2 hc pins s σ H _ us Q I rs ⟨i, j, rfl, post.here sr (by simp only [Rep])⟩
theorem cb_max2 (hc : X.calm = true) : CallR X (.builtin "max") (rB X.K .max2) := by
  rintro pins s σ H xs us Q I rs ⟨μ, ρ, st, ps, r, st', rp, sr, hf, post⟩
  match ps, rp, hf with
  | [], _, hf => simp [bi, no] at hf
  | [_], _, hf => simp [bi, no] at hf
  | _ :: _ :: _ :: _, _, hf => simp [bi, no] at hf
  | [p, q], rp, hf =>
    obtain ⟨v, u, rfl, r1, r2⟩ := rp.two
    cases p <;> cases q <;> simp only [bi, no_some, pr_some] at hf
    case int.int i j =>
      obtain ⟨rfl, rfl⟩ := hf
      simp only [Rep] at r1 r2
      subst r1 r2
      exact call_max2 hc pins s σ H _ us Q I rs ⟨i, j, rfl, post.here sr (by simp only [Rep])⟩
end
/-- the built-in's name, and what it is -/
def BI.nm : BI → Str
  | .len => "len" | .abs => "abs" | .int => "int" | .str => "str" | .ord => "ord" | .all => "all" | .any => "any" | .tuple => "tuple" | .list => "list" | .min2 => "min" | .max2 => "max"
def BI.val : BI → Value
  | .len => .builtin "len" | .abs => .builtin "abs" | .int => .type "int" | .str => .type "str" | .ord => .builtin "ord" | .all => .builtin "all" | .any => .builtin "any"
  | .tuple => .type "tuple" | .list => .type "list" | .min2 => .builtin "min" | .max2 => .builtin "max"
theorem cb_of {X : Cx} (hc : X.calm = true) : ∀ b : BI, CallR X b.val (rB X.K b)
  | .len => cb_len | .abs => cb_abs | .int => cb_int | .str => cb_str | .ord => cb_ord | .all => cb_all hc | .any => cb_any hc | .tuple => cb_tuple | .list => cb_list | .min2 => cb_min2 hc | .max2 => cb_max2 hc
theorem BI.boot : ∀ b : BI, bootBuiltins b.nm = some b.val := by intro b; cases b <;> decide +kernel
theorem BI.plain : ∀ b : BI, b.nm ≠ "__name__" ∧ (b.nm == ("__debug__" : Str)) = false := by intro b; cases b <;> decide +kernel

/-! ### isinstance -/
def Ty.nm : Ty → String
  | .str => "str" | .int => "int" | .tuple => "tuple" | .bool => "bool" | .list => "list" | .dict => "dict"
def Ty.nmS : Ty → Str
  | .str => "str" | .int => "int" | .tuple => "tuple" | .bool => "bool" | .list => "list" | .dict => "dict"
theorem Ty.boot : ∀ t : Ty, bootBuiltins t.nmS = some (.type t.nm) := by intro b; cases b <;> decide +kernel
theorem Ty.plain : ∀ b : Ty, b.nmS ≠ "__name__" ∧ (b.nmS == ("__debug__" : Str)) = false := by intro b; cases b <;> decide +kernel
def rIsiP (K : PySem.W.Frag) (t : Ty) : List V → Hp → VK → Prop := fun xs H Q => ∃ μ ρ st p r st' v, xs = [v, .ty t.nm] ∧ Rep ⟨K, μ⟩ ρ H p v ∧ SR ⟨K, μ⟩ ρ H st ∧ isiM t p st = some (r, st') ∧ Post ⟨K, μ⟩ ρ H r st' Q
theorem kb_str : ∀ t : Ty, kitB "str" t.nm = some (t == .str) := by intro t; cases t <;> decide +kernel
theorem kb_int : ∀ t : Ty, kitB "int" t.nm = some (t == .int) := by intro t; cases t <;> decide +kernel
theorem kb_non : ∀ t : Ty, kitB "NoneType" t.nm = some false := by intro t; cases t <;> decide +kernel
theorem kb_bool : ∀ t : Ty, kitB "bool" t.nm = some (t == .int || t == .bool) := by intro t; cases t <;> decide +kernel
theorem kb_tuple : ∀ t : Ty, kitB "tuple" t.nm = some (t == .tuple) := by intro t; cases t <;> decide +kernel
theorem kb_list : ∀ t : Ty, kitB "list" t.nm = some (t == .list) := by intro t; cases t <;> decide +kernel
theorem kb_dict : ∀ t : Ty, kitB "dict" t.nm = some (t == .dict) := by intro t; cases t <;> decide +kernel
theorem cb_isi {X : Cx} (t : Ty) : CallR X (.builtin "isinstance") (rIsiP X.K t) := by
  rintro pins s σ H xs us Q I rs ⟨μ, ρ, st, p, r, st', v, rfl, rp, sr, hf, post⟩
  unfold isiM at hf
  have go : ∀ (b : Bool) (n : String), isTy t p st = some b → kitB n t.nm = some b → TyX X.K H v (.type n) → wpAny (model X.prog X.w) X.A (call (.builtin "isinstance") us) (EP X pins σ Q) X.xe s := by
    intro b n h1 h2 h3
    rw [h1] at hf
    simp only [Option.map_some, Option.some.injEq, Prod.mk.injEq] at hf
    obtain ⟨rfl, rfl⟩ := hf
    exact call_isi pins s σ H _ us Q I rs ⟨v, .ty t.nm, _, _, b, rfl, .ty _, h3, kit_ty h2, post.here sr (by simp only [Rep])⟩
  cases p
  case non => simp only [Rep] at rp; subst rp; exact go _ _ (by simp only [isTy]) (kb_non t) (.base .non)
  case bl b => simp only [Rep] at rp; subst rp; exact go _ _ (by simp only [isTy]) (kb_bool t) (.base (.bl b))
  case int i => simp only [Rep] at rp; subst rp; exact go _ _ (by simp only [isTy]) (kb_int t) (.base (.int i))
  case str z => simp only [Rep] at rp; subst rp; exact go _ _ (by simp only [isTy]) (kb_str t) (.base (.str _))
  case tup ps =>
    simp only [Rep] at rp
    obtain ⟨a, vs, rfl, h, _⟩ := rp
    refine go _ _ (by simp only [isTy]) (kb_tuple t) ?_
    rcases h with ⟨h, _⟩ | ⟨o, its, n, e, c, _⟩
    · exact .base (.tup h)
    · exact .kTuple e c
  case lst ps =>
    simp only [Rep] at rp
    obtain ⟨a, vs, rfl, h, _⟩ := rp
    refine go _ _ (by simp only [isTy]) (kb_list t) ?_
    rcases h with ⟨h | ⟨o, h⟩, _⟩ | ⟨o, its, n, e, c, _⟩
    · exact .base (.lst h)
    · exact .base (.frz h)
    · exact .kList e c
  case dct ks ps =>
    simp only [Rep] at rp
    obtain ⟨a, vs, rfl, ⟨h, _⟩, _⟩ := rp
    exact go _ _ (by simp only [isTy]) (kb_dict t) (.base (.dK h))
  case cell i =>
    simp only [Rep] at rp
    obtain ⟨a, e, rfl⟩ := rp
    obtain ⟨c, o, e1, e2, q⟩ := sr.cell e
    cases c with
    | lst ps =>
      obtain ⟨vs, rfl, _⟩ := q
      exact go _ _ (by simp only [isTy, e1]) (kb_list t) (.base (.lst e2))
    | dct ps =>
      obtain ⟨vs, rfl, _⟩ := q
      exact go _ _ (by simp only [isTy, e1]) (kb_dict t) (.base (.dK e2))
end Lt

/-! Lt7: methods of texts and lists. -/
namespace Lt
open PySem PySem.Spec PyProof.Rows L2
def rM (K : PySem.W.Frag) (m : ME) : V → List V → Hp → VK → Prop := fun x xs H Q => ∃ μ ρ st p ps r st', Rep ⟨K, μ⟩ ρ H p x ∧ Reps ⟨K, μ⟩ ρ H ps xs ∧ SR ⟨K, μ⟩ ρ H st ∧ me m p ps st = some (r, st') ∧ Post ⟨K, μ⟩ ρ H r st' Q
theorem Reps.nil_of {W : Ws} {ρ : List Addr} {H : Hp} {xs : List V} (r : Reps W ρ H [] xs) : xs = [] := by simpa only [Reps] using r
theorem txs_len : ∀ {ps : List PV} {l : List Tx}, txs ps = some l → ps.length = l.length := by
  intro ps
  induction ps with
  | nil => intro l h; simp [txs] at h; subst h; rfl
  | cons p ps ih =>
    intro l h
    cases p <;> simp [txs] at h
    obtain ⟨m, h1, rfl⟩ := h
    simp [ih h1]
theorem join_mkS (sep : Tx) (l : List Tx) : Txt.join (mkS sep) (l.map mkS) = mkS (joinTx sep l) := by
  apply TL.ext_tl
  rw [TL.join_eq, TL.tl_join]
  unfold joinTx
  have e : (l.map mkS).map TL.tl = l := by
    rw [List.map_map]
    have : TL.tl ∘ mkS = id := by funext s; exact mkS_cps s
    rw [this, List.map_id]
  rw [e]
  first | done | simp [TL.tl, mkS]
theorem sum_len (l : List Tx) : ((l.map mkS).map (·.length)).sum = (l.map (·.length)).sum := by
  rw [List.map_map]
  exact congrArg List.sum (List.map_congr_left fun s _ => mkS_len s)
theorem list_extendG (l : Addr) (items : Array Value) (n : Nat) (b : Addr) (items2 : Array Value) (n2 : Nat) (dd : Option Addr) (sl : Array (Option Value)) (hc0 : ¬(!items.isEmpty && Builtin.List.listTooLong (items.size + items2.size)) = true) (hc1 : items.size ≤ sizeLine) (hs2 : items.size + items2.size ≤ sizeLine + 1) :
    Meets (Builtin.«list.extend» ⟨[.ref l, .ref b], []⟩) (fun _ R s => s.heap.get? l = some { cls := .type "list", dict := none, data := .seq items n, slots := #[] } ∧ s.heap.get? b = some { cls := .type "list", dict := dd, data := .seq items2 n2, slots := sl } ∧ R (.ok (.ret Value.none)) { s with heap := s.heap.update l (Obj.mapSeq fun x => x ++ items2), toks := s.toks }) :=
  .of_wp fun prog w A R s h => by
    obtain ⟨hp, g, d, tk, os⟩ := s; obtain ⟨hl, hb, h⟩ := h; have f1 := AutoSeq1.idx_int; have f2 := AutoSeq1.sub_tuple_tuple; have f3 := AutoSeq1.sub_list_list; have f4 := AutoSeq1.sub_tuple_list; have f5 := AutoSeq1.sub_list_tuple;
    have hZz : (items ++ items2).size ≤ sizeLine + 1 := by rw [Array.size_append]; exact hs2
    wp_walk using (wpAny_updateSeq hl rfl (hz := hc1) (_hz' := hZz)), wpAny_loadPart' hl, wpAny_loadPart' hb; exact ⟨_, rfl, h⟩
section
variable {X : Cx}
theorem mb_join : MtR X "str.join" (rM X.K .join) := by
  rintro pins s σ H x xs v us Q I rx rs ⟨μ, ρ, st, p, ps, r, st', rp, rps, sr, hf, post⟩
  cases p <;> try (cases ps <;> simp [me, no] at hf; done)
  case str sep =>
    match ps, rps, hf with
    | [], _, hf => simp [me, no] at hf
    | _ :: _ :: _, _, hf => simp [me, no] at hf
    | [q], rps, hf =>
      obtain ⟨u, rfl, rq⟩ := rps.one
      simp only [Rep] at rp
      subst rp
      have go : ∀ (a : Addr) (zs : List PV) (vs : List V) (ys : List Tx), u = .ref a → (SqL X.K H a vs ∨ SqT X.K H a vs) → Reps ⟨X.K, μ⟩ ρ H zs vs → txs zs = some ys → (ys.map (·.length)).sum + ys.length * sep.length ≤ 16777216 → r = .str (joinTx sep ys) → st = st' → wpAny (model X.prog X.w) X.A (call (.builtin "str.join") (v :: us)) (EP X pins σ Q) X.xe s := by
        rintro a zs vs ys rfl hq t h1 h2 rfl rfl
        have e := t.of_txs h1
        subst e
        refine mt_join pins s σ H _ _ v us Q I rx rs ⟨mkS sep, a, ys.map mkS, rfl, rfl, hq, ?_, post.here sr ?_⟩
        · rw [sum_len, List.length_map, mkS_len]
          exact h2
        · simp only [Rep, join_mkS]
      cases q <;> simp only [me, bd_some, ofO_some, grd_some, pr_some, itemsLM_some] at hf
      case tup zs =>
        obtain ⟨_, _, ⟨rfl, rfl⟩, ys, _, ⟨h1, rfl⟩, _, _, ⟨h2, rfl⟩, h3, h4⟩ := hf
        obtain ⟨a, vs, rfl, q, t⟩ := rq.tuple
        exact go a zs vs ys rfl (.inr q) t h1 h2 h3.symm h4
      case lst zs =>
        obtain ⟨zs', _, ⟨h0, rfl⟩, ys, _, ⟨h1, rfl⟩, _, _, ⟨h2, rfl⟩, h3, h4⟩ := hf
        obtain ⟨a, vs, rfl, q, t⟩ := rq.list sr h0
        exact go a zs' vs ys rfl (.inl q) t h1 h2 h3.symm h4
      case cell c =>
        obtain ⟨zs', _, ⟨h0, rfl⟩, ys, _, ⟨h1, rfl⟩, _, _, ⟨h2, rfl⟩, h3, h4⟩ := hf
        obtain ⟨a, vs, rfl, q, t⟩ := rq.list sr h0
        exact go a zs' vs ys rfl (.inl q) t h1 h2 h3.symm h4
      all_goals simp [itemsL] at hf
/-- a cell that is a list -/
theorem cell_list {W : Ws} {ρ : List Addr} {H : Hp} {st : Store} {c : Nat} {x : V} {ps : List PV} (s : SR W ρ H st) (r : Rep W ρ H (.cell c) x) (e : st[c]? = some (.lst ps)) : ∃ a vs, x = .ref a ∧ ρ[c]? = some a ∧ H a = some (.lst vs) ∧ Reps W ρ H ps vs := by
  simp only [Rep] at r
  obtain ⟨a, ea, rfl⟩ := r
  obtain ⟨ce, o, e1, e2, q⟩ := s.cell ea
  rw [e] at e1
  cases e1
  obtain ⟨vs, rfl, t⟩ := q
  exact ⟨a, vs, rfl, ea, e2, t⟩
theorem mb_append : MtR X "list.append" (rM X.K .append) := by
  rintro pins s σ H x xs v us Q I rx rs ⟨μ, ρ, st, p, ps, r, st', rp, rps, sr, hf, post⟩
  cases p <;> try (cases ps <;> simp [me, no] at hf; done)
  case cell c =>
    match ps, rps, hf with
    | [], _, hf => simp [me, no] at hf
    | _ :: _ :: _, _, hf => simp [me, no] at hf
    | [q], rps, hf =>
      obtain ⟨u, rfl, rq⟩ := rps.one
      simp only [me] at hf
      split at hf
      · rename_i ys e
        obtain ⟨a, vs, rfl, ea, e2, t⟩ := cell_list sr rp e
        by_cases hl : ys.length < SL
        · rw [if_pos hl] at hf
          simp only [Option.some.injEq, Prod.mk.injEq] at hf
          obtain ⟨rfl, rfl⟩ := hf
          have k := sr.put (o := .lst (vs ++ [u])) (c := .lst (ys ++ [q])) ea ⟨_, rfl, t.append (.cons rq .nil)⟩
          exact mt_append pins s σ H _ _ v us Q I rx rs ⟨a, vs, u, rfl, rfl, e2, by rw [← t.length, ← SL_eq]; exact hl, post _ _ _ k.2 k.1 (by simp only [Rep])⟩
        · rw [if_neg hl] at hf
          cases hf
      · cases hf
theorem mb_pop0 : MtR X "list.pop" (rM X.K .pop0) := by
  rintro pins s σ H x xs v us Q I rx rs ⟨μ, ρ, st, p, ps, r, st', rp, rps, sr, hf, post⟩
  cases p <;> try (cases ps <;> simp [me, no] at hf; done)
  case cell c =>
    match ps, rps, hf with
    | _ :: _, _, hf => simp [me, no] at hf
    | [], rps, hf =>
      have e0 := rps.nil_of
      subst e0
      simp only [me] at hf
      split at hf
      · rename_i ys e
        obtain ⟨a, vs, rfl, ea, e2, t⟩ := cell_list sr rp e
        split at hf
        · rename_i y ey
          simp only [Option.some.injEq, Prod.mk.injEq] at hf
          obtain ⟨rfl, rfl⟩ := hf
          obtain ⟨u, hu, ru⟩ := t.get ey
          have k := sr.put (o := .lst vs.dropLast) (c := .lst ys.dropLast) ea ⟨_, rfl, t.dropLast⟩
          exact mt_pop pins s σ H _ _ v us Q I rx rs ⟨a, vs, u, rfl, rfl, e2, by rw [← t.length]; exact hu, post _ _ _ k.2 k.1 (ru.mono k.2)⟩
        · cases hf
      · cases hf
theorem mb_pop1 : MtR X "list.pop" (rM X.K .pop1) := by
  rintro pins s σ H x xs v us Q I rx rs ⟨μ, ρ, st, p, ps, r, st', rp, rps, sr, hf, post⟩
  cases p <;> try (cases ps <;> simp [me, no] at hf; done)
  case cell c =>
    match ps, rps, hf with
    | [], _, hf => simp [me, no] at hf
    | _ :: _ :: _, _, hf => simp [me, no] at hf
    | [q], rps, hf =>
      obtain ⟨u, rfl, rq⟩ := rps.one
      cases q <;> try (simp [me, no] at hf; done)
      case int i =>
        simp only [Rep] at rq
        subst rq
        simp only [me] at hf
        split at hf
        · rename_i ys e
          obtain ⟨a, vs, rfl, ea, e2, t⟩ := cell_list sr rp e
          split at hf
          · rename_i k ek
            split at hf
            · rename_i y ey
              simp only [Option.some.injEq, Prod.mk.injEq] at hf
              obtain ⟨rfl, rfl⟩ := hf
              obtain ⟨u, hu, ru⟩ := t.get ey
              obtain ⟨h1, h2, h3, h4⟩ := ixN_seq ek
              obtain ⟨hz, _⟩ := I.lstM e2
              have hlen := t.length
              have hl := line63
              have k := sr.put (o := .lst (vs.eraseIdx k)) (c := .lst (ys.eraseIdx k)) ea ⟨_, rfl, t.eraseIdx _⟩
              exact mt_popAt pins s σ H _ _ v us Q I rx rs ⟨a, vs, i, _, u, rfl, rfl, e2, by omega, by omega, by rw [← hlen]; exact h1, hu, post _ _ _ k.2 k.1 (ru.mono k.2)⟩
            · cases hf
          · cases hf
        · cases hf
theorem mb_extend : MtR X "list.extend" (rM X.K .extend) := by
  rintro pins s σ H x xs v us Q I rx rs ⟨μ, ρ, st, p, ps, r, st', rp, rps, sr, hf, post⟩
  cases p <;> try (cases ps <;> simp [me, no] at hf; done)
  case cell c =>
    match ps, rps, hf with
    | [], _, hf => simp [me, no] at hf
    | _ :: _ :: _, _, hf => simp [me, no] at hf
    | [q], rps, hf =>
      obtain ⟨u, rfl, rq⟩ := rps.one
      simp only [me] at hf
      split at hf
      · rename_i ys zs e1 e2
        obtain ⟨a, vs, rfl, ea, eH, t⟩ := cell_list sr rp e1
        obtain ⟨b, ws, rfl, hB, t2⟩ := rq.list sr e2
        by_cases hl : ys.length + zs.length ≤ SL ∧ q ≠ .cell c
        · rw [if_pos hl] at hf
          simp only [Option.some.injEq, Prod.mk.injEq] at hf
          obtain ⟨rfl, rfl⟩ := hf
          have len1 := t.length
          have len2 := t2.length
          have hz : vs.length + ws.length ≤ sizeLine := by rw [← len1, ← len2, ← SL_eq]; exact hl.1
          have k := sr.put (o := .lst (vs ++ ws)) (c := .lst (ys ++ zs)) ea ⟨_, rfl, t.append t2⟩
          cases rx
          obtain ⟨u', rfl, ru⟩ := rs.one
          cases ru
          obtain ⟨z, its, n, r, hl, e⟩ := I.lstM eH
          obtain ⟨its2, r2, p2, hz2⟩ := I.list hB
          obtain ⟨⟨cls, dd, data, sl⟩, ho, hc, n2, hd⟩ := p2.isList
          simp only at hc hd
          subst hc hd
          have l2 := r2.length
          have hSq : its.toArray.size + its2.toArray.size ≤ sizeLine := by rw [List.size_toArray, List.size_toArray]; omega
          have hLo : ¬ (!its.toArray.isEmpty && Builtin.List.listTooLong (its.toArray.size + its2.toArray.size)) = true := by
            rw [notLongL hSq, Bool.and_false]
            exact Bool.false_ne_true
          refine call_meets F.slot_list_extend ⟨_, e, rfl⟩ F.entry_list_extend (F.args_list_extend_2 _ _)
            (list_extendG a its.toArray n b its2.toArray n2 dd sl hLo (by rw [List.size_toArray]; omega) (by omega)) ⟨e, ho, ?_⟩
          refine ⟨.non, _, I.lset (its' := its ++ its2) eH e (by simp) (r.append r2) ?_, rfl, post _ _ _ k.2 k.1 (by simp only [Rep])⟩
          rw [List.length_append]
          omega
        · rw [if_neg hl] at hf
          cases hf
      · cases hf
theorem mb_upper : MtR X "str.upper" (rM X.K .upper) := by
  rintro pins s σ H x xs v us Q I rx rs ⟨μ, ρ, st, p, ps, r, st', rp, rps, sr, hf, post⟩
  cases p <;> try (cases ps <;> simp [me, no] at hf; done)
  case str z =>
    match ps, rps, hf with
    | _ :: _, _, hf => simp [me, no] at hf
    | [], rps, hf =>
      have e0 := rps.nil_of
      subst e0
      simp only [me, bd_some, grd_some, pr_some] at hf
      obtain ⟨_, _, ⟨⟨h1, h2⟩, rfl⟩, rfl, rfl⟩ := hf
      simp only [Rep] at rp
      subst rp
      refine mt_upper pins s σ H _ _ v us Q I rx rs ⟨mkS z, rfl, rfl, by rw [mkS_len]; exact h1, post.here sr ?_⟩
      simp only [Rep]
      rw [PyProof.Rows.upper_ascii (fun c hc => by
        rw [mkS_cps] at hc
        exact of_decide_eq_true (List.all_eq_true.mp h2 c hc))]
      congr 1
      simp [mkS, upC]
theorem starts_mkS (a b : Tx) : Txt.startswith (mkS a) (mkS b) = b.isPrefixOf a := by
  unfold Txt.startswith
  rw [StrLaws.subAt_eq, mkS_cps, mkS_len, mkS_len, mkS_cps, List.drop_zero]
  rw [Bool.eq_iff_iff]
  simp only [Bool.and_eq_true, decide_eq_true_eq, beq_iff_eq, List.isPrefixOf_iff_prefix]
  constructor
  · rintro ⟨_, h⟩
    exact List.prefix_iff_eq_take.mpr h.symm
  · intro h
    exact ⟨by have := h.length_le; omega, (List.prefix_iff_eq_take.mp h).symm⟩
theorem mb_startswith : MtR X "str.startswith" (rM X.K .startswith) := by
  rintro pins s σ H x xs v us Q I rx rs ⟨μ, ρ, st, p, ps, r, st', rp, rps, sr, hf, post⟩
  cases p <;> try (cases ps <;> simp [me, no] at hf; done)
  case str z =>
    match ps, rps, hf with
    | [], _, hf => simp [me, no] at hf
    | _ :: _ :: _, _, hf => simp [me, no] at hf
    | [q], rps, hf =>
      obtain ⟨u, rfl, rq⟩ := rps.one
      cases q <;> try (simp [me, no] at hf; done)
      case str t =>
        simp only [me, pr_some] at hf
        obtain ⟨rfl, rfl⟩ := hf
        simp only [Rep] at rp rq
        subst rp rq
        exact mt_startswith pins s σ H _ _ v us Q I rx rs ⟨mkS z, mkS t, rfl, rfl, post.here sr (by simp only [Rep, starts_mkS])⟩
end
/-- a method's type, its name, its built-in -/
def ME.ty : ME → String
  | .join | .upper | .startswith => "str"
  | .append | .pop0 | .pop1 | .extend => "list"
def ME.nm : ME → Str
  | .join => "join" | .upper => "upper" | .startswith => "startswith" | .append => "append" | .pop0 => "pop" | .pop1 => "pop" | .extend => "extend"
def ME.id : ME → String
  | .join => "str.join" | .upper => "str.upper" | .startswith => "str.startswith" | .append => "list.append" | .pop0 => "list.pop" | .pop1 => "list.pop" | .extend => "list.extend"
/-- its arguments' number -/
def ME.ar : ME → Nat
  | .join => 1 | .upper => 0 | .startswith => 1 | .append => 1 | .pop0 => 0 | .pop1 => 1 | .extend => 1
theorem ME.pa : ∀ m : ME, PlainAttrs m.ty
  | .join | .upper | .startswith => PySem.F.plainAttrs_str
  | .append | .pop0 | .pop1 | .extend => PySem.F.plainAttrs_list
theorem ME.slot : ∀ m : ME, Slot m.ty m.nm m.id
  | .join => PySem.F.slot_str_join | .upper => PySem.F.slot_str_upper | .startswith => PySem.F.slot_str_startswith | .append => PySem.F.slot_list_append | .pop0 => PySem.F.slot_list_pop | .pop1 => PySem.F.slot_list_pop | .extend => PySem.F.slot_list_extend
theorem ME.hty : ∀ m : ME, typeOf (.builtin m.id) = pure (.type "method_descriptor")
  | .join => PySem.F.type_str_join | .upper => PySem.F.type_str_upper | .startswith => PySem.F.type_str_startswith | .append => PySem.F.type_list_append | .pop0 => PySem.F.type_list_pop | .pop1 => PySem.F.type_list_pop | .extend => PySem.F.type_list_extend
theorem mb_of {X : Cx} : ∀ m : ME, MtR X m.id (rM X.K m)
  | .join => mb_join | .upper => mb_upper | .startswith => mb_startswith | .append => mb_append | .pop0 => mb_pop0 | .pop1 => mb_pop1 | .extend => mb_extend
/-- the receiver's type is the method's -/
theorem me_ty {W : Ws} {ρ : List Addr} {H : Hp} {st st' : Store} {m : ME} {p : PV} {u : Unit} {v : V} (s : SR W ρ H st) (rp : Rep W ρ H p v) (h : recv m p st = some (u, st')) : st = st' ∧ tyV W.K m.ty v H := by
  have hl : ∀ xs, itemsL p st = some xs → m.ofStr = false → tyV W.K m.ty v H := by
    intro xs h1 h2
    obtain ⟨a, vs, rfl, q, _⟩ := rp.list s h1
    have e : m.ty = "list" := by cases m <;> first | rfl | (simp [ME.ofStr] at h2; done)
    rw [e]
    exact .inl ⟨rfl, vs, q⟩
  cases p <;> simp only [recv] at h
  case str z =>
    split at h
    · rename_i h1
      simp only [Option.some.injEq, Prod.mk.injEq] at h
      simp only [Rep] at rp
      subst rp
      have e : m.ty = "str" := by cases m <;> first | rfl | (simp [ME.ofStr] at h1; done)
      refine ⟨h.2, ?_⟩
      rw [e]
      rfl
    · cases h
  all_goals
    split at h
    · rename_i h1
      simp only [Option.some.injEq, Prod.mk.injEq] at h
      obtain ⟨h1, h2⟩ := h1
      obtain ⟨xs, h3⟩ := Option.isSome_iff_exists.mp h2
      exact ⟨h.2, hl xs h3 h1⟩
    · cases h
end Lt

/-! Lt8: the readings of the small language's parts; what is known where code runs. -/
namespace Lt
open PySem PySem.Spec PyProof.Rows L2

/-! ### readings -/
def tE (K : PySem.W.Frag) (m : Env → M PV) : TE := fun σ H Q => ∃ μ ρ st env p st', ER ⟨K, μ⟩ ρ H env σ ∧ SR ⟨K, μ⟩ ρ H st ∧ m env st = some (p, st') ∧ Post ⟨K, μ⟩ ρ H p st' Q
def tA (K : PySem.W.Frag) (m : Env → M (List PV)) : TA := fun σ H Q => ∃ μ ρ st env ps st', ER ⟨K, μ⟩ ρ H env σ ∧ SR ⟨K, μ⟩ ρ H st ∧ m env st = some (ps, st') ∧ PostA ⟨K, μ⟩ ρ H ps st' Q
def tT (K : PySem.W.Frag) (m : Env → M Bool) : TT := fun σ H Q => ∃ μ ρ st env b st', ER ⟨K, μ⟩ ρ H env σ ∧ SR ⟨K, μ⟩ ρ H st ∧ m env st = some (b, st') ∧ PostT ⟨K, μ⟩ ρ H b st' Q
/-- what a statement's end wants -/
def PostS (W : Ws) (ρ : List Addr) (H : Hp) (n : Nat) (o : Out) (st : Store) (D : Ends) : Prop := match o with
  | .nx env => ∀ ρ' H' σ', Kp ρ H ρ' H' → SR W ρ' H' st → ER W ρ' H' env σ' → D.nx σ' H'
  | .bk env => ∀ ρ' H' σ', Kp ρ H ρ' H' → SR W ρ' H' st → ER W ρ' H' env σ' → D.bk σ' H'
  | .ct env => ∀ ρ' H' σ', Kp ρ H ρ' H' → SR W ρ' H' st → ER W ρ' H' env σ' → D.ct σ' H'
  | .rt p => ∀ ρ' H' w, Kp ρ H ρ' H' → SR W ρ' H' st → Rep W ρ' H' p w → D.rt w H'
def tS (K : PySem.W.Frag) (m : Env → M Out) : TS := fun D σ H => ∃ μ ρ st env o st', ER ⟨K, μ⟩ ρ H env σ ∧ SR ⟨K, μ⟩ ρ H st ∧ m env st = some (o, st') ∧ PostS ⟨K, μ⟩ ρ H 0 o st' D
def tG (K : PySem.W.Frag) (tg : LG) : TG := fun v σ H Q => ∃ μ ρ env p env', ER ⟨K, μ⟩ ρ H env σ ∧ Rep ⟨K, μ⟩ ρ H p v ∧ asg tg p env = some env' ∧
  ∀ σ', ER ⟨K, μ⟩ ρ H env' σ' → σ'.length = σ.length → (∀ j, j ∉ tg.slots → σ'[j]? = σ[j]?) → Q σ' H
def tGs (K : PySem.W.Frag) (gs : List LG) : TGs := fun vs σ H Q => ∃ μ ρ env ps env', ER ⟨K, μ⟩ ρ H env σ ∧ Reps ⟨K, μ⟩ ρ H ps vs ∧ asgs gs ps env = some env' ∧
  ∀ σ', ER ⟨K, μ⟩ ρ H env' σ' → σ'.length = σ.length → (∀ j, j ∉ slotss gs → σ'[j]? = σ[j]?) → Q σ' H
/-- a walk over what vs (standing as V) gives: the items xs -/
def Wk (K : PySem.W.Frag) (J : It) (k : IK) (vs : List PV) (ws : List V) (xs : List PV) : Prop := ∀ μ ρ H st, SR ⟨K, μ⟩ ρ H st → Reps ⟨K, μ⟩ ρ H vs ws → iterS k vs st = some xs →
  (∀ i, i < xs.length → J.go i H) ∧ J.stop xs.length H ∧ ∀ i x H', i < xs.length → J.yld i H x H' → Kp ρ H ρ H' ∧ SR ⟨K, μ⟩ ρ H' st ∧ ∃ p, xs[i]? = some p ∧ Rep ⟨K, μ⟩ ρ H' p x
def tI (K : PySem.W.Frag) (k : IK) (m : Env → M (List PV)) : TI := fun σ H R => ∃ μ ρ st env vs st1 xs, ER ⟨K, μ⟩ ρ H env σ ∧ SR ⟨K, μ⟩ ρ H st ∧ m env st = some (vs, st1) ∧ iterS k vs st1 = some xs ∧
  ∀ ρ1 H1 ws J, Kp ρ H ρ1 H1 → SR ⟨K, μ⟩ ρ1 H1 st1 → Reps ⟨K, μ⟩ ρ1 H1 vs ws → Wk K J k vs ws xs → R J H1
theorem PE_imp {X : Cx} {e : Expr} {t t' : TE} (h : PE X e t) (i : ∀ σ H Q, t' σ H Q → t σ H Q) : PE X e t' := ⟨fun pins s σ H Q I q => h.run pins s σ H Q I (i σ H Q q)⟩
theorem PT_imp {X : Cx} {e : Expr} {t t' : TT} (h : PT X e t) (i : ∀ σ H Q, t' σ H Q → t σ H Q) : PT X e t' := ⟨fun pins s σ H Q I q => h.run pins s σ H Q I (i σ H Q q)⟩
theorem PW_imp {X : Cx} {e : Expr} {t t' : TT} (h : PW X e t) (i : ∀ σ H Q, t' σ H Q → t σ H Q) : PW X e t' := ⟨fun w pins s σ H Q I q => h.run w pins s σ H Q I (i σ H Q q)⟩
theorem PA_imp {X : Cx} {e : List Expr} {t t' : TA} (h : PA X e t) (i : ∀ σ H Q, t' σ H Q → t σ H Q) : PA X e t' := ⟨fun p pins s σ H Q I q => h.run p pins s σ H Q I (i σ H Q q)⟩
theorem PS_imp {X : Cx} {e : Stmt} {t t' : TS} (h : PS X e t) (i : ∀ D σ H, t' D σ H → t D σ H) : PS X e t' := ⟨fun pins s σ H D I q => h.run pins s σ H D I (i D σ H q)⟩
theorem PSs_imp {X : Cx} {e : List Stmt} {t t' : TS} (h : PSs X e t) (i : ∀ D σ H, t' D σ H → t D σ H) : PSs X e t' := ⟨fun pins s σ H D I q => h.run pins s σ H D I (i D σ H q)⟩
theorem PG_imp {X : Cx} {e : Expr} {t t' : TG} (h : PG X e t) (i : ∀ v σ H Q, t' v σ H Q → t v σ H Q) : PG X e t' := ⟨fun pins s σ H v u Q I r q => h.run pins s σ H v u Q I r (i v σ H Q q)⟩
theorem PGs_imp {X : Cx} {e : List Expr} {t t' : TGs} (h : PGs X e t) (i : ∀ v σ H Q, t' v σ H Q → t v σ H Q) : PGs X e t' := ⟨fun pins s σ H v u Q I r q => h.run pins s σ H v u Q I r (i v σ H Q q)⟩
theorem PI_imp {X : Cx} {tg e : Expr} {t t' : TI} (h : PI X tg e t) (i : ∀ σ H R, t' σ H R → t σ H R) : PI X tg e t' := ⟨fun pins s σ H R I q => h.run pins s σ H R I (i σ H R q)⟩
theorem PI_or {X : Cx} {tg e : Expr} {t t' : TI} (h : PI X tg e t) (h' : PI X tg e t') : PI X tg e (fun σ H R => t σ H R ∨ t' σ H R) := ⟨fun pins s σ H R I q => by
  rcases q with q | q
  · exact h.run pins s σ H R I q
  · exact h'.run pins s σ H R I q⟩

/-! ### what is known of the module -/
structure Tab where
  gl : List (Str × PV)
  fn : List (Str × Df)
  bn : List Str
noncomputable def Tab.rg (T : Tab) (fu k : Nat) : Rg := ⟨fun g => (T.gl[g]?).map (·.2), mean (fun g => (T.gl[g]?).map (·.2)) (T.fn.map (·.2)) fu k, fu⟩
/-- a def's promise -/
def spF (K : PySem.W.Frag) (n : Nat) (g : List PV → M PV) : Sp := fun vs H Q _ => vs.length = n ∧ ∃ μ ρ st ps p st', Reps ⟨K, μ⟩ ρ H ps vs ∧ SR ⟨K, μ⟩ ρ H st ∧ g ps st = some (p, st') ∧ Post ⟨K, μ⟩ ρ H p st' Q
/-- where code runs: names N, the scope sc, room for k calls, the defs' promises -/
structure LX (T : Tab) (fu k : Nat) (N : List Str) (sc lsc : Scope) (X : Cx) : Prop where
  hN : X.N = N
  nd : N.Nodup
  hsc : X.env.scope = sc
  calm : X.calm = true
  room : Room k X.A
  xe : X.xe = fun _ _ => False
  loc : ∀ x, L2.Loc lsc x → L2.Loc X.env.scope x ∧ (X.fn x = true ∨ X.env.scope.names.lookup x = some .local)
  fns : ∀ (f : Nat) x d, T.fn[f]? = some (x, d) → ∃ a fd ps, X.mg x = some (.ref a) ∧ PySem.W.keepIn X.K (.ref a) = true ∧ Binds X.K fd ps [] ∧ ps.length = d.par ∧ FnOk X.prog X.w X.K X.mg X.base CX0 k a fd ps (spF X.K d.par ((T.rg fu k).fn f))
  gls : ∀ (g : Nat) x p, T.gl[g]? = some (x, p) → ∃ u v, X.mg x = some u ∧ RelV v u ∧ ∀ μ ρ H, Rep ⟨X.K, μ⟩ ρ H p v
  bis : ∀ x ∈ T.bn, X.mg x = none

/-! ### what is looked at in the text -/
def visB (sc : Scope) (x : Str) : Bool := match sc.names.lookup x with
  | some .local => true | some .cell => true | some .free => true | _ => false
def locB (sc : Scope) (x : Str) : Bool := match sc.names.lookup x with
  | some .local => true | some .cell => true | _ => false
def glB (sc : Scope) (x : Str) : Bool := match sc.names.lookup x with
  | some .globalImplicit => true | _ => false
theorem visB_of {sc : Scope} {x : Str} (h : visB sc x = true) : Vis sc x := by
  unfold visB at h
  unfold Vis
  split at h <;> simp_all
theorem locB_of {sc : Scope} {x : Str} (h : locB sc x = true) : L2.Loc sc x := by
  unfold locB at h
  unfold L2.Loc
  split at h <;> simp_all
theorem glB_of {sc : Scope} {x : Str} (h : glB sc x = true) : sc.names.lookup x = some .globalImplicit := by
  unfold glB at h
  split at h <;> simp_all
def nmOk (x : Str) : Bool := !(x == ("__debug__" : Str)) && !(x == ("__classdict__" : Str)) && !(x == ("__name__" : Str))
def notStar : Expr → Bool | .Starred .. => false | _ => true
def notSet : Expr → Bool | .Set .. => false | _ => true
def notSlice : Expr → Bool | .Slice .. => false | _ => true
def notCall0 : Expr → Bool | .Call _ [] [] _ => false | _ => true
/-- its test is its value's truth -/
def plainT : Expr → Bool
  | .UnaryOp .Not _ _ => false | .BoolOp .. => false | .IfExp .. => false | .Compare .. => false | _ => true
theorem plainT_of {e : Expr} {env : PySem.Env} (h : plainT e = true) : ∀ whole, isTrue e env whole = (do let v ← whole; standAt e.pos; holding [v] (truthy v)) := by
  intro whole
  cases e <;> first | rfl | (simp [plainT] at h; done) | skip
  case UnaryOp op a pos => cases op <;> first | rfl | (simp [plainT] at h; done)
theorem notStar_of {e : Expr} {es : List Expr} {env : PySem.Env} (h : notStar e = true) : starEach (e :: es) env = (false, eval e env) :: starEach es env := by
  cases e <;> first | rfl | (simp [notStar] at h; done)
theorem notSet_fold {e : Expr} {env : PySem.Env} (h : notSet e = true) : ∀ x, foldedSetIterable e env x = pure x := by
  intro x
  cases e <;> first | rfl | (simp [notSet] at h; done)
theorem notSet_marks {op : CmpOp} {e : Expr} (h : notSet e = true) : behindInMarks op e = false := by
  cases e <;> first | rfl | (simp [notSet] at h; done)
theorem notSlice_of {e : Expr} (h : notSlice e = true) : PlainIx e := by
  intro o i
  cases e <;> first | rfl | (simp [notSlice] at h; done)
theorem notCall0_of {e : Expr} {nm : Str} {env : PySem.Env} (h : notCall0 e = true) : attributeBase e nm env (eval e env) = eval e env := by
  cases e <;> first | rfl | skip
  case Call f args kws pos =>
    cases args <;> cases kws <;> first | (simp [notCall0] at h; done) | (cases f <;> rfl)
end Lt

/-! Lt9: targets, walks. -/
namespace Lt
open PySem PySem.Spec PyProof.Rows L2

/-! ### targets -/
mutual
def chkG (N : List Str) (sc : Scope) : LG → Expr → Bool
  | .name i, .Name x _ => decide (N[i]? = some x) && locB sc x
  | .tup gs, .Tuple es _ _ => chkGs N sc gs es
  | _, _ => false
def chkGs (N : List Str) (sc : Scope) : List LG → List Expr → Bool
  | [], [] => true
  | g :: gs, e :: es => notStar e && chkG N sc g e && chkGs N sc gs es
  | _, _ => false
end
theorem assignEach_cons {e : Expr} {es : List Expr} {env : PySem.Env} (h : notStar e = true) : assignEach (e :: es) env = (false, assign e env) :: assignEach es env := by
  cases e <;> first | rfl | (simp [notStar] at h; done)
theorem chkGs_each {N : List Str} {sc : Scope} {env : PySem.Env} : ∀ {gs : List LG} {es : List Expr}, chkGs N sc gs es = true → (assignEach es env).length = gs.length ∧ (assignEach es env).findIdx? (·.1) = none
  | [], [], _ => ⟨rfl, rfl⟩
  | [], _ :: _, h => by simp [chkGs] at h
  | _ :: _, [], h => by simp [chkGs] at h
  | g :: gs, e :: es, h => by
    simp only [chkGs, Bool.and_eq_true] at h
    obtain ⟨i1, i2⟩ := chkGs_each (env := env) h.2
    rw [assignEach_cons h.1.1]
    refine ⟨by simp [i1], ?_⟩
    rw [List.findIdx?_cons, i2]
    rfl
section
variable {W : Ws} {ρ : List Addr} {H : Hp}
theorem ER.set {env : Env} {σ : L2.St} {i : Nat} {p : PV} {v : V} (h : ER W ρ H env σ) (r : Rep W ρ H p v) : ER W ρ H (env.set i (some p)) (σ.set i (some v)) := by
  refine ⟨by simp [h.1], fun j q e => ?_⟩
  by_cases hj : j = i
  · subst hj
    by_cases hl : j < env.length
    · rw [List.getElem?_set_self hl] at e
      simp only [Option.some.injEq] at e
      subst e
      exact ⟨v, by rw [List.getElem?_set_self (by rw [← h.1]; exact hl)], r⟩
    · rw [List.getElem?_eq_none (by simpa using hl)] at e
      cases e
  · rw [List.getElem?_set_ne (Ne.symm hj)] at e ⊢
    exact h.2 j q e
end
section
variable {T : Tab} {fu k : Nat} {N : List Str} {sc lsc : Scope} {X : Cx}
mutual
theorem pg_ok (L : LX T fu k N sc lsc X) : ∀ (g : LG) (e : Expr), chkG N lsc g e = true → PG X e (tG X.K g)
  | .name i, e, h => by
    cases e <;> simp only [chkG] at h <;> try (exact absurd h Bool.false_ne_true)
    case Name x pos =>
      simp only [Bool.and_eq_true, decide_eq_true_eq] at h
      have hN : X.N[i]? = some x := by rw [L.hN]; exact h.1
      obtain ⟨hx, hx2⟩ := L.loc x (locB_of h.2)
      refine PG_imp (pg_name (i := i) (by rw [L.hN]; exact L.nd) hN hx hx2) fun v σ H Q ⟨μ, ρ, env, p, env', er, rp, ha, q⟩ => ?_
      simp only [asg] at ha
      split at ha
      · simp only [Option.some.injEq] at ha
        subst ha
        exact q _ (er.set rp) (by simp) fun j hj => by
          simp only [LG.slots, List.mem_singleton] at hj
          rw [List.getElem?_set_ne (Ne.symm hj)]
      · cases ha
  | .tup gs, e, h => by
    cases e <;> simp only [chkG] at h <;> try (exact absurd h Bool.false_ne_true)
    case Tuple es kk pos =>
      obtain ⟨e1, e2⟩ := chkGs_each (env := X.env) h
      refine PG_imp (pg_tup L.calm (pgs_ok L gs es h) e1 e2) fun v σ H Q ⟨μ, ρ, env, p, env', er, rp, ha, q⟩ => ?_
      cases p <;> simp only [asg] at ha <;> try (cases ha; done)
      case tup xs =>
        obtain ⟨a, vs, rfl, hq, t⟩ := rp.tuple
        have hl : ∀ {gs : List LG} {xs : List PV} {env env' : Env}, asgs gs xs env = some env' → gs.length = xs.length := by
          intro gs
          induction gs with
          | nil => intro xs env env' h; cases xs <;> simp [asgs] at h ⊢
          | cons g gs ih =>
            intro xs env env' h
            cases xs with
            | nil => simp [asgs] at h
            | cons x xs =>
              simp only [asgs] at h
              split at h
              · simp [ih h]
              · cases h
        exact ⟨a, vs, rfl, hq, by rw [← t.length, hl ha], μ, ρ, env, xs, env', er, t, ha, fun σ' h1 h2 h3 => q σ' h1 h2 fun j hj => h3 j (by simpa only [LG.slots] using hj)⟩
theorem pgs_ok (L : LX T fu k N sc lsc X) : ∀ (gs : List LG) (es : List Expr), chkGs N lsc gs es = true → PGs X es (tGs X.K gs)
  | [], [], _ => by
    refine PGs_imp pgs_nil fun vs σ H Q ⟨μ, ρ, env, ps, env', er, rp, ha, q⟩ => ?_
    cases ps with
    | nil =>
      simp only [asgs, Option.some.injEq] at ha
      subst ha
      exact ⟨rp.nil_of, q σ er rfl fun _ _ => rfl⟩
    | cons p ps => simp [asgs] at ha
  | [], _ :: _, h => by simp [chkGs] at h
  | _ :: _, [], h => by simp [chkGs] at h
  | g :: gs, e :: es, h => by
    simp only [chkGs, Bool.and_eq_true] at h
    refine PGs_imp (pgs_cons (pg_ok L g e h.1.2) (pgs_ok L gs es h.2) (by rw [assignEach_cons h.1.1]; rfl)) fun vs σ H Q ⟨μ, ρ, env, ps, env', er, rp, ha, q⟩ => ?_
    cases ps with
    | nil => simp [asgs] at ha
    | cons p ps =>
      simp only [asgs] at ha
      split at ha
      · rename_i env1 h1
        simp only [Reps] at rp
        obtain ⟨v, ws, rfl, rp1, rt⟩ := rp
        refine ⟨v, ws, rfl, μ, ρ, env, p, env1, er, rp1, h1, fun σ1 er1 l1 o1 => ?_⟩
        exact ⟨μ, ρ, env1, ps, env', er1, rt, ha, fun σ2 er2 l2 o2 => q σ2 er2 (l2.trans l1) fun j hj => by
          simp only [slotss, List.mem_append, not_or] at hj
          rw [o2 j hj.2, o1 j hj.1]⟩
      · cases ha
end
end

/-! ### walks -/
theorem wk_list {K : PySem.W.Frag} {p : PV} {a : Addr} {xs : List PV} (h : ∀ st, iterS .seq [p] st = itemsL p st) : Wk K (Itl K a) .seq [p] [.ref a] xs := by
  intro μ ρ H st sr rp hs
  rw [h] at hs
  obtain ⟨v, ev, r⟩ := rp.one
  simp only [List.cons.injEq, and_true] at ev
  subst ev
  obtain ⟨a', vs, e, q, t⟩ := r.list sr hs
  cases e
  have hl := t.length
  refine ⟨fun i hi => ⟨vs, vs[i]'(by omega), q, by simp [show i < vs.length by omega]⟩, ⟨vs, q, by omega⟩, fun i x H' hi y => ?_⟩
  obtain ⟨rfl, y⟩ := y
  obtain ⟨pp, h1, h2⟩ := t.get' (y vs q)
  exact ⟨.refl, sr, pp, h1, h2⟩
theorem wk_tup {K : PySem.W.Frag} {a : Addr} {xs ys : List PV} : Wk K (Itt K a) .seq [.tup ys] [.ref a] xs := by
  intro μ ρ H st sr rp hs
  simp only [iterS, Option.some.injEq] at hs
  subst hs
  obtain ⟨v, ev, r⟩ := rp.one
  simp only [List.cons.injEq, and_true] at ev
  subst ev
  obtain ⟨a', vs, e, q, t⟩ := r.tuple
  cases e
  have hl := t.length
  refine ⟨fun i hi => ⟨vs, vs[i]'(by omega), q, by simp [show i < vs.length by omega]⟩, ⟨vs, q, by omega⟩, fun i x H' hi y => ?_⟩
  obtain ⟨rfl, y⟩ := y
  obtain ⟨pp, h1, h2⟩ := t.get' (y vs q)
  exact ⟨.refl, sr, pp, h1, h2⟩
theorem wk_str {K : PySem.W.Frag} {z : Tx} {ws : List V} {xs : List PV} : Wk K (Its (mkS z)) .seq [.str z] ws xs := by
  intro μ ρ H st sr rp hs
  simp only [iterS, Option.some.injEq] at hs
  subst hs
  have hz : (mkS z).cps.size = z.length := by simp [mkS]
  refine ⟨fun i hi => ?_, ?_, fun i x H' hi y => ?_⟩
  · show i < (mkS z).cps.size
    rw [hz]
    simpa using hi
  · show (mkS z).cps.size ≤ _
    rw [hz]
    simp
  · obtain ⟨rfl, c, hc, rfl⟩ := y
    have hc' : z[i]? = some c := by
      have : (mkS z).cps = z.toArray := rfl
      rw [this] at hc
      simpa using hc
    exact ⟨.refl, sr, .str [c], by simp [hc'], by simp only [Rep]; rfl⟩
theorem wk_range1 {K : PySem.W.Frag} {j : Int} {ws : List V} {xs : List PV} : Wk K (Itr 0 j.toNat) .range1 [.int j] ws xs := by
  intro μ ρ H st sr rp hs
  simp only [iterS] at hs
  split at hs
  · simp only [Option.some.injEq] at hs
    subst hs
    have hl : ((List.range j.toNat).map fun (k : Nat) => PV.int k).length = j.toNat := by simp
    refine ⟨fun i hi => by rw [hl] at hi; exact hi, by rw [hl]; exact Nat.le_refl _, fun i x H' hi y => ?_⟩
    rw [hl] at hi
    obtain ⟨rfl, rfl⟩ := y
    exact ⟨.refl, sr, .int i, by simp [hi], by simp only [Rep]; simp⟩
  · cases hs
theorem wk_range2 {K : PySem.W.Frag} {i0 j : Int} {ws : List V} {xs : List PV} : Wk K (Itr i0 (j - i0).toNat) .range2 [.int i0, .int j] ws xs := by
  intro μ ρ H st sr rp hs
  simp only [iterS] at hs
  split at hs
  · simp only [Option.some.injEq] at hs
    subst hs
    have hl : ((List.range (j - i0).toNat).map fun (k : Nat) => PV.int (i0 + k)).length = (j - i0).toNat := by simp
    refine ⟨fun i hi => by rw [hl] at hi; exact hi, by rw [hl]; exact Nat.le_refl _, fun i x H' hi y => ?_⟩
    rw [hl] at hi
    obtain ⟨rfl, rfl⟩ := y
    exact ⟨.refl, sr, .int (i0 + i), by simp [hi], by simp only [Rep]⟩
  · cases hs
theorem wk_enum {K : PySem.W.Frag} {a : Addr} {ys : List PV} {xs : List PV} : Wk K (Ite K a) .enum [.lst ys] [.ref a] xs := by
  intro μ ρ H st sr rp hs
  simp only [iterS, Option.some.injEq] at hs
  subst hs
  obtain ⟨v, ev, r⟩ := rp.one
  simp only [List.cons.injEq, and_true] at ev
  subst ev
  obtain ⟨a', vs, e, q, t⟩ := r.list sr (xs := ys) (by simp only [itemsL])
  cases e
  have hl := t.length
  have hn : (ys.zipIdx.map fun (x, k) => PV.tup [.int k, x]).length = ys.length := by simp
  refine ⟨fun i hi => ?_, ?_, fun i x H' hi y => ?_⟩
  · rw [hn] at hi
    exact ⟨vs, vs[i]'(by omega), q, by simp [show i < vs.length by omega]⟩
  · rw [hn]
    exact ⟨vs, q, by omega⟩
  · rw [hn] at hi
    obtain ⟨T, x1, rfl, hT, rfl, y⟩ := y
    obtain ⟨pp, h1, h2⟩ := t.get' (y vs q)
    have k := sr.alloc (o := .tup [.int (i : Nat), x1]) hT
    refine ⟨k.2, k.1, .tup [.int i, pp], ?_, .newTup sr hT (.cons (by simp only [Rep]) (.cons h2 .nil))⟩
    simp [List.getElem?_zipIdx, h1]
theorem wk_zip {K : PySem.W.Frag} {a b : Addr} {ys zs : List PV} {xs : List PV} : Wk K (Itz K a b) .zip [.lst ys, .lst zs] [.ref a, .ref b] xs := by
  intro μ ρ H st sr rp hs
  simp only [iterS, Option.some.injEq] at hs
  subst hs
  obtain ⟨v, u, ev, r1, r2⟩ := rp.two
  simp only [List.cons.injEq, and_true] at ev
  obtain ⟨rfl, rfl⟩ := ev
  obtain ⟨a', vs, e, q, t⟩ := r1.list sr (xs := ys) (by simp only [itemsL])
  cases e
  obtain ⟨b', us, e, q2, t2⟩ := r2.list sr (xs := zs) (by simp only [itemsL])
  cases e
  have hl := t.length
  have hl2 := t2.length
  have hn : ((ys.zip zs).map fun (x, y) => PV.tup [x, y]).length = min ys.length zs.length := by simp
  refine ⟨fun i hi => ?_, ?_, fun i x H' hi y => ?_⟩
  · rw [hn] at hi
    exact ⟨vs, us, vs[i]'(by omega), us[i]'(by omega), q, q2, by simp [show i < vs.length by omega], by simp [show i < us.length by omega]⟩
  · rw [hn]
    exact ⟨vs, us, q, q2, by omega⟩
  · rw [hn] at hi
    obtain ⟨T, x1, y1, rfl, hT, rfl, y, y2⟩ := y
    obtain ⟨pp, h1, h2⟩ := t.get' (y vs q)
    obtain ⟨pq, h3, h4⟩ := t2.get' (y2 us q2)
    have k := sr.alloc (o := .tup [x1, y1]) hT
    refine ⟨k.2, k.1, .tup [pp, pq], ?_, .newTup sr hT (.cons h2 (.cons h4 .nil))⟩
    simp [List.getElem?_zip_eq_some, h1, h3]
theorem wk_rev {K : PySem.W.Frag} {a : Addr} {ys : List PV} {xs : List PV} : Wk K (Itv K a ys.length) .rev [.lst ys] [.ref a] xs := by
  intro μ ρ H st sr rp hs
  simp only [iterS, Option.some.injEq] at hs
  subst hs
  obtain ⟨v, ev, r⟩ := rp.one
  simp only [List.cons.injEq, and_true] at ev
  subst ev
  obtain ⟨a', vs, e, q, t⟩ := r.list sr (xs := ys) (by simp only [itemsL])
  cases e
  have hl := t.length
  have w := walk_rev (K := K) (a := a) (xs := vs)
  rw [← hl] at w
  refine ⟨fun i hi => w.goes i H (by simpa using hi) q, by rw [List.length_reverse]; exact w.stops H q, fun i x H' hi y => ?_⟩
  rw [List.length_reverse] at hi
  obtain ⟨e0, y'⟩ := w.yields i H x H' hi q y
  subst e0
  obtain ⟨pp, h1, h2⟩ := t.get' y'
  exact ⟨.refl, sr, pp, by rw [List.getElem?_reverse hi]; exact h1, h2⟩
end Lt

/-! Lt10: the text said again, looked at; expressions. -/
namespace Lt
open PySem PySem.Spec PyProof.Rows L2

def tupT : Expr → Bool
  | .Tuple .. => true
  | _ => false
/-- what a walk's expression walks: the parts that are reckoned -/
def iterArgs (T : Tab) (sc : Scope) (k : IK) (tg e : Expr) : Option (List Expr) :=
  let g := fun (x n : Str) => decide (x = n) && glB sc x && decide (x ∈ T.bn)
  match k with
  | .seq => if notSet e = true then some [e] else none
  | .range1 => match e with
    | .Call (.Name x _) [a] [] _ => if g x "range" = true then some [a] else none
    | _ => none
  | .range2 => match e with
    | .Call (.Name x _) [a, b] [] _ => if g x "range" = true then some [a, b] else none
    | _ => none
  | .enum => match e with
    | .Call (.Name x _) [a] [] _ => if (g x "enumerate" && tupT tg) = true then some [a] else none
    | _ => none
  | .zip => match e with
    | .Call (.Name x _) [a, b] [] _ => if (g x "zip" && tupT tg) = true then some [a, b] else none
    | _ => none
  | .rev => match e with
    | .Call (.Name x _) [a] [] _ => if g x "reversed" = true then some [a] else none
    | _ => none
/-- what a form of its own reckons -/
def spArgs (T : Tab) (sc : Scope) (s : SP) (e : Expr) : Option (List Expr) :=
  let g := fun (x n : Str) => decide (x = n) && glB sc x && decide (x ∈ T.bn)
  match s with
  | .lrange1 => match e with
    | .Call (.Name x _) [.Call (.Name y _) [a] [] _] [] _ => if (g x "list" && g y "range") = true then some [a] else none
    | _ => none
  | .lrange2 => match e with
    | .Call (.Name x _) [.Call (.Name y _) [a, b] [] _] [] _ => if (g x "list" && g y "range") = true then some [a, b] else none
    | _ => none
  | .trange1 => match e with
    | .Call (.Name x _) [.Call (.Name y _) [a] [] _] [] _ => if (g x "tuple" && g y "range") = true then some [a] else none
    | _ => none
  | .trange2 => match e with
    | .Call (.Name x _) [.Call (.Name y _) [a, b] [] _] [] _ => if (g x "tuple" && g y "range") = true then some [a, b] else none
    | _ => none
def chkC : PV → Const → Bool
  | .non, .none => true
  | .bl b, .bool c => b == c
  | .int i, .int j => decide (i = j)
  | .str s, .str x => decide (x.cps.toList = s)
  | _, _ => false
mutual
def LE.tst : LE → Bool
  | .ife .. => false
  | .and es => tsts es
  | .or es => tsts es
  | .not a => a.tst
  | _ => true
def tsts : List LE → Bool
  | [] => true
  | e :: es => e.tst && tsts es
end
def ownOf (N : List Str) (own : List Nat) : List (Str × Nat) := own.filterMap fun i => (N[i]?).map fun x => (x, i)
mutual
def chkE (T : Tab) (N : List Str) (sc : Scope) : LE → Expr → Bool
  | .var i, .Name x _ => decide (N[i]? = some x) && visB sc x && nmOk x
  | .cst v, .Constant c _ _ => chkC v c
  | .glob g, .Name x _ => decide ((T.gl[g]?).map (·.1) = some x) && glB sc x && nmOk x
  | .bin op a b, .BinOp a' op' b' _ => decide (bopOf op = op') && chkE T N sc a a' && chkE T N sc b b'
  | .neg a, .UnaryOp op a' _ => decide (op = .USub) && chkE T N sc a a'
  | .cmp op a b, .Compare a' [op'] [b'] _ => decide (copOf op = op') && notSet b' && chkE T N sc a a' && chkE T N sc b b'
  | .chn op a b op2 c, .Compare a' [op', op2'] [b', c'] _ => decide (copOf op = op') && decide (copOf op2 = op2') && notSet c' && chkE T N sc a a' && chkE T N sc b b' && chkE T N sc c c'
  | .and es, .BoolOp op es' _ => decide (op = .And) && chkEs T N sc es es'
  | .or es, .BoolOp op es' _ => decide (op = .Or) && chkEs T N sc es es'
  | .not a, .UnaryOp op a' _ => decide (op = .Not) && chkE T N sc a a'
  | .ife c a b, .IfExp c' a' b' _ => c.tst && chkE T N sc c c' && chkE T N sc a a' && chkE T N sc b b'
  | .tup es, .Tuple es' _ _ => chkEs T N sc es es'
  | .lst es, .List es' _ => chkEs T N sc es es'
  | .lstC es, .List es' _ => chkEs T N sc es es'
  | .dct kvs, .Dict ks vs _ => decide (ks.length ≤ 15) && chkPs T N sc kvs ks vs
  | .dctC kvs, .Dict ks vs _ => decide (ks.length ≤ 15) && chkPs T N sc kvs ks vs
  | .idx a i, .Subscript a' i' _ => notSlice i' && chkE T N sc a a' && chkE T N sc i i'
  | .slc a hl lo hh hi, .Subscript a' (.Slice lo' hi' none _) _ => chkE T N sc a a' &&
      (match hl, lo' with | true, some l => chkE T N sc lo l | false, none => true | _, _ => false) && (match hh, hi' with | true, some l => chkE T N sc hi l | false, none => true | _, _ => false)
  | .call f es, .Call (.Name x _) es' [] _ => decide ((T.fn[f]?).map (·.1) = some x) && glB sc x && nmOk x && chkEs T N sc es es'
  | .bi b es, .Call (.Name x _) es' [] _ => decide (x = b.nm) && glB sc x && decide (x ∈ T.bn) && !es'.isEmpty && chkEs T N sc es es'
  | .me m o es, .Call (.Attribute o' nm apos) es' [] cpos => decide (nm = m.nm) && notCall0 o' && (apos.endLine == cpos.line) && decide (es'.length < 30) && chkE T N sc o o' && chkEs T N sc es es'
  | .isi a t, .Call (.Name x _) [a', .Name y _] [] _ => decide (x = "isinstance") && glB sc x && decide (x ∈ T.bn) && decide (y = t.nmS) && glB sc y && decide (y ∈ T.bn) && notStar a' && chkE T N sc a a'
  | .sp s es, e => plainT e && (match spArgs T sc s e with | some es' => chkEs T N sc es es' | none => false)
  | .lc e tg ik its ifs own, .ListComp e' [⟨tg', it', ifs', as⟩] scope _ => decide (as = 0) && notSet it' && blkC N sc scope (ownOf N own) && decide ((ownOf N own).map (·.2) = own) && chkG N scope tg tg' && (tg.slots.all fun i => decide (i ∈ own)) &&
      (match iterArgs T sc ik tg' it' with | some es => chkEs T N sc its es | none => false) && chkEs T N (L2.relS scope sc) ifs ifs' && tsts ifs && decide (ifs.length ≤ 1) && chkE T N (L2.relS scope sc) e e'
  | _, _ => false
def chkEs (T : Tab) (N : List Str) (sc : Scope) : List LE → List Expr → Bool
  | [], [] => true
  | a :: as, e :: es => notStar e && chkE T N sc a e && chkEs T N sc as es
  | _, _ => false
def chkPs (T : Tab) (N : List Str) (sc : Scope) : List LE → List (Option Expr) → List Expr → Bool
  | [], [], [] => true
  | k :: v :: r, some k' :: ks, v' :: vs => chkE T N sc k k' && chkE T N sc v v' && chkPs T N sc r ks vs
  | _, _, _ => false
end

end Lt

/-! Lt11: readings of composed expressions. -/
namespace Lt
open PySem PySem.Spec PyProof.Rows L2
theorem Kp.set {ρ ρ' : List Addr} {H H' : Hp} {D : Addr} {o : HO} (k : Kp ρ H ρ' H') (h : H D = none) : Kp ρ H ρ' (upd H' D o) :=
  ⟨k.pre, k.new, fun b u n e => by
    rw [upd_ne (ne_of_none e h)]
    exact k.keep b u n e⟩
theorem upd_self {H : Hp} {D : Addr} {o : HO} (h : H D = some o) : upd H D o = H := by
  funext b
  unfold upd
  split
  · rename_i e
    rw [e, h]
  · rfl
theorem kp_both {ρ ρ' : List Addr} {H H' : Hp} {D : Addr} {o o' : HO} (k : Kp ρ H ρ' H') (h : H D = none) (n : D ∉ ρ') : Kp ρ (upd H D o) ρ' (upd H' D o) :=
  ⟨k.pre, fun b hb nb => by
    rw [upd_ne (show b ≠ D from fun z => n (by rw [← z]; exact hb))]
    exact k.new b hb nb, fun b u nb e => by
    by_cases z : b = D
    · rw [z, upd_same] at e ⊢
      exact e
    · rw [upd_ne z] at e ⊢
      exact k.keep b u nb e⟩
section
variable {W : Ws} {ρ ρ' : List Addr} {H H' : Hp} {D : Addr} {o : HO}
theorem Reps.over {ps : List PV} {vs : List V} (r : Reps W ρ H ps vs) (k : Kp ρ H ρ' H') (h : H D = none) (n : D ∉ ρ') (e : H' D = some o) : Reps (W.off D) ρ' H' ps vs := by
  have r1 := (Reps.more (o := .lst []) h r).mono (kp_both (o' := .lst []) k h n)
  have r2 := r1.poke (o := o)
  rw [upd_upd, upd_self e] at r2
  exact r2
theorem ER.over {env : Env} {σ : L2.St} (r : ER W ρ H env σ) (k : Kp ρ H ρ' H') (h : H D = none) (n : D ∉ ρ') (e : H' D = some o) : ER (W.off D) ρ' H' env σ := by
  have r1 := (ER.more (o := .lst []) h r).mono (kp_both (o' := .lst []) k h n)
  have r2 := r1.poke (o := o)
  rw [upd_upd, upd_self e] at r2
  exact r2
theorem wipeE_len (env : Env) : ∀ own : List Nat, (wipeE env own).length = env.length
  | [] => rfl
  | v :: vs => by unfold wipeE; rw [List.length_set, wipeE_len env vs]
theorem ER.wipe {env : Env} {σ : L2.St} (r : ER W ρ H env σ) : ∀ own : List Nat, ER W ρ H (wipeE env own) (L2.wipe σ own)
  | [] => r
  | v :: vs => by
    have ih := ER.wipe r vs
    refine ⟨by unfold wipeE L2.wipe; rw [List.length_set, List.length_set]; exact ih.1, fun j p e => ?_⟩
    unfold wipeE at e
    by_cases hj : j = v
    · subst hj
      by_cases hl : j < (wipeE env vs).length
      · rw [List.getElem?_set_self hl] at e
        cases e
      · rw [List.getElem?_eq_none (by simpa using hl)] at e
        cases e
    · rw [List.getElem?_set_ne (Ne.symm hj)] at e
      obtain ⟨w, e1, q⟩ := ih.2 j p e
      refine ⟨w, ?_, q⟩
      unfold L2.wipe
      rw [List.getElem?_set_ne (Ne.symm hj)]
      exact e1
end
theorem wipe_get_in {σ : L2.St} {j : Nat} : ∀ {own : List Nat}, j ∈ own → j < σ.length → (L2.wipe σ own)[j]? = some none
  | [], h, _ => by simp at h
  | v :: vs, h, hl => by
    unfold L2.wipe
    by_cases hj : v = j
    · subst hj
      rw [List.getElem?_set_self (by rw [wipe_length]; exact hl)]
    · rw [List.getElem?_set_ne hj]
      exact wipe_get_in ((List.mem_cons.mp h).resolve_left fun z => hj z.symm) hl
theorem wipe_same {σ σ' : L2.St} {own : List Nat} (hl : σ'.length = σ.length) (h : ∀ j, j ∉ own → σ'[j]? = σ[j]?) : L2.wipe σ' own = L2.wipe σ own := by
  apply List.ext_getElem?
  intro j
  by_cases hj : j ∈ own
  · by_cases hb : j < σ.length
    · rw [wipe_get_in hj hb, wipe_get_in hj (by rw [hl]; exact hb)]
    · rw [List.getElem?_eq_none (by rw [wipe_length]; omega), List.getElem?_eq_none (by rw [wipe_length]; omega)]
  · rw [wipe_out hj, wipe_out hj, h j hj]
theorem still_some {k : IK} {vs xs : List PV} {st st' : Store} {u : Unit} : still k vs xs st = some (u, st') ↔ iterS k vs st = some xs ∧ st = st' := by
  unfold still
  exact grd_some
theorem iterM_some {k : IK} {vs xs : List PV} {st st' : Store} : iterM k vs st = some (xs, st') ↔ iterS k vs st = some xs ∧ st = st' := by
  unfold iterM
  cases iterS k vs st <;> simp

section
variable {K : PySem.W.Frag} {σ : L2.St} {H : Hp} {Q : VK}
theorem bin_read {ma mb : Env → M PV} {f : PV → PV → M PV} (h : tE K (fun env => bd (ma env) fun x => bd (mb env) fun y => f x y) σ H Q) : tOp (rO K f) (tE K ma) (tE K mb) σ H Q := by
  obtain ⟨μ, ρ, st, env, p, st', er, sr, hf, post⟩ := h
  simp only [bd_some] at hf
  obtain ⟨x, st1, h1, y, st2, h2, h3⟩ := hf
  exact ⟨μ, ρ, st, env, x, st1, er, sr, h1, fun ρ1 H1 w1 k1 s1 r1 => ⟨μ, ρ1, st1, env, y, st2, er.mono k1, s1, h2, fun ρ2 H2 w2 k2 s2 r2 =>
    ⟨μ, ρ2, st2, x, y, p, st', r1.mono k2, r2, s2, h3, post.mono (k1.trans k2)⟩⟩⟩
theorem un_read {ma : Env → M PV} {f : PV → M PV} {r : V → Hp → VK → Prop} (h : tE K (fun env => bd (ma env) fun x => f x) σ H Q)
    (hr : ∀ μ ρ st x H1 p p' st', Rep ⟨K, μ⟩ ρ H1 p x → SR ⟨K, μ⟩ ρ H1 st → f p st = some (p', st') → Post ⟨K, μ⟩ ρ H1 p' st' Q → r x H1 Q) : tUn r (tE K ma) σ H Q := by
  obtain ⟨μ, ρ, st, env, p, st', er, sr, hf, post⟩ := h
  simp only [bd_some] at hf
  obtain ⟨x, st1, h1, h2⟩ := hf
  exact ⟨μ, ρ, st, env, x, st1, er, sr, h1, fun ρ1 H1 w1 k1 s1 r1 => hr μ ρ1 st1 w1 H1 x p st' r1 s1 h2 (post.mono k1)⟩
theorem chn_read {ma mb mc : Env → M PV} {op op' : COp} (h : tE K (fun env => bd (ma env) fun x => bd (mb env) fun y => bd (cop op x y) fun k => if k = true then bd (mc env) fun z => bd (cop op' y z) fun k' => pr (.bl k') else pr (.bl false)) σ H Q) :
    tChain (rO K (copV op)) (rO K (copV op')) (tE K ma) (tE K mb) (tE K mc) σ H Q := by
  obtain ⟨μ, ρ, st, env, p, st', er, sr, hf, post⟩ := h
  simp only [bd_some] at hf
  obtain ⟨x, st1, h1, y, st2, h2, k, st3, h3, h4⟩ := hf
  refine ⟨μ, ρ, st, env, x, st1, er, sr, h1, fun ρ1 H1 w1 k1 s1 r1 => ⟨μ, ρ1, st1, env, y, st2, er.mono k1, s1, h2, fun ρ2 H2 w2 k2 s2 r2 => ?_⟩⟩
  refine ⟨μ, ρ2, st2, x, y, .bl k, st3, r1.mono k2, r2, s2, copV_some.mpr ⟨k, h3, rfl⟩, fun ρ3 H3 w3 k3 s3 r3 => ?_⟩
  simp only [Rep] at r3
  subst r3
  refine ⟨k, rfl, ?_⟩
  have k123 := (k1.trans k2).trans k3
  cases k with
  | false =>
    rw [if_neg Bool.false_ne_true] at h4 ⊢
    obtain ⟨rfl, rfl⟩ := pr_some.mp h4
    exact post ρ3 H3 _ k123 s3 (by simp only [Rep])
  | true =>
    rw [if_pos rfl] at h4 ⊢
    simp only [bd_some, pr_some] at h4
    obtain ⟨z, st4, h5, k', st5, h6, rfl, rfl⟩ := h4
    refine ⟨μ, ρ3, st3, env, z, st4, er.mono k123, s3, h5, fun ρ4 H4 w4 k4 s4 r4 => ?_⟩
    exact ⟨μ, ρ4, st4, y, z, .bl k', st5, r2.mono (k3.trans k4), r4, s4, copV_some.mpr ⟨k', h6, rfl⟩, post.mono (k123.trans k4)⟩
theorem not_read {ma : Env → M PV} (h : tE K (fun env => bd (ma env) fun x => bd (truthM x) fun k => pr (.bl (!k))) σ H Q) : tNotT K (tE K ma) σ H Q := by
  obtain ⟨μ, ρ, st, env, p, st', er, sr, hf, post⟩ := h
  simp only [bd_some, pr_some] at hf
  obtain ⟨x, st1, h1, k, st2, h2, rfl, rfl⟩ := hf
  refine ⟨μ, ρ, st, env, x, st1, er, sr, h1, fun ρ1 H1 w1 k1 s1 r1 => ?_⟩
  obtain ⟨rfl, ht⟩ := tru_of s1 r1 h2
  exact ⟨k, ht, post ρ1 H1 _ k1 s1 (by simp only [Rep])⟩
theorem and_read {ma mb : Env → M PV} (h : tE K (fun env => bd (ma env) fun x => bd (truthM x) fun k => if k = true then mb env else pr x) σ H Q) : tAndT K (tE K ma) (tE K mb) σ H Q := by
  obtain ⟨μ, ρ, st, env, p, st', er, sr, hf, post⟩ := h
  simp only [bd_some] at hf
  obtain ⟨x, st1, h1, k, st2, h2, h3⟩ := hf
  refine ⟨μ, ρ, st, env, x, st1, er, sr, h1, fun ρ1 H1 w1 k1 s1 r1 => ?_⟩
  obtain ⟨rfl, ht⟩ := tru_of s1 r1 h2
  refine ⟨k, ht, ?_⟩
  cases k with
  | true =>
    rw [if_pos rfl] at h3 ⊢
    exact ⟨μ, ρ1, st1, env, p, st', er.mono k1, s1, h3, post.mono k1⟩
  | false =>
    rw [if_neg Bool.false_ne_true] at h3 ⊢
    obtain ⟨rfl, rfl⟩ := pr_some.mp h3
    exact post ρ1 H1 _ k1 s1 r1
theorem or_read {ma mb : Env → M PV} (h : tE K (fun env => bd (ma env) fun x => bd (truthM x) fun k => if k = true then pr x else mb env) σ H Q) : tOrT K (tE K ma) (tE K mb) σ H Q := by
  obtain ⟨μ, ρ, st, env, p, st', er, sr, hf, post⟩ := h
  simp only [bd_some] at hf
  obtain ⟨x, st1, h1, k, st2, h2, h3⟩ := hf
  refine ⟨μ, ρ, st, env, x, st1, er, sr, h1, fun ρ1 H1 w1 k1 s1 r1 => ?_⟩
  obtain ⟨rfl, ht⟩ := tru_of s1 r1 h2
  refine ⟨k, ht, ?_⟩
  cases k with
  | false =>
    rw [if_neg Bool.false_ne_true] at h3 ⊢
    exact ⟨μ, ρ1, st1, env, p, st', er.mono k1, s1, h3, post.mono k1⟩
  | true =>
    rw [if_pos rfl] at h3 ⊢
    obtain ⟨rfl, rfl⟩ := pr_some.mp h3
    exact post ρ1 H1 _ k1 s1 r1
theorem ife_read {mc : Env → M Bool} {ma mb : Env → M PV} (h : tE K (fun env => bd (mc env) fun k => if k = true then ma env else mb env) σ H Q) : tIf (tT K mc) (tE K ma) (tE K mb) σ H Q := by
  obtain ⟨μ, ρ, st, env, p, st', er, sr, hf, post⟩ := h
  simp only [bd_some] at hf
  obtain ⟨k, st1, h1, h3⟩ := hf
  refine ⟨μ, ρ, st, env, k, st1, er, sr, h1, fun ρ1 H1 k1 s1 => ?_⟩
  cases k with
  | true =>
    rw [if_pos rfl] at h3 ⊢
    exact ⟨μ, ρ1, st1, env, p, st', er.mono k1, s1, h3, post.mono k1⟩
  | false =>
    rw [if_neg Bool.false_ne_true] at h3 ⊢
    exact ⟨μ, ρ1, st1, env, p, st', er.mono k1, s1, h3, post.mono k1⟩
/-- truth of a value, as a test -/
theorem tru_read {ma : Env → M PV} {Q : Bool → Hp → Prop} (h : tT K (fun env => bd (ma env) truthM) σ H Q) : tE K ma σ H (fun x H' => ∃ k, TruV K x H' k ∧ Q k H') := by
  obtain ⟨μ, ρ, st, env, b, st', er, sr, hf, post⟩ := h
  simp only [bd_some] at hf
  obtain ⟨x, st1, h1, h3⟩ := hf
  refine ⟨μ, ρ, st, env, x, st1, er, sr, h1, fun ρ1 H1 w1 k1 s1 r1 => ?_⟩
  obtain ⟨rfl, ht⟩ := tru_of s1 r1 h3
  exact ⟨b, ht, post ρ1 H1 k1 s1⟩
theorem cons_read {ma : Env → M PV} {mb : Env → M (List PV)} {Q : List V → Hp → Prop} (h : tA K (fun env => bd (ma env) fun x => bd (mb env) fun xs => pr (x :: xs)) σ H Q) : tCons (tE K ma) (tA K mb) σ H Q := by
  obtain ⟨μ, ρ, st, env, p, st', er, sr, hf, post⟩ := h
  simp only [bd_some, pr_some] at hf
  obtain ⟨x, st1, h1, xs, st2, h2, rfl, rfl⟩ := hf
  exact ⟨μ, ρ, st, env, x, st1, er, sr, h1, fun ρ1 H1 w1 k1 s1 r1 => ⟨μ, ρ1, st1, env, xs, st2, er.mono k1, s1, h2, fun ρ2 H2 ws k2 s2 r2 =>
    post ρ2 H2 _ (k1.trans k2) s2 (.cons (r1.mono k2) r2)⟩⟩
theorem tup_read {m : Env → M (List PV)} (h : tE K (fun env => bd (m env) fun xs => bd (grd (xs.length ≤ SL)) fun _ => pr (.tup xs)) σ H Q) : tTup (tA K m) σ H Q := by
  obtain ⟨μ, ρ, st, env, p, st', er, sr, hf, post⟩ := h
  simp only [bd_some, grd_some, pr_some] at hf
  obtain ⟨xs, st1, h1, _, _, ⟨h2, rfl⟩, rfl, rfl⟩ := hf
  refine ⟨μ, ρ, st, env, xs, st1, er, sr, h1, fun ρ1 H1 ws k1 s1 r1 => ⟨by rw [← r1.length, ← SL_eq]; exact h2, fun a ha => (post.mono k1).newTup s1 ha r1⟩⟩
theorem lst_read {m : Env → M (List PV)} (h : tE K (fun env => bd (m env) fun xs => bd (grd (xs.length ≤ SL)) fun _ => pr (.lst xs)) σ H Q) : tLst (tA K m) σ H Q := by
  obtain ⟨μ, ρ, st, env, p, st', er, sr, hf, post⟩ := h
  simp only [bd_some, grd_some, pr_some] at hf
  obtain ⟨xs, st1, h1, _, _, ⟨h2, rfl⟩, rfl, rfl⟩ := hf
  refine ⟨μ, ρ, st, env, xs, st1, er, sr, h1, fun ρ1 H1 ws k1 s1 r1 => ⟨by rw [← r1.length, ← SL_eq]; exact h2, fun a ha => (post.mono k1).newLst s1 ha r1⟩⟩
theorem lstC_read {m : Env → M (List PV)} (h : tE K (fun env => bd (m env) fun xs => bd (grd (xs.length ≤ SL)) fun _ => newCell (.lst xs)) σ H Q) : tLst (tA K m) σ H Q := by
  obtain ⟨μ, ρ, st, env, p, st', er, sr, hf, post⟩ := h
  simp only [bd_some, grd_some, pr_some, newCell, Option.some.injEq, Prod.mk.injEq] at hf
  obtain ⟨xs, st1, h1, _, _, ⟨h2, rfl⟩, rfl, rfl⟩ := hf
  refine ⟨μ, ρ, st, env, xs, st1, er, sr, h1, fun ρ1 H1 ws k1 s1 r1 => ⟨by rw [← r1.length, ← SL_eq]; exact h2, fun a ha => ?_⟩⟩
  have q := s1.push (o := .lst ws) (c := .lst xs) ha ⟨ws, rfl, r1⟩
  refine post _ _ _ (k1.trans q.2) q.1 ?_
  simp only [Rep]
  refine ⟨a, ?_, rfl⟩
  rw [← s1.len]
  simp
theorem idx_read {ma mb : Env → M PV} (h : tE K (fun env => bd (ma env) fun x => bd (mb env) fun y => idxM x y) σ H Q) : tOp (rO K idxM) (tE K ma) (tE K mb) σ H Q := bin_read h
theorem call_read {m : Env → M (List PV)} {n : Nat} {g : List PV → M PV} (hn : ∀ ps st r, g ps st = some r → ps.length = n) (h : tE K (fun env => bd (m env) fun xs => g xs) σ H Q) : tCall (spF K n g) [] E0 (tA K m) σ H Q := by
  obtain ⟨μ, ρ, st, env, p, st', er, sr, hf, post⟩ := h
  simp only [bd_some] at hf
  obtain ⟨xs, st1, h1, h2⟩ := hf
  refine ⟨μ, ρ, st, env, xs, st1, er, sr, h1, fun ρ1 H1 ws k1 s1 r1 => ?_⟩
  show spF K n g (ws ++ []) H1 Q E0
  rw [List.append_nil]
  exact ⟨by rw [← r1.length]; exact hn _ _ _ h2, μ, ρ1, st1, xs, p, st', r1, s1, h2, post.mono k1⟩
theorem bi_read {m : Env → M (List PV)} {b : BI} (h : tE K (fun env => bd (m env) fun xs => bi b xs) σ H Q) : tCB (rB K b) (tA K m) σ H Q := by
  obtain ⟨μ, ρ, st, env, p, st', er, sr, hf, post⟩ := h
  simp only [bd_some] at hf
  obtain ⟨xs, st1, h1, h2⟩ := hf
  exact ⟨μ, ρ, st, env, xs, st1, er, sr, h1, fun ρ1 H1 ws k1 s1 r1 => ⟨μ, ρ1, st1, xs, p, st', r1, s1, h2, post.mono k1⟩⟩
theorem me_read {mo : Env → M PV} {m : Env → M (List PV)} {b : ME} (h : tE K (fun env => bd (mo env) fun x => bd (recv b x) fun _ => bd (m env) fun xs => me b x xs) σ H Q) : tBM K b.ty (rM K b) (tE K mo) (tA K m) σ H Q := by
  obtain ⟨μ, ρ, st, env, p, st', er, sr, hf, post⟩ := h
  simp only [bd_some] at hf
  obtain ⟨x, st1, h1, _, st1', h0, xs, st2, h2, h3⟩ := hf
  refine ⟨μ, ρ, st, env, x, st1, er, sr, h1, fun ρ1 H1 w1 k1 s1 r1 => ?_⟩
  obtain ⟨rfl, ty⟩ := me_ty s1 r1 h0
  exact ⟨ty, μ, ρ1, st1, env, xs, st2, er.mono k1, s1, h2, fun ρ2 H2 ws k2 s2 r2 =>
    ⟨μ, ρ2, st2, x, xs, p, st', r1.mono k2, r2, s2, h3, post.mono (k1.trans k2)⟩⟩
theorem me0_read {mo : Env → M PV} {b : ME} (h : tE K (fun env => bd (mo env) fun x => bd (recv b x) fun _ => bd (pr []) fun xs => me b x xs) σ H Q) : tBM0 K b.ty (rM K b) (tE K mo) σ H Q := by
  obtain ⟨μ, ρ, st, env, p, st', er, sr, hf, post⟩ := h
  simp only [bd_some, pr_some] at hf
  obtain ⟨x, st1, h1, _, st1', h0, xs, st2, ⟨rfl, rfl⟩, h3⟩ := hf
  refine ⟨μ, ρ, st, env, x, st1, er, sr, h1, fun ρ1 H1 w1 k1 s1 r1 => ?_⟩
  obtain ⟨rfl, ty⟩ := me_ty s1 r1 h0
  exact ⟨ty, μ, ρ1, st1, x, [], p, st', r1, .nil, s1, h3, post.mono k1⟩
theorem isi_read {m : Env → M PV} {t : Ty} (h : tE K (fun env => bd (m env) fun x => isiM t x) σ H Q) : tCB (rIsiP K t) (tCons (tE K m) (tCons (tC (.ty t.nm)) tNil)) σ H Q := by
  obtain ⟨μ, ρ, st, env, p, st', er, sr, hf, post⟩ := h
  simp only [bd_some] at hf
  obtain ⟨x, st1, h1, h3⟩ := hf
  exact ⟨μ, ρ, st, env, x, st1, er, sr, h1, fun ρ1 H1 w1 k1 s1 r1 => ⟨μ, ρ1, st1, x, p, st', w1, rfl, r1, s1, h3, post.mono k1⟩⟩
/-- slices -/
theorem slc_read {ma : Env → M PV} {ml mh : Env → M (Option Int)} {tl th : TO}
    (hl : ∀ {σ H} {R : Option Int → Hp → Prop}, (∃ μ ρ st env l st', ER ⟨K, μ⟩ ρ H env σ ∧ SR ⟨K, μ⟩ ρ H st ∧ ml env st = some (l, st') ∧ ∀ ρ' H', Kp ρ H ρ' H' → SR ⟨K, μ⟩ ρ' H' st' → R l H') → tl σ H R)
    (hh : ∀ {σ H} {R : Option Int → Hp → Prop}, (∃ μ ρ st env l st', ER ⟨K, μ⟩ ρ H env σ ∧ SR ⟨K, μ⟩ ρ H st ∧ mh env st = some (l, st') ∧ ∀ ρ' H', Kp ρ H ρ' H' → SR ⟨K, μ⟩ ρ' H' st' → R l H') → th σ H R)
    (h : tE K (fun env => bd (ma env) fun x => bd (ml env) fun l => bd (mh env) fun u => slcM x l u) σ H Q) : tSl (rSl K) (tE K ma) tl th σ H Q := by
  obtain ⟨μ, ρ, st, env, p, st', er, sr, hf, post⟩ := h
  simp only [bd_some] at hf
  obtain ⟨x, st1, h1, l, st2, h2, u, st3, h3, h4⟩ := hf
  exact ⟨μ, ρ, st, env, x, st1, er, sr, h1, fun ρ1 H1 w1 k1 s1 r1 => hl ⟨μ, ρ1, st1, env, l, st2, er.mono k1, s1, h2, fun ρ2 H2 k2 s2 =>
    hh ⟨μ, ρ2, st2, env, u, st3, er.mono (k1.trans k2), s2, h3, fun ρ3 H3 k3 s3 => ⟨μ, ρ3, st3, x, p, st', r1.mono (k2.trans k3), s3, h4, post.mono ((k1.trans k2).trans k3)⟩⟩⟩⟩
theorem some_read {σ : L2.St} {H : Hp} {m : Env → M PV} {R : Option Int → Hp → Prop} (h : ∃ μ ρ st env l st', ER ⟨K, μ⟩ ρ H env σ ∧ SR ⟨K, μ⟩ ρ H st ∧ bd (m env) optI st = some (l, st') ∧ ∀ ρ' H', Kp ρ H ρ' H' → SR ⟨K, μ⟩ ρ' H' st' → R l H') : tPart (tE K m) σ H R := by
  obtain ⟨μ, ρ, st, env, l, st', er, sr, hf, q⟩ := h
  simp only [bd_some] at hf
  obtain ⟨x, st1, h1, h2⟩ := hf
  cases x <;> simp only [optI, no_some, pr_some] at h2
  case int i =>
    obtain ⟨rfl, rfl⟩ := h2
    refine ⟨μ, ρ, st, env, .int i, st1, er, sr, h1, fun ρ1 H1 w1 k1 s1 r1 => ?_⟩
    simp only [Rep] at r1
    subst r1
    exact ⟨i, rfl, q ρ1 H1 k1 s1⟩
theorem none_read {σ : L2.St} {H : Hp} {R : Option Int → Hp → Prop} (h : ∃ μ ρ st env l st', ER ⟨K, μ⟩ ρ H env σ ∧ SR ⟨K, μ⟩ ρ H st ∧ (pr none : M (Option Int)) st = some (l, st') ∧ ∀ ρ' H', Kp ρ H ρ' H' → SR ⟨K, μ⟩ ρ' H' st' → R l H') (env0 : Env → Env := id) : tNoPart σ H R := by
  obtain ⟨μ, ρ, st, env, l, st', er, sr, hf, q⟩ := h
  obtain ⟨rfl, rfl⟩ := pr_some.mp hf
  exact q ρ H .refl sr
end
/-! ### comprehensions -/
section
variable {K : PySem.W.Frag} {R : Rg} {σ : L2.St} {H : Hp} {Q : VK}
theorem lc_read {e : LE} {tg : LG} {ik : IK} {its ifs : List LE} {own : List Nat} (hs : ∀ i ∈ tg.slots, i ∈ own) (h : tE K (ev R (.lc e tg ik its ifs own)) σ H Q) :
    tLc (tI K ik (evs R its)) (tG K tg) (tT K (evIfs R ifs)) (tE K (ev R e)) own σ H Q := by
  obtain ⟨μ, ρ, st, env, p, st', er, sr, hf, post⟩ := h
  simp only [ev, bd_some, iterM_some, pr_some] at hf
  obtain ⟨vs, st1, h1, xs, _, ⟨h2, rfl⟩, acc, st2, h3, rfl, rfl⟩ := hf
  refine ⟨μ, ρ, st, env, vs, st1, xs, er, sr, h1, h2, fun ρ1 H1 ws J k1 s1 rws wk => ?_⟩
  intro D hD
  obtain ⟨nD1, nD2⟩ := s1.off_of hD
  let Iv : Nat → Hp → Prop := fun i H' => ∃ ρ' st' acc' accV, Kp ρ1 H1 ρ' H' ∧ H' D = some (.lst accV) ∧ SR ((Ws.mk K μ).off D) ρ' H' st' ∧ Reps ((Ws.mk K μ).off D) ρ' H' acc' accV ∧
    lcL (still ik vs xs) tg (fun en => evIfs R ifs en) (fun en => ev R e en) (wipeE env own) (xs.drop i) acc' st' = some (acc, st2)
  refine ⟨fun i m H' => m = xs.length - i ∧ i ≤ xs.length ∧ Iv i H', ⟨xs.length, by simp, Nat.zero_le _, ρ1, st1, [], [], (s1.alloc hD).2, upd_same, s1.more hD, .nil, h3⟩, ?_⟩
  rintro i m H' ⟨rfl, hi, ρ', st', acc', accV, k', hD', s', r', hl⟩
  have nD : D ∉ ρ' := fun z => s'.off D z List.mem_cons_self
  have rws' : Reps ((Ws.mk K μ).off D) ρ' H' vs ws := rws.over k' hD nD hD'
  cases hx : xs.drop i with
  | nil =>
    have ei : i = xs.length := by
      have := congrArg List.length hx
      simp at this
      omega
    subst ei
    rw [hx] at hl
    simp only [lcL, bd_some, still_some, pr_some] at hl
    obtain ⟨_, _, ⟨h4, rfl⟩, rfl, rfl⟩ := hl
    obtain ⟨_, hstop, _⟩ := wk _ ρ' H' _ s' rws' h4
    refine .inl ⟨hstop, ?_⟩
    refine post ρ' H' _ (k1.trans k') s'.less ?_
    simp only [Rep]
    exact ⟨D, accV, rfl, .inl ⟨.inl hD', nD, nD2⟩, r'.less⟩
  | cons x rest =>
    have ei : i < xs.length := by
      have := congrArg List.length hx
      simp at this
      omega
    have hxi : xs[i]? = some x := by
      have h0 := congrArg (fun l => l[0]?) hx
      simpa [List.getElem?_drop] using h0
    have hr : xs.drop (i + 1) = rest := by
      have h0 := congrArg (List.drop 1) hx
      simpa [List.drop_drop] using h0
    rw [hx] at hl
    simp only [lcL, bd_some, still_some, ofO_some] at hl
    obtain ⟨_, _, ⟨h4, rfl⟩, env', _, ⟨h5, rfl⟩, b, st3, h6, h7⟩ := hl
    obtain ⟨hgo, _, hyld⟩ := wk _ ρ' H' _ s' rws' h4
    refine .inr ⟨hgo i ei, Iv (i + 1), fun H2 hN => ⟨xs.length - (i + 1), by omega, rfl, ei, hN⟩, fun x' H2 hy => ?_⟩
    obtain ⟨k2, s2, p, hp, rp⟩ := hyld i x' H2 ei hy
    rw [hxi] at hp
    cases hp
    have hD2 : H2 D = some (.lst accV) := k2.keep _ _ nD hD'
    have er0 : ER ((Ws.mk K μ).off D) ρ' H2 (wipeE env own) (L2.wipe σ own) := ((er.mono k1).over (k'.trans k2) hD nD hD2).wipe own
    refine ⟨D :: μ, ρ', wipeE env own, x, env', er0, rp, h5, fun σ' er' hl' ho => ⟨?_, ?_⟩⟩
    · have e1 : L2.wipe σ' own = L2.wipe (L2.wipe σ own) own := wipe_same hl' fun j hj => ho j fun z => hj (hs j z)
      rw [e1]
      exact wipe_same (wipe_length σ own) fun j hj => wipe_out hj
    · refine ⟨D :: μ, ρ', st', env', b, st3, er', s2, h6, fun ρ3 H3 k3 s3 => ?_⟩
      have hD3 : H3 D = some (.lst accV) := k3.keep _ _ nD hD2
      have k123 := (k'.trans k2).trans k3
      cases b with
      | false =>
        rw [if_neg Bool.false_ne_true] at h7
        exact iteF ⟨ρ3, st3, acc', accV, k123, hD3, s3, (r'.mono k2).mono k3, by rw [hr]; exact h7⟩
      | true =>
        rw [if_pos rfl] at h7
        refine iteT ?_
        simp only [bd_some, grd_some] at h7
        obtain ⟨y, st4, h8, _, _, ⟨h9, rfl⟩, h10⟩ := h7
        have nD3 : D ∉ ρ3 := fun z => s3.off D z List.mem_cons_self
        refine ⟨D :: μ, ρ3, st3, env', y, st4, er'.mono k3, s3, h8, fun ρ4 H4 w k4 s4 rw' => ?_⟩
        have hD4 : H4 D = some (.lst accV) := k4.keep _ _ nD3 hD3
        have r4 := ((r'.mono k2).mono k3).mono k4
        refine ⟨accV, hD4, by rw [← r4.length, ← SL_eq]; exact h9, ρ4, st4, acc' ++ [y], accV ++ [w], (k123.trans k4).set hD, upd_same, s4.poke, (r4.append (.cons rw' .nil)).poke, ?_⟩
        rw [hr]
        exact h10
end
end Lt

/-! Lt12: walks' heads, dicts told. -/
namespace Lt
open PySem PySem.Spec PyProof.Rows L2
section
variable {T : Tab} {fu k : Nat} {N : List Str} {sc lsc : Scope} {X : Cx}
theorem lx_bi (L : LX T fu k N sc lsc X) {x n : Str} (h : (decide (x = n) && glB sc x && decide (x ∈ T.bn)) = true) : x = n ∧ Gl X n ∧ X.mg n = none := by
  simp only [Bool.and_eq_true, decide_eq_true_eq] at h
  obtain ⟨⟨rfl, h2⟩, h3⟩ := h
  exact ⟨rfl, by show X.env.scope.names.lookup x = _; rw [L.hsc]; exact glB_of h2, L.bis _ h3⟩
theorem pi_seq {R : Rg} {le : LE} {tg e : Expr} (hE : PE X e (tE X.K (ev R le))) : PI X tg e (tI X.K .seq (evs R [le])) := by
  refine PI_imp (PI_or (PI_or (pi_list hE) (pi_tup hE)) (pi_str hE)) fun σ H Rr ⟨μ, ρ, st, env, vs, st1, xs, er, sr, hm, hi, q⟩ => ?_
  simp only [evs, bd_some, pr_some] at hm
  obtain ⟨x, st2, h1, _, _, ⟨rfl, rfl⟩, rfl, rfl⟩ := hm
  have lst : (∀ st, iterS .seq [x] st = itemsL x st) → iList X.K (tE X.K (ev R le)) σ H Rr := fun he =>
    ⟨μ, ρ, st, env, x, _, er, sr, h1, fun ρ1 H1 w k1 s1 r1 => by
      obtain ⟨a, ws, rfl, hq, t⟩ := r1.list s1 (by rw [← he]; exact hi)
      exact ⟨a, rfl, ⟨ws, hq⟩, q ρ1 H1 [.ref a] _ k1 s1 (.cons r1 .nil) (wk_list he)⟩⟩
  cases x with
  | tup ys =>
    refine .inl (.inr ⟨μ, ρ, st, env, .tup ys, _, er, sr, h1, fun ρ1 H1 w k1 s1 r1 => ?_⟩)
    obtain ⟨a, ws, rfl, hq, t⟩ := r1.tuple
    exact ⟨a, rfl, ⟨ws, hq⟩, q ρ1 H1 [.ref a] _ k1 s1 (.cons r1 .nil) wk_tup⟩
  | str z =>
    refine .inr ⟨μ, ρ, st, env, .str z, _, er, sr, h1, fun ρ1 H1 w k1 s1 r1 => ?_⟩
    have r0 := r1
    simp only [Rep] at r0
    subst r0
    exact ⟨mkS z, rfl, q ρ1 H1 _ _ k1 s1 (.cons r1 .nil) wk_str⟩
  | lst ys => exact .inl (.inl (lst fun _ => rfl))
  | cell c => exact .inl (.inl (lst fun _ => rfl))
  | non => simp [iterS, itemsL] at hi
  | bl b => simp [iterS, itemsL] at hi
  | int i => simp [iterS, itemsL] at hi
  | dct ks ps => simp [iterS, itemsL] at hi
theorem one_of {α : Type} {f : α → List V → Prop} {p : PV} {W : Ws} {ρ : List Addr} {H : Hp} {ws : List V} (h : Reps W ρ H [p] ws) : ∃ v, ws = [v] ∧ Rep W ρ H p v := by
  simp only [Reps] at h
  obtain ⟨v, r, rfl, h1, rfl⟩ := h
  exact ⟨v, rfl, h1⟩
theorem two_of {p p' : PV} {W : Ws} {ρ : List Addr} {H : Hp} {ws : List V} (h : Reps W ρ H [p, p'] ws) : ∃ v w, ws = [v, w] ∧ Rep W ρ H p v ∧ Rep W ρ H p' w := by
  simp only [Reps] at h
  obtain ⟨v, r, rfl, h1, w, r', rfl, h2, rfl⟩ := h
  exact ⟨v, w, rfl, h1, h2⟩
theorem range1_inv {vs xs : List PV} {st : Store} (h : iterS .range1 vs st = some xs) : ∃ j : Int, vs = [.int j] ∧ -(2 ^ 62) ≤ j ∧ j < 2 ^ 62 := by
  unfold iterS at h
  split at h <;> first | (cases h; done) | skip
  all_goals rename_i he <;> first | (cases he; done) | skip
  split at h
  · rename_i hb
    exact ⟨_, rfl, hb⟩
  · cases h
theorem range2_inv {vs xs : List PV} {st : Store} (h : iterS .range2 vs st = some xs) : ∃ i j : Int, vs = [.int i, .int j] ∧ -(2 ^ 62) ≤ i ∧ i < 2 ^ 62 ∧ -(2 ^ 62) ≤ j ∧ j < 2 ^ 62 := by
  unfold iterS at h
  split at h <;> first | (cases h; done) | skip
  all_goals rename_i he <;> first | (cases he; done) | skip
  split at h
  · rename_i hb
    exact ⟨_, _, rfl, hb⟩
  · cases h
theorem enum_inv {vs xs : List PV} {st : Store} (h : iterS .enum vs st = some xs) : ∃ ys, vs = [.lst ys] := by
  unfold iterS at h
  split at h <;> first | (cases h; done) | skip
  all_goals rename_i he <;> first | (cases he; done) | skip
  split at h
  · exact ⟨_, rfl⟩
  · cases h
theorem zip_inv {vs xs : List PV} {st : Store} (h : iterS .zip vs st = some xs) : ∃ ys zs, vs = [.lst ys, .lst zs] := by
  unfold iterS at h
  split at h <;> first | (cases h; done) | skip
  all_goals rename_i he <;> first | (cases he; done) | skip
  exact ⟨_, _, rfl⟩
theorem rev_inv {vs xs : List PV} {st : Store} (h : iterS .rev vs st = some xs) : ∃ ys, vs = [.lst ys] := by
  unfold iterS at h
  split at h <;> first | (cases h; done) | skip
  all_goals rename_i he <;> first | (cases he; done) | skip
  exact ⟨_, rfl⟩
theorem pi_ok (L : LX T fu k N sc lsc X) {R : Rg} {ik : IK} {tg e : Expr} {its : List LE} {es : List Expr} (hi : iterArgs T sc ik tg e = some es) (ha : PA X es (tA X.K (evs R its)))
    (hn : ∀ e ∈ es, notStar e = true) (hE : ∀ le e', its = [le] → es = [e'] → PE X e' (tE X.K (ev R le))) (hl : its.length = es.length) : PI X tg e (tI X.K ik (evs R its)) := by
  have st1 : ∀ {a : Expr}, notStar a = true → starEach [a] X.env = [(false, eval a X.env)] := fun h => by rw [notStar_of h]; rfl
  have st2 : ∀ {a b : Expr}, notStar a = true → starEach [a, b] X.env = (false, eval a X.env) :: starEach [b] X.env := fun h => by rw [notStar_of h]
  cases ik with
  | seq =>
    simp only [iterArgs] at hi
    split at hi
    · simp only [Option.some.injEq] at hi
      subst hi
      match its, hl with
      | [le], _ => exact pi_seq (hE le e rfl rfl)
    · cases hi
  | range1 =>
    simp only [iterArgs] at hi
    split at hi
    · split at hi
      · rename_i x _ a _ hg
        obtain ⟨rfl, g1, g2⟩ := lx_bi L hg
        simp only [Option.some.injEq] at hi
        subst hi
        refine PI_imp (pi_range1 g1 g2 ha (st1 (hn a (by simp)))) fun σ H Rr ⟨μ, ρ, st, env, vs, st1, xs, er, sr, hm, hx, q⟩ => ?_
        obtain ⟨j, rfl, h1, h2⟩ := range1_inv hx
        refine ⟨μ, ρ, st, env, _, st1, er, sr, hm, fun ρ1 H1 ws k1 s1 r1 => ?_⟩
        obtain ⟨v, rfl, r2⟩ := one_of (f := fun (_ : Unit) _ => True) r1
        simp only [Rep] at r2
        subst r2
        exact ⟨j, rfl, h1, h2, q ρ1 H1 _ _ k1 s1 r1 wk_range1⟩
      · cases hi
    · cases hi
  | range2 =>
    simp only [iterArgs] at hi
    split at hi
    · split at hi
      · rename_i x _ a b _ hg
        obtain ⟨rfl, g1, g2⟩ := lx_bi L hg
        simp only [Option.some.injEq] at hi
        subst hi
        refine PI_imp (pi_range2 g1 g2 ha (by rw [st2 (hn a (by simp)), st1 (hn b (by simp))]) (st1 (hn b (by simp)))) fun σ H Rr ⟨μ, ρ, st, env, vs, st1, xs, er, sr, hm, hx, q⟩ => ?_
        obtain ⟨i, j, rfl, hb⟩ := range2_inv hx
        refine ⟨μ, ρ, st, env, _, st1, er, sr, hm, fun ρ1 H1 ws k1 s1 r1 => ?_⟩
        obtain ⟨v, w, rfl, r2, r3⟩ := two_of r1
        simp only [Rep] at r2 r3
        subst r2 r3
        exact ⟨i, j, rfl, hb, q ρ1 H1 _ _ k1 s1 r1 wk_range2⟩
      · cases hi
    · cases hi
  | enum =>
    simp only [iterArgs] at hi
    split at hi
    · split at hi
      · rename_i x _ a _ hg
        rw [Bool.and_eq_true] at hg
        obtain ⟨rfl, g1, g2⟩ := lx_bi L hg.1
        simp only [Option.some.injEq] at hi
        subst hi
        cases tg <;> first | (exact absurd hg.2 Bool.false_ne_true) | skip
        refine PI_imp (pi_enum g1 g2 ha (st1 (hn a (by simp)))) fun σ H Rr ⟨μ, ρ, st, env, vs, st1, xs, er, sr, hm, hx, q⟩ => ?_
        obtain ⟨ys, rfl⟩ := enum_inv hx
        refine ⟨μ, ρ, st, env, _, st1, er, sr, hm, fun ρ1 H1 ws k1 s1 r1 => ?_⟩
        obtain ⟨v, rfl, r2⟩ := one_of (f := fun (_ : Unit) _ => True) r1
        obtain ⟨b, ws, rfl, hq, t⟩ := r2.list s1 (show itemsL (.lst ys) st1 = some ys from rfl)
        exact ⟨b, ws, rfl, hq, q ρ1 H1 _ _ k1 s1 r1 wk_enum⟩
      · cases hi
    · cases hi
  | zip =>
    simp only [iterArgs] at hi
    split at hi
    · split at hi
      · rename_i x _ a b _ hg
        rw [Bool.and_eq_true] at hg
        obtain ⟨rfl, g1, g2⟩ := lx_bi L hg.1
        simp only [Option.some.injEq] at hi
        subst hi
        cases tg <;> first | (exact absurd hg.2 Bool.false_ne_true) | skip
        refine PI_imp (pi_zip g1 g2 ha (st2 (hn a (by simp))) (by rw [st1 (hn b (by simp))]; rfl)) fun σ H Rr ⟨μ, ρ, st, env, vs, st1, xs, er, sr, hm, hx, q⟩ => ?_
        obtain ⟨ys, zs, rfl⟩ := zip_inv hx
        refine ⟨μ, ρ, st, env, _, st1, er, sr, hm, fun ρ1 H1 ws k1 s1 r1 => ?_⟩
        obtain ⟨v, w, rfl, r2, r3⟩ := two_of r1
        obtain ⟨p1, ws1, rfl, hq1, t1⟩ := r2.list s1 (show itemsL (.lst ys) st1 = some ys from rfl)
        obtain ⟨p2, ws2, rfl, hq2, t2⟩ := r3.list s1 (show itemsL (.lst zs) st1 = some zs from rfl)
        exact ⟨p1, p2, ws1, ws2, rfl, hq1, hq2, q ρ1 H1 _ _ k1 s1 r1 wk_zip⟩
      · cases hi
    · cases hi
  | rev =>
    simp only [iterArgs] at hi
    split at hi
    · split at hi
      · rename_i x _ a _ hg
        obtain ⟨rfl, g1, g2⟩ := lx_bi L hg
        simp only [Option.some.injEq] at hi
        subst hi
        refine PI_imp (pi_reversed g1 g2 ha (st1 (hn a (by simp)))) fun σ H Rr ⟨μ, ρ, st, env, vs, st1, xs, er, sr, hm, hx, q⟩ => ?_
        obtain ⟨ys, rfl⟩ := rev_inv hx
        refine ⟨μ, ρ, st, env, _, st1, er, sr, hm, fun ρ1 H1 ws k1 s1 r1 => ?_⟩
        obtain ⟨v, rfl, r2⟩ := one_of (f := fun (_ : Unit) _ => True) r1
        obtain ⟨b, ws, rfl, hq, t⟩ := r2.list s1 (show itemsL (.lst ys) st1 = some ys from rfl)
        exact ⟨b, ws, rfl, hq, by rw [← t.length]; exact q ρ1 H1 _ _ k1 s1 r1 wk_rev⟩
      · cases hi
    · cases hi
end
section
variable {W : Ws} {ρ : List Addr} {H : Hp}
theorem CellO.merge : ∀ {more : List (DK × PV)} {mus : List (Key × V)} {kvs : List (DK × PV)} {us : List (Key × V)}, mus.map (·.1) = (more.map (·.1)).map keyS → Reps W ρ H (more.map (·.2)) (mus.map (·.2)) →
    us.map (·.1) = (kvs.map (·.1)).map keyS → Reps W ρ H (kvs.map (·.2)) (us.map (·.2)) → (mergeK us mus).map (·.1) = ((dmerge kvs more).map (·.1)).map keyS ∧ Reps W ρ H ((dmerge kvs more).map (·.2)) ((mergeK us mus).map (·.2))
  | [], mus, kvs, us, e, r, e0, r0 => by
    have : mus = [] := by simpa using e
    subst this
    exact ⟨e0, r0⟩
  | (k, p) :: more, mus, kvs, us, e, r, e0, r0 => by
    cases mus with
    | nil => simp at e
    | cons m mus =>
      obtain ⟨mk, mv⟩ := m
      simp only [List.map_cons, List.cons.injEq] at e
      simp only [List.map_cons, Reps] at r
      obtain ⟨v, ws, ev, r1, t⟩ := r
      simp only [List.cons.injEq] at ev
      obtain ⟨rfl, rfl⟩ := ev
      obtain ⟨rfl, e2⟩ := e
      obtain ⟨q1, q2⟩ := CellO.put (k := k) e0 r0 r1
      exact CellO.merge (more := more) (mus := mus) (kvs := dput kvs k p) (us := putK us (keyS k) mv) e2 t q1 q2
end
/-- a dict's parts -/
noncomputable def trsOf (K : PySem.W.Frag) (R : Rg) : List LE → List (TE × TE)
  | k :: v :: r => (tE K (ev R k), tE K (ev R v)) :: trsOf K R r
  | _ => []
theorem pairs_read {K : PySem.W.Frag} {R : Rg} : ∀ (kvs : List LE) {μ : List Addr} {ρ : List Addr} {st st' : Store} {env : Env} {σ : L2.St} {H : Hp} {ps : List (PV × PV)} {Q : List (V × V) → Hp → Prop},
    ER ⟨K, μ⟩ ρ H env σ → SR ⟨K, μ⟩ ρ H st → evPs R kvs env st = some (ps, st') →
    (∀ ρ' H' vws, Kp ρ H ρ' H' → SR ⟨K, μ⟩ ρ' H' st' → Reps ⟨K, μ⟩ ρ' H' (ps.map (·.1)) (vws.map (·.1)) → Reps ⟨K, μ⟩ ρ' H' (ps.map (·.2)) (vws.map (·.2)) → Q vws H') → tPairs (trsOf K R kvs) σ H Q
  | [], μ, ρ, st, st', env, σ, H, ps, Q, er, sr, h, q => by
    simp only [evPs, pr_some] at h
    obtain ⟨rfl, rfl⟩ := h
    exact q ρ H [] .refl sr .nil .nil
  | [_], μ, ρ, st, st', env, σ, H, ps, Q, er, sr, h, q => by
    simp only [evPs, no_some] at h
  | k :: v :: r, μ, ρ, st, st', env, σ, H, ps, Q, er, sr, h, q => by
    simp only [evPs, bd_some, pr_some] at h
    obtain ⟨x, st1, h1, y, st2, h2, rs, st3, h3, rfl, rfl⟩ := h
    refine ⟨μ, ρ, st, env, x, st1, er, sr, h1, fun ρ1 H1 w1 k1 s1 r1 => ⟨μ, ρ1, st1, env, y, st2, er.mono k1, s1, h2, fun ρ2 H2 w2 k2 s2 r2 => ?_⟩⟩
    exact pairs_read r (er.mono (k1.trans k2)) s2 h3 fun ρ3 H3 vws k3 s3 ra rb => q ρ3 H3 ((w1, w2) :: vws) ((k1.trans k2).trans k3) s3 (.cons (r1.mono (k2.trans k3)) ra) (.cons (r2.mono k3) rb)
theorem keys_rep {W : Ws} {ρ : List Addr} {H : Hp} : ∀ {ps : List PV} {ks : List DK} {vs : List V}, keysOf ps = some ks → Reps W ρ H ps vs → vs = (ks.map keyS).map kV
  | [], ks, vs, h, r => by
    simp only [keysOf, List.mapM_nil, Option.pure_def, Option.some.injEq] at h
    subst h
    exact r.nil_of
  | p :: ps, ks, vs, h, r => by
    simp only [keysOf, List.mapM_cons, Option.bind_eq_bind, Option.bind_eq_some_iff, Option.pure_def, Option.some.injEq] at h
    obtain ⟨k, h1, ks', h2, rfl⟩ := h
    simp only [Reps] at r
    obtain ⟨v, ws, rfl, r1, t⟩ := r
    have e1 := dk_rep h1 r1
    have e2 := keys_rep (ps := ps) h2 t
    rw [e1, e2]
    rfl
theorem kvs_of : ∀ {vws : List (V × V)} {ks : List Key}, vws.map (·.1) = ks.map kV → vws = (ks.zip (vws.map (·.2))).map (fun kv => (kV kv.1, kv.2)) ∧ (ks.zip (vws.map (·.2))).map (·.1) = ks ∧ (ks.zip (vws.map (·.2))).map (·.2) = vws.map (·.2)
  | [], [], _ => ⟨rfl, rfl, rfl⟩
  | [], _ :: _, h => by simp at h
  | _ :: _, [], h => by simp at h
  | (a, b) :: vws, k :: ks, h => by
    simp only [List.map_cons, List.cons.injEq] at h
    obtain ⟨h1, h2, h3⟩ := kvs_of h.2
    obtain ⟨rfl, h0⟩ := h
    refine ⟨?_, ?_, ?_⟩
    · simp only [List.map_cons, List.zip_cons_cons]
      rw [← h1]
    · simp only [List.map_cons, List.zip_cons_cons]
      rw [h2]
    · simp only [List.map_cons, List.zip_cons_cons]
      rw [h3]
theorem keysOf_len : ∀ {ps : List PV} {ks : List DK}, keysOf ps = some ks → ks.length = ps.length
  | [], ks, h => by
    simp only [keysOf, List.mapM_nil, Option.pure_def, Option.some.injEq] at h
    subst h
    rfl
  | p :: ps, ks, h => by
    simp only [keysOf, List.mapM_cons, Option.bind_eq_bind, Option.bind_eq_some_iff, Option.pure_def, Option.some.injEq] at h
    obtain ⟨k, h1, ks', h2, rfl⟩ := h
    simp [keysOf_len (ps := ps) h2]
theorem zip_parts {α β : Type} : ∀ {ks : List α} {ps : List β}, ks.length = ps.length → (ks.zip ps).map (·.1) = ks ∧ (ks.zip ps).map (·.2) = ps
  | [], [], _ => ⟨rfl, rfl⟩
  | [], _ :: _, h => by simp at h
  | _ :: _, [], h => by simp at h
  | k :: ks, p :: ps, h => by
    obtain ⟨h1, h2⟩ := zip_parts (ks := ks) (ps := ps) (by simpa using h)
    exact ⟨by simp [h1], by simp [h2]⟩
theorem kcore {W : Ws} {ρ : List Addr} {H : Hp} {ps : List (PV × PV)} {ks : List DK} {vws : List (V × V)} (hk : keysOf (ps.map (·.1)) = some ks) (ra : Reps W ρ H (ps.map (·.1)) (vws.map (·.1))) (rb : Reps W ρ H (ps.map (·.2)) (vws.map (·.2))) :
    ∃ us : List (Key × V), vws = us.map (fun kv => (kV kv.1, kv.2)) ∧ us.length = ps.length ∧
      (mergeK [] us).map (·.1) = ((dmerge [] (ks.zip (ps.map (·.2)))).map (·.1)).map keyS ∧ Reps W ρ H ((dmerge [] (ks.zip (ps.map (·.2)))).map (·.2)) ((mergeK [] us).map (·.2)) := by
  obtain ⟨h1, h2, h3⟩ := kvs_of (keys_rep hk ra)
  have hl : ks.length = (ps.map (·.2)).length := by
    rw [keysOf_len hk]
    simp
  obtain ⟨z1, z2⟩ := zip_parts hl
  have hl2 := ra.length
  simp only [List.length_map] at hl2 hl
  refine ⟨_, h1, by simp [hl, hl2], ?_⟩
  exact CellO.merge (by rw [h2, z1]) (by rw [h3, z2]; exact rb) rfl .nil
section
variable {K : PySem.W.Frag} {R : Rg} {σ : L2.St} {H : Hp} {Q : VK}
theorem dct_read {kvs : List LE} (h : tE K (ev R (.dct kvs)) σ H Q) : tDisp (trsOf K R kvs) σ H Q := by
  obtain ⟨μ, ρ, st, env, p, st', er, sr, hf, post⟩ := h
  simp only [ev, bd_some, ofO_some, grd_some, pr_some] at hf
  obtain ⟨ps, st1, h1, ks, _, ⟨h2, rfl⟩, _, _, ⟨h3, rfl⟩, rfl, rfl⟩ := hf
  intro D hD
  obtain ⟨n1, n2⟩ := sr.off_of hD
  refine pairs_read kvs (er.more hD) (sr.more hD) h1 fun ρ' H' vws k s ra rb => ?_
  have hD' : H' D = some (.dK []) := k.keep _ _ n1 upd_same
  have nD : D ∉ ρ' := fun z => s.off D z List.mem_cons_self
  obtain ⟨us, e1, e2, e3, e4⟩ := kcore h2 ra rb
  refine ⟨hD', us, e1, by omega, ?_⟩
  refine post ρ' _ _ (k.poke hD n1) s.poke.less ?_
  simp only [mkD, Rep]
  exact ⟨D, _, rfl, ⟨upd_same, nD, n2⟩, e3, e4.poke.less⟩
theorem dctC_read {kvs : List LE} (h : tE K (ev R (.dctC kvs)) σ H Q) : tDisp (trsOf K R kvs) σ H Q := by
  obtain ⟨μ, ρ, st, env, p, st', er, sr, hf, post⟩ := h
  simp only [ev, bd_some, ofO_some, grd_some, newCell, Option.some.injEq, Prod.mk.injEq] at hf
  obtain ⟨ps, st1, h1, ks, _, ⟨h2, rfl⟩, _, _, ⟨h3, rfl⟩, rfl, rfl⟩ := hf
  intro D hD
  obtain ⟨n1, n2⟩ := sr.off_of hD
  refine pairs_read kvs (er.more hD) (sr.more hD) h1 fun ρ' H' vws k s ra rb => ?_
  have hD' : H' D = some (.dK []) := k.keep _ _ n1 upd_same
  have nD : D ∉ ρ' := fun z => s.off D z List.mem_cons_self
  obtain ⟨us, e1, e2, e3, e4⟩ := kcore h2 ra rb
  refine ⟨hD', us, e1, by omega, ?_⟩
  have k' := k.poke (o' := .dK (mergeK [] us)) hD n1
  have a := s.adopt (c := .dct (dmerge [] (ks.zip (ps.map (·.2))))) n2 ⟨_, rfl, e3, e4⟩
  refine post (ρ' ++ [D]) _ _ ⟨?_, fun b hb nb => ?_, k'.keep⟩ a ?_
  · obtain ⟨t, e⟩ := k.pre
    exact ⟨t ++ [D], by rw [e, List.append_assoc]⟩
  · rcases List.mem_append.mp hb with hb | hb
    · exact k'.new b hb nb
    · rw [List.mem_singleton.mp hb]
      exact hD
  · simp only [Rep]
    refine ⟨D, ?_, rfl⟩
    rw [← s.len]
    simp
theorem dct0_read (h : tE K (ev R (.dct [])) σ H Q) : tDNewK σ H Q := by
  intro p hp
  have q := dct_read h p hp
  obtain ⟨_, us, e1, _, e⟩ := q
  have : us = [] := by simpa using e1.symm
  subst this
  simpa only [upd_upd, show mergeK [] [] = [] from rfl] using e
theorem dctC0_read (h : tE K (ev R (.dctC [])) σ H Q) : tDNewK σ H Q := by
  intro p hp
  have q := dctC_read h p hp
  obtain ⟨_, us, e1, _, e⟩ := q
  have : us = [] := by simpa using e1.symm
  subst this
  simpa only [upd_upd, show mergeK [] [] = [] from rfl] using e
end
end Lt

/-! Lt13: what an expression is said to be, it is. -/
namespace Lt
open PySem PySem.Spec PyProof.Rows L2
def Ok2 (X : Cx) (R : Rg) (le : LE) (e : Expr) : Prop := PE X e (tE X.K (ev R le)) ∧ (le.tst = true → PT X e (tT X.K (evT R le)))
structure OkL (X : Cx) (R : Rg) (es : List LE) (es' : List Expr) : Prop where
  pa : PA X es' (tA X.K (evs R es))
  andE : ∀ pos, es ≠ [] → PE X (.BoolOp .And es' pos) (tE X.K (evAnd R es))
  orE : ∀ pos, es ≠ [] → PE X (.BoolOp .Or es' pos) (tE X.K (evOr R es))
  andW : ∀ pos, es ≠ [] → tsts es = true → PW X (.BoolOp .And es' pos) (tT X.K (fun env => bd (evAnd R es env) truthM))
  orW : ∀ pos, es ≠ [] → tsts es = true → PW X (.BoolOp .Or es' pos) (tT X.K (fun env => bd (evOr R es env) truthM))
  one : ∀ le e', es = [le] → es' = [e'] → Ok2 X R le e'
  at_ : ∀ (i : Nat) (le : LE) (e' : Expr), es[i]? = some le → es'[i]? = some e' → Ok2 X R le e'
  len : es.length = es'.length
  ns : ∀ e ∈ es', notStar e = true
section
variable {K : PySem.W.Frag} {σ : L2.St} {H : Hp}
theorem bl_read {m : Env → M PV} {Q : Bool → Hp → Prop} (hb : ∀ env st p st', m env st = some (p, st') → ∃ b, p = .bl b) (h : tT K (fun env => bd (m env) truthM) σ H Q) : tE K m σ H (fun x H' => ∃ k, x = .bl k ∧ Q k H') := by
  obtain ⟨μ, ρ, st, env, b, st', er, sr, hf, post⟩ := h
  simp only [bd_some] at hf
  obtain ⟨x, st1, h1, h2⟩ := hf
  obtain ⟨c, rfl⟩ := hb _ _ _ _ h1
  simp only [truthM, pr_some] at h2
  obtain ⟨rfl, rfl⟩ := h2
  refine ⟨μ, ρ, st, env, .bl c, st1, er, sr, h1, fun ρ1 H1 w1 k1 s1 r1 => ?_⟩
  simp only [Rep] at r1
  exact ⟨c, r1, post ρ1 H1 k1 s1⟩
theorem truth_st {p : PV} {k : Bool} {st st' : Store} (h : truthM p st = some (k, st')) : st = st' := by
  cases p <;> simp only [truthM, pr_some, bd_some, grd_some] at h <;> first | exact h.2 | skip
  case str s =>
    obtain ⟨_, _, ⟨_, rfl⟩, _, rfl⟩ := h
    rfl
  case cell i =>
    split at h
    · simp only [Option.some.injEq, Prod.mk.injEq] at h
      exact h.2
    · simp only [Option.some.injEq, Prod.mk.injEq] at h
      exact h.2
    · cases h
theorem notT_read {ma : Env → M PV} {Q : Bool → Hp → Prop} (h : tT K (fun env => bd (bd (ma env) fun x => bd (truthM x) fun k => pr (.bl (!k))) truthM) σ H Q) : tNot (tT K (fun env => bd (ma env) truthM)) σ H Q := by
  obtain ⟨μ, ρ, st, env, b, st', er, sr, hf, post⟩ := h
  simp only [bd_some, pr_some] at hf
  obtain ⟨_, _, ⟨x, st1, h1, k, st2, h2, rfl, rfl⟩, h3⟩ := hf
  simp only [truthM, pr_some] at h3
  obtain ⟨rfl, rfl⟩ := h3
  exact ⟨μ, ρ, st, env, k, st2, er, sr, by simp only [bd_some]; exact ⟨x, st1, h1, h2⟩, post⟩
theorem andT_read {ma mb : Env → M PV} {Q : Bool → Hp → Prop} (h : tT K (fun env => bd (bd (ma env) fun x => bd (truthM x) fun k => if k = true then mb env else pr x) truthM) σ H Q) : tAnd (tT K (fun env => bd (ma env) truthM)) (tT K (fun env => bd (mb env) truthM)) σ H Q := by
  obtain ⟨μ, ρ, st, env, b, st', er, sr, hf, post⟩ := h
  simp only [bd_some] at hf
  obtain ⟨y, st3, ⟨x, st1, h1, k, st2, h2, h4⟩, h3⟩ := hf
  refine ⟨μ, ρ, st, env, k, st2, er, sr, by simp only [bd_some]; exact ⟨x, st1, h1, h2⟩, fun ρ1 H1 k1 s1 => ?_⟩
  cases k with
  | true =>
    rw [if_pos rfl] at h4 ⊢
    exact ⟨μ, ρ1, st2, env, b, st', er.mono k1, s1, by simp only [bd_some]; exact ⟨y, st3, h4, h3⟩, fun ρ' H' k' s' => post ρ' H' (k1.trans k') s'⟩
  | false =>
    rw [if_neg Bool.false_ne_true] at h4 ⊢
    obtain ⟨rfl, rfl⟩ := pr_some.mp h4
    obtain rfl := truth_st h2
    rw [h2] at h3
    simp only [Option.some.injEq, Prod.mk.injEq] at h3
    obtain ⟨rfl, rfl⟩ := h3
    exact post ρ1 H1 k1 s1
theorem orT_read {ma mb : Env → M PV} {Q : Bool → Hp → Prop} (h : tT K (fun env => bd (bd (ma env) fun x => bd (truthM x) fun k => if k = true then pr x else mb env) truthM) σ H Q) : tOr (tT K (fun env => bd (ma env) truthM)) (tT K (fun env => bd (mb env) truthM)) σ H Q := by
  obtain ⟨μ, ρ, st, env, b, st', er, sr, hf, post⟩ := h
  simp only [bd_some] at hf
  obtain ⟨y, st3, ⟨x, st1, h1, k, st2, h2, h4⟩, h3⟩ := hf
  refine ⟨μ, ρ, st, env, k, st2, er, sr, by simp only [bd_some]; exact ⟨x, st1, h1, h2⟩, fun ρ1 H1 k1 s1 => ?_⟩
  cases k with
  | false =>
    rw [if_neg Bool.false_ne_true] at h4 ⊢
    exact ⟨μ, ρ1, st2, env, b, st', er.mono k1, s1, by simp only [bd_some]; exact ⟨y, st3, h4, h3⟩, fun ρ' H' k' s' => post ρ' H' (k1.trans k') s'⟩
  | true =>
    rw [if_pos rfl] at h4 ⊢
    obtain ⟨rfl, rfl⟩ := pr_some.mp h4
    obtain rfl := truth_st h2
    rw [h2] at h3
    simp only [Option.some.injEq, Prod.mk.injEq] at h3
    obtain ⟨rfl, rfl⟩ := h3
    exact post ρ1 H1 k1 s1
theorem getV_some {env : Env} {i : Nat} {st st' : Store} {p : PV} : getV env i st = some (p, st') ↔ env[i]? = some (some p) ∧ st = st' := by
  unfold getV
  rcases h : env[i]? with _ | _ | v
  · simp [no]
  · simp [no]
  · simp [pr]
theorem var_read {i : Nat} {Q : VK} (h : tE K (fun env => getV env i) σ H Q) : tVar i σ H Q := by
  obtain ⟨μ, ρ, st, env, p, st', er, sr, hf, post⟩ := h
  obtain ⟨hv, rfl⟩ := getV_some.mp hf
  obtain ⟨w, h1, h2⟩ := er.2 i _ hv
  exact ⟨w, h1, post.here sr h2⟩
theorem con_read {p : PV} {v : V} {Q : VK} (hr : ∀ μ ρ H, Rep ⟨K, μ⟩ ρ H p v) (h : tE K (fun _ => pr p) σ H Q) : tC v σ H Q := by
  obtain ⟨μ, ρ, st, env, p, st', er, sr, hf, post⟩ := h
  obtain ⟨rfl, rfl⟩ := pr_some.mp hf
  exact post.here sr (hr μ ρ H)
theorem nil_read {Q : List V → Hp → Prop} (h : tA K (fun _ => pr []) σ H Q) : tNil σ H Q := by
  obtain ⟨μ, ρ, st, env, p, st', er, sr, hf, post⟩ := h
  obtain ⟨rfl, rfl⟩ := pr_some.mp hf
  exact post ρ H [] .refl sr .nil
end
section
variable {T : Tab} {fu k : Nat} {N : List Str} {sc lsc : Scope} {X : Cx}
theorem ok_plain {R : Rg} {le : LE} {e : Expr} (h : PE X e (tE X.K (ev R le))) (hp : plainT e = true) : Ok2 X R le e :=
  ⟨h, fun _ => PT_imp (pt_truth h (plainT_of hp)) fun σ H Q q => tru_read q⟩
theorem lx_gl (L : LX T fu k N sc lsc X) {x : Str} (h : glB sc x = true) : Gl X x := by show X.env.scope.names.lookup x = _; rw [L.hsc]; exact glB_of h
theorem lx_un (L : LX T fu k N sc lsc X) : X.A.units + 64 < cLine := by have := L.room.un; omega
theorem mean_len {f : Nat} {x : Str} {d : Df} (hf : T.fn[f]? = some (x, d)) {ps : List PV} {st : Store} {r : PV × Store} (h : (T.rg fu k).fn f ps st = some r) : ps.length = d.par := by
  cases k with
  | zero => simp [Tab.rg, mean, no] at h
  | succ k =>
    simp only [Tab.rg, mean] at h
    rw [List.getElem?_map, hf] at h
    simp only [Option.map_some, runDf] at h
    split at h
    · assumption
    · cases h
theorem back_any {es : List Expr} {env : PySem.Env} {pos : Pos} (h : ∀ e ∈ es, notStar e = true) : (backTo pos (starEach es env)).any (·.1) = false := by
  induction es with
  | nil => rfl
  | cons e es ih =>
    rw [notStar_of (h e (by simp))]
    show (false || (backTo pos (starEach es env)).any (·.1)) = false
    rw [ih fun e he => h e (by simp [he])]
    rfl
theorem back_few {es : List Expr} {env : PySem.Env} {pos : Pos} (h : ∀ e ∈ es, notStar e = true) (hl : es.length < 30) : ((backTo pos (starEach es env)).all (fun x => !x.1) && (backToKw pos (keywordEach [] env)).all (fun x => x.1.isSome)
      && decide (es.length + ([] : List Keyword).length + (if ([] : List Keyword).isEmpty then 0 else 1) < 30)) = true := by
  have h1 : (backTo pos (starEach es env)).all (fun x => !x.1) = true := by
    induction es with
    | nil => rfl
    | cons e es ih =>
      rw [notStar_of (h e (by simp))]
      show (true && (backTo pos (starEach es env)).all (fun x => !x.1)) = true
      rw [ih (fun e he => h e (by simp [he])) (by simp at hl; omega)]
      rfl
  rw [h1]
  have h2 : es.length + ([] : List Keyword).length + (if ([] : List Keyword).isEmpty then 0 else 1) < 30 := by simpa using hl
  rw [decide_eq_true h2]
  rfl
end
end Lt

/-! Lt14: expressions, all of them. -/
namespace Lt
open PySem PySem.Spec PyProof.Rows L2
theorem nmOk_of {x : Str} (h : nmOk x = true) : (x == ("__debug__" : Str)) = false ∧ (x == ("__classdict__" : Str)) = false ∧ x ≠ "__name__" := by
  unfold nmOk at h
  simp only [Bool.and_eq_true, Bool.not_eq_true'] at h
  exact ⟨h.1.1, h.1.2, fun e => by rw [e] at h; simp at h⟩
theorem chkC_pe {X : Cx} {R : Rg} {v : PV} {c : Const} {kd : Nat} {pos : Pos} (h : chkC v c = true) : PE X (.Constant c kd pos) (tE X.K (ev R (.cst v))) := by
  cases v <;> cases c <;> simp only [chkC] at h <;> try (exact absurd h Bool.false_ne_true)
  case non.none => exact PE_imp pe_non fun σ H Q q => con_read (p := .non) (fun _ _ _ => by simp only [Rep]) (by simpa only [ev] using q)
  case bl.bool b b' =>
    have := eq_of_beq h
    subst this
    exact PE_imp pe_bl fun σ H Q q => con_read (p := .bl b) (fun _ _ _ => by simp only [Rep]) (by simpa only [ev] using q)
  case int.int i j =>
    have := of_decide_eq_true h
    subst this
    exact PE_imp pe_int fun σ H Q q => con_read (p := .int i) (fun _ _ _ => by simp only [Rep]) (by simpa only [ev] using q)
  case str.str s x =>
    have := of_decide_eq_true h
    exact PE_imp pe_str fun σ H Q q => con_read (p := .str s) (fun _ _ _ => by simp only [Rep]; rw [← this, mkS_of]) (by simpa only [ev] using q)
theorem isi_boot : bootBuiltins ("isinstance" : Str) = some (.builtin "isinstance") := by decide +kernel
def negM : PV → M PV := fun x => match x with
  | .int i => pr (.int (-i))
  | _ => no
theorem disp_ok {X : Cx} {m : Env → M PV} {ks : List (Option Expr)} {vs : List Expr} {pos : Pos} {kvs : List LE} {R : Rg} (pp : PPs X pos ks vs (trsOf X.K R kvs)) (hs : ks.all (·.isSome) = true) (hl : ks.length = vs.length) (h15 : ks.length ≤ 15)
    (hk : ks = [] → kvs = []) (h1 : ∀ σ H Q, tE X.K m σ H Q → tDisp (trsOf X.K R kvs) σ H Q) (h2 : ∀ σ H Q, kvs = [] → tE X.K m σ H Q → tDNewK σ H Q) : PE X (.Dict ks vs pos) (tE X.K m) := by
  cases ks with
  | nil =>
    cases vs with
    | nil => exact PE_imp pe_dnewK fun σ H Q q => h2 σ H Q (hk rfl) q
    | cons _ _ => simp at hl
  | cons k1 ks1 => exact PE_imp (pe_disp pp hs hl (by simp) h15) h1
theorem BI.isB : ∀ b : BI, (∃ id, b.val = .builtin id) ∨ ∃ t, b.val = .type t := by intro b; cases b <;> first | exact .inl ⟨_, rfl⟩ | exact .inr ⟨_, rfl⟩
theorem bi_pe {X : Cx} {b : BI} {e : Expr} {es : List Expr} {t : TA} {p pos : Pos} (hc : X.calm = true) (hg : Gl X b.nm) (hm : X.mg b.nm = none) (ha : PA X (e :: es) t) (he : starEach (e :: es) X.env = (false, eval e X.env) :: starEach es X.env)
    (hpl : (backTo pos (starEach es X.env)).any (·.1) = false) : PE X (.Call (.Name b.nm p) (e :: es) [] pos) (tCB (rB X.K b) t) := by
  have c := cb_of hc b
  have bo := b.boot
  rcases b.isB with ⟨id, h⟩ | ⟨id, h⟩
  · rw [h] at c bo
    exact pe_callB c hg hm bo ha b.plain.1 b.plain.2 he hpl
  · rw [h] at c bo
    exact pe_callTy c hg hm bo ha b.plain.1 b.plain.2 he hpl
theorem pts_ok {X : Cx} {R : Rg} {ifs : List LE} {ifs' : List Expr} (q : OkL X R ifs ifs') (ht : tsts ifs = true) (hl : ifs.length ≤ 1) : PTs X ifs' (tT X.K (fun en => evIfs R ifs en)) := by
  match ifs, ifs', q, ht, hl with
  | [], [], q, _, _ =>
    refine ⟨fun pins s σ H Q I w => pts_nil.run pins s σ H Q I ?_⟩
    obtain ⟨μ, ρ, st, env, b, st', er, sr, hf, post⟩ := w
    simp only [evIfs, pr_some] at hf
    obtain ⟨rfl, rfl⟩ := hf
    exact post ρ H .refl sr
  | [c], [c'], q, ht, _ =>
    refine ⟨fun pins s σ H Q I w => (pts_one ((q.one c c' rfl rfl).2 (by simpa [tsts] using ht))).run pins s σ H Q I ?_⟩
    exact w
  | [], _ :: _, q, _, _ => exact absurd q.len (by simp)
  | [_], [], q, _, _ => exact absurd q.len (by simp)
  | [_], _ :: _ :: _, q, _, _ => exact absurd q.len (by simp)
theorem okl_cons {X : Cx} {R : Rg} {a : LE} {as : List LE} {e : Expr} {es' : List Expr} (h : Ok2 X R a e) (q : OkL X R as es') (hs : notStar e = true) : OkL X R (a :: as) (e :: es') := by
  refine ⟨PA_imp (pa_cons h.1 q.pa (notStar_of hs)) fun σ H Q w => cons_read (ma := ev R a) (mb := evs R as) w, fun pos _ => ?_, fun pos _ => ?_, fun pos _ ht => ?_, fun pos _ ht => ?_, fun le e' e1 e2 => ?_, fun i le e' e1 e2 => ?_, by simp [q.len], fun x hx => ?_⟩
  · match as, es', q with
    | [], [], _ => exact PE_imp (pe_one h.1) fun σ H Q w => w
    | b :: bs, e2 :: es2, q => exact PE_imp (pe_andT h.1 (q.andE pos (by simp))) fun σ H Q w => and_read (ma := ev R a) (mb := evAnd R (b :: bs)) w
    | [], _ :: _, q => exact absurd q.len (by simp)
    | _ :: _, [], q => exact absurd q.len (by simp)
  · match as, es', q with
    | [], [], _ => exact PE_imp (pe_one h.1) fun σ H Q w => w
    | b :: bs, e2 :: es2, q => exact PE_imp (pe_orT h.1 (q.orE pos (by simp))) fun σ H Q w => or_read (ma := ev R a) (mb := evOr R (b :: bs)) w
    | [], _ :: _, q => exact absurd q.len (by simp)
    | _ :: _, [], q => exact absurd q.len (by simp)
  · simp only [tsts, Bool.and_eq_true] at ht
    match as, es', q, ht with
    | [], [], _, ht => exact PW_imp (pw_and1 (h.2 ht.1)) fun σ H Q w => w
    | b :: bs, e2 :: es2, q, ht => exact PW_imp (pw_and (h.2 ht.1) (q.andW pos (by simp) ht.2)) fun σ H Q w => andT_read (ma := ev R a) (mb := evAnd R (b :: bs)) w
    | [], _ :: _, q, _ => exact absurd q.len (by simp)
    | _ :: _, [], q, _ => exact absurd q.len (by simp)
  · simp only [tsts, Bool.and_eq_true] at ht
    match as, es', q, ht with
    | [], [], _, ht => exact PW_imp (pw_or1 (h.2 ht.1)) fun σ H Q w => w
    | b :: bs, e2 :: es2, q, ht => exact PW_imp (pw_or (h.2 ht.1) (q.orW pos (by simp) ht.2)) fun σ H Q w => orT_read (ma := ev R a) (mb := evOr R (b :: bs)) w
    | [], _ :: _, q, _ => exact absurd q.len (by simp)
    | _ :: _, [], q, _ => exact absurd q.len (by simp)
  · simp only [List.cons.injEq] at e1 e2
    obtain ⟨rfl, _⟩ := e1
    obtain ⟨rfl, _⟩ := e2
    exact h
  · cases i with
    | zero =>
      simp only [List.getElem?_cons_zero, Option.some.injEq] at e1 e2
      subst e1 e2
      exact h
    | succ i => exact q.at_ i le e' (by simpa using e1) (by simpa using e2)
  · rcases List.mem_cons.mp hx with rfl | hx
    · exact hs
    · exact q.ns x hx
theorem LX.blk {T : Tab} {fu k : Nat} {N : List Str} {sc lsc scope : Scope} {X : Cx} (L : LX T fu k N sc lsc X) {s : Shared} {H : Hp} {C : Addr} {cl : List (Str × Addr)} {fp : List Addr} : LX T fu k N (relS scope sc) scope (X.blk s H scope (compEnvC scope cl C X.env) fp) := by
  have hr : (compEnvC scope cl C X.env).scope = relS scope sc := by rw [← L.hsc]; rfl
  refine ⟨L.hN, L.nd, hr, L.calm, L.room, rfl, fun x hx => ?_, L.fns, L.gls, L.bis⟩
  show Loc (compEnvC scope cl C X.env).scope x ∧ ((scope.names.lookup x == some .cell) = true ∨ (compEnvC scope cl C X.env).scope.names.lookup x = some .local)
  rw [hr]
  rcases hx with hx | hx
  · have := lookup_relS_keep (sc := sc) (by decide) hx
    exact ⟨.inl this, .inr this⟩
  · have := lookup_relS_keep (sc := sc) (by decide) hx
    exact ⟨.inr this, .inl (by rw [hx]; rfl)⟩
section
variable {T : Tab} {fu k : Nat} {N : List Str} {sc lsc : Scope} {X : Cx}
theorem rgM_some {t : Bool} {i j : Int} {st st' : Store} {p : PV} : rgM t i j st = some (p, st') ↔ (-(2 ^ 62) ≤ i ∧ i < 2 ^ 62 ∧ -(2 ^ 62) ≤ j ∧ j < 2 ^ 62 ∧ (j - i).toNat ≤ SL) ∧
    p = (if t = true then .tup ((List.range (j - i).toNat).map fun (k : Nat) => PV.int (i + k)) else .lst ((List.range (j - i).toNat).map fun (k : Nat) => PV.int (i + k))) ∧ st = st' := by
  unfold rgM
  split
  · rename_i h
    simp only [Option.some.injEq, Prod.mk.injEq, h, and_self, true_and]
    exact ⟨fun ⟨a, b⟩ => ⟨a.symm, b⟩, fun ⟨a, b⟩ => ⟨a.symm, b⟩⟩
  · rename_i h
    exact Iff.intro (fun e => by cases e) (fun e => absurd e.1 h)
theorem reps_rg {W : Ws} {ρ : List Addr} {H : Hp} {i : Int} : ∀ (n : Nat), Reps W ρ H ((List.range n).map fun (k : Nat) => PV.int (i + k)) ((List.range n).map fun (k : Nat) => V.int (i + (k : Nat)))
  | 0 => .nil
  | n + 1 => by
    rw [List.range_succ, List.map_append, List.map_append]
    exact (reps_rg n).append (.cons (by simp only [Rep]) .nil)
theorem rg1_read {K : PySem.W.Frag} {σ : L2.St} {H : Hp} {Q : VK} {R : Rg} {le : LE} {t : Bool} {f : List PV → M PV} (hf' : ∀ xs st r, f xs st = some r → ∃ j, xs = [.int j] ∧ rgM t 0 j st = some r) (h : tE K (fun env => bd (evs R [le] env) f) σ H Q) :
    (if t = true then tTupRg (tRg1 (tE K (ev R le))) else tLstRg (tRg1 (tE K (ev R le)))) σ H Q := by
  obtain ⟨μ, ρ, st, env, p, st', er, sr, hf, post⟩ := h
  simp only [evs, bd_some, pr_some] at hf
  obtain ⟨_, _, ⟨x, st1, h1, _, _, ⟨rfl, rfl⟩, rfl, rfl⟩, h2⟩ := hf
  obtain ⟨j, e, h5⟩ := hf' _ _ _ h2
  simp only [List.cons.injEq, and_true] at e
  subst e
  obtain ⟨⟨b1, b2, b3, b4, b5⟩, rfl, rfl⟩ := rgM_some.mp h5
  have go : tE K (ev R le) σ H (fun x H1 => ∃ n, x = .int n ∧ (RgOk 0 n ∧ ∀ q, H1 q = none → Q (.ref q) (upd H1 q (if t = true then .tup (rgV 0 n) else .lst (rgV 0 n))))) := by
    refine ⟨μ, ρ, st, env, .int j, _, er, sr, h1, fun ρ1 H1 w k1 s1 r1 => ?_⟩
    simp only [Rep] at r1
    subst r1
    refine ⟨j, rfl, ⟨b1, b2, b3, b4, b5⟩, fun q hq => ?_⟩
    cases t with
    | true => exact (post.mono k1).newTup s1 hq (reps_rg _)
    | false => exact (post.mono k1).newLst s1 hq (reps_rg _)
  cases t with
  | true => exact go
  | false => exact go
theorem rg2_read {K : PySem.W.Frag} {σ : L2.St} {H : Hp} {Q : VK} {R : Rg} {la lb : LE} {t : Bool} {f : List PV → M PV} (hf' : ∀ xs st r, f xs st = some r → ∃ i j, xs = [.int i, .int j] ∧ rgM t i j st = some r) (h : tE K (fun env => bd (evs R [la, lb] env) f) σ H Q) :
    (if t = true then tTupRg (tRg2 (tE K (ev R la)) (tE K (ev R lb))) else tLstRg (tRg2 (tE K (ev R la)) (tE K (ev R lb)))) σ H Q := by
  obtain ⟨μ, ρ, st, env, p, st', er, sr, hf, post⟩ := h
  simp only [evs, bd_some, pr_some] at hf
  obtain ⟨_, _, ⟨x, st1, h1, _, _, ⟨y, st2, h2, _, _, ⟨rfl, rfl⟩, rfl, rfl⟩, rfl, rfl⟩, h3⟩ := hf
  obtain ⟨i, j, e, h5⟩ := hf' _ _ _ h3
  simp only [List.cons.injEq, and_true] at e
  obtain ⟨rfl, rfl⟩ := e
  obtain ⟨⟨b1, b2, b3, b4, b5⟩, rfl, rfl⟩ := rgM_some.mp h5
  have go : tE K (ev R la) σ H (fun x H1 => tE K (ev R lb) σ H1 fun y H2 => ∃ i j, x = .int i ∧ y = .int j ∧ (RgOk i j ∧ ∀ q, H2 q = none → Q (.ref q) (upd H2 q (if t = true then .tup (rgV i j) else .lst (rgV i j))))) := by
    refine ⟨μ, ρ, st, env, .int i, st1, er, sr, h1, fun ρ1 H1 w k1 s1 r1 => ⟨μ, ρ1, st1, env, .int j, _, er.mono k1, s1, h2, fun ρ2 H2 w2 k2 s2 r2 => ?_⟩⟩
    simp only [Rep] at r1 r2
    subst r1 r2
    refine ⟨i, j, rfl, rfl, ⟨b1, b2, b3, b4, b5⟩, fun q hq => ?_⟩
    cases t with
    | true => exact (post.mono (k1.trans k2)).newTup s2 hq (reps_rg _)
    | false => exact (post.mono (k1.trans k2)).newLst s2 hq (reps_rg _)
  cases t with
  | true => exact go
  | false => exact go
theorem sp1_of {xs : List PV} {f : Int → M PV} {st : Store} {r : PV × Store} (h : (match xs with
    | [.int j] => f j
    | _ => no : M PV) st = some r) : ∃ j, xs = [.int j] ∧ f j st = some r := by
  split at h
  · exact ⟨_, rfl, h⟩
  · cases h
theorem sp2_of {xs : List PV} {f : Int → Int → M PV} {st : Store} {r : PV × Store} (h : (match xs with
    | [.int i, .int j] => f i j
    | _ => no : M PV) st = some r) : ∃ i j, xs = [.int i, .int j] ∧ f i j st = some r := by
  split at h
  · exact ⟨_, _, rfl, h⟩
  · cases h
theorem len_two {α β : Type} {l : List α} {x y : β} (h : l.length = [x, y].length) : ∃ a b, l = [a, b] := by
  match l, h with
  | [a, b], _ => exact ⟨a, b, rfl⟩
theorem st1_of {a : Expr} {env : PySem.Env} (h : notStar a = true) : starEach [a] env = (false, eval a env) :: starEach [] env := notStar_of h
theorem sp_ok (L : LX T fu k N sc lsc X) {R : Rg} {s : SP} {e : Expr} {es : List LE} {es' : List Expr} (hi : spArgs T sc s e = some es') (q : OkL X R es es') : PE X e (tE X.K (ev R (.sp s es))) := by
  cases s with
  | lrange1 =>
    simp only [spArgs] at hi
    split at hi
    · split at hi
      · rename_i hg
        rw [Bool.and_eq_true] at hg
        obtain ⟨rfl, g1, g2⟩ := lx_bi L hg.1
        obtain ⟨rfl, g3, g4⟩ := lx_bi L hg.2
        cases hi
        rename_i a _ _
        obtain ⟨le, rfl⟩ := List.length_eq_one_iff.mp q.len
        exact PE_imp (pe_listRg L.calm g1 g2 (prg_1 g3 g4 (q.at_ 0 le a rfl rfl).1 (st1_of (q.ns a (by simp)))) rfl) fun σ H Q w => rg1_read (t := false) (f := sp .lrange1) (fun xs st r h => sp1_of h) w
      · cases hi
    · cases hi
  | trange1 =>
    simp only [spArgs] at hi
    split at hi
    · split at hi
      · rename_i hg
        rw [Bool.and_eq_true] at hg
        obtain ⟨rfl, g1, g2⟩ := lx_bi L hg.1
        obtain ⟨rfl, g3, g4⟩ := lx_bi L hg.2
        cases hi
        rename_i a _ _
        obtain ⟨le, rfl⟩ := List.length_eq_one_iff.mp q.len
        exact PE_imp (pe_tupRg L.calm g1 g2 (prg_1 g3 g4 (q.at_ 0 le a rfl rfl).1 (st1_of (q.ns a (by simp)))) rfl) fun σ H Q w => rg1_read (t := true) (f := sp .trange1) (fun xs st r h => sp1_of h) w
      · cases hi
    · cases hi
  | lrange2 =>
    simp only [spArgs] at hi
    split at hi
    · split at hi
      · rename_i hg
        rw [Bool.and_eq_true] at hg
        obtain ⟨rfl, g1, g2⟩ := lx_bi L hg.1
        obtain ⟨rfl, g3, g4⟩ := lx_bi L hg.2
        cases hi
        rename_i a b _ _
        obtain ⟨le, le2, rfl⟩ := len_two q.len
        exact PE_imp (pe_listRg L.calm g1 g2 (prg_2 g3 g4 (q.at_ 0 le a rfl rfl).1 (q.at_ 1 le2 b rfl rfl).1 (notStar_of (q.ns a (by simp))) (st1_of (q.ns b (by simp))) (by rw [st1_of (q.ns b (by simp))]; rfl)) rfl) fun σ H Q w => rg2_read (t := false) (f := sp .lrange2) (fun xs st r h => sp2_of h) w
      · cases hi
    · cases hi
  | trange2 =>
    simp only [spArgs] at hi
    split at hi
    · split at hi
      · rename_i hg
        rw [Bool.and_eq_true] at hg
        obtain ⟨rfl, g1, g2⟩ := lx_bi L hg.1
        obtain ⟨rfl, g3, g4⟩ := lx_bi L hg.2
        cases hi
        rename_i a b _ _
        obtain ⟨le, le2, rfl⟩ := len_two q.len
        exact PE_imp (pe_tupRg L.calm g1 g2 (prg_2 g3 g4 (q.at_ 0 le a rfl rfl).1 (q.at_ 1 le2 b rfl rfl).1 (notStar_of (q.ns a (by simp))) (st1_of (q.ns b (by simp))) (by rw [st1_of (q.ns b (by simp))]; rfl)) rfl) fun σ H Q w => rg2_read (t := true) (f := sp .trange2) (fun xs st r h => sp2_of h) w
      · cases hi
    · cases hi
end
section
variable {T : Tab} {fu k : Nat} {N : List Str}
mutual
theorem pe_ok : ∀ (le : LE) (e : Expr) (sc lsc : Scope) (X : Cx), LX T fu k N sc lsc X → chkE T N sc le e = true → Ok2 X (T.rg fu k) le e
  | .var i, e, sc, lsc, X, L, h => by
    cases e <;> simp only [chkE] at h <;> try (exact absurd h Bool.false_ne_true)
    case Name x pos =>
      simp only [Bool.and_eq_true, decide_eq_true_eq] at h
      obtain ⟨n1, n2, n3⟩ := nmOk_of h.2
      refine ok_plain (PE_imp (pe_var (i := i) (by rw [L.hN]; exact h.1.1) (by rw [L.hsc]; exact visB_of h.1.2) n1 n2) fun σ H Q q => var_read (by simpa only [ev] using q)) rfl
  | .cst v, e, sc, lsc, X, L, h => by
    cases e <;> simp only [chkE] at h <;> try (exact absurd h Bool.false_ne_true)
    case Constant c kd pos => exact ok_plain (chkC_pe h) rfl
  | .glob g, e, sc, lsc, X, L, h => by
    cases e <;> simp only [chkE] at h <;> try (exact absurd h Bool.false_ne_true)
    case Name x pos =>
      simp only [Bool.and_eq_true, decide_eq_true_eq] at h
      obtain ⟨n1, n2, n3⟩ := nmOk_of h.2
      obtain ⟨⟨y, p⟩, hg, hy⟩ := Option.map_eq_some_iff.mp h.1.1
      simp only at hy
      subst hy
      obtain ⟨u, v, h1, h2, h3⟩ := L.gls g _ p hg
      refine ok_plain (PE_imp (pe_glob (lx_gl L h.1.2) h1 h2 n1) fun σ H Q q => con_read h3 ?_) rfl
      simpa only [ev, Tab.rg, hg, Option.map_some, ofO] using q
  | .bin op a b, e, sc, lsc, X, L, h => by
    cases e <;> simp only [chkE] at h <;> try (exact absurd h Bool.false_ne_true)
    case BinOp a' op' b' pos =>
      simp only [Bool.and_eq_true, decide_eq_true_eq] at h
      obtain ⟨⟨rfl, ha⟩, hb⟩ := h
      exact ok_plain (PE_imp (pe_op (bo_all op) (pe_ok a a' sc lsc X L ha).1 (pe_ok b b' sc lsc X L hb).1) fun σ H Q q => bin_read (by simpa only [ev] using q)) rfl
  | .neg a, e, sc, lsc, X, L, h => by
    cases e <;> simp only [chkE] at h <;> try (exact absurd h Bool.false_ne_true)
    case UnaryOp op a' pos =>
      simp only [Bool.and_eq_true, decide_eq_true_eq] at h
      obtain ⟨rfl, ha⟩ := h
      refine ok_plain (PE_imp (pe_un un_neg (pe_ok a a' sc lsc X L ha).1) fun σ H Q q => un_read (ma := ev (T.rg fu k) a) (f := negM) q fun μ ρ st x H1 p p' st' rp sr hf post => ?_) rfl
      cases p <;> simp only [negM, no_some, pr_some] at hf
      obtain ⟨rfl, rfl⟩ := hf
      simp only [Rep] at rp
      exact ⟨_, rp, post.here sr (by simp only [Rep])⟩
  | .cmp op a b, e, sc, lsc, X, L, h => by
    cases e <;> (try simp only [chkE] at h) <;> try (exact absurd h Bool.false_ne_true)
    case Compare a' ops cs pos =>
      match ops, cs, h with
      | [op'], [b'], h =>
        simp only [chkE, Bool.and_eq_true, decide_eq_true_eq] at h
        obtain ⟨⟨⟨rfl, hn⟩, ha⟩, hb⟩ := h
        have pa := (pe_ok a a' sc lsc X L ha).1
        have pb := (pe_ok b b' sc lsc X L hb).1
        have rd : ∀ σ H Q, tE X.K (ev (T.rg fu k) (.cmp op a b)) σ H Q → tOp (rO X.K (copV op)) (tE X.K (ev (T.rg fu k) a)) (tE X.K (ev (T.rg fu k) b)) σ H Q := fun σ H Q q => bin_read (f := copV op) (by
          have e : ev (T.rg fu k) (.cmp op a b) = fun env => bd (ev (T.rg fu k) a env) fun x => bd (ev (T.rg fu k) b env) fun y => copV op x y := by
            funext env; simp only [ev, copV]
          rw [← e]; exact q)
        refine ⟨PE_imp (pe_cmpR (co_all (lx_un L) op) pa pb (notSet_marks hn)) rd, fun _ => PT_imp (pt_cmpR (co_all (lx_un L) op) pa pb (notSet_marks hn)) fun σ H Q q => rd σ H _ (bl_read (fun env st p st' hf => ?_) q)⟩
        simp only [ev, bd_some, pr_some] at hf
        obtain ⟨_, _, _, _, _, _, c, _, _, rfl, _⟩ := hf
        exact ⟨c, rfl⟩
  | .chn op a b op2 c, e, sc, lsc, X, L, h => by
    cases e <;> (try simp only [chkE] at h) <;> try (exact absurd h Bool.false_ne_true)
    case Compare a' ops cs pos =>
      match ops, cs, h with
      | [op', op2'], [b', c'], h =>
        simp only [chkE, Bool.and_eq_true, decide_eq_true_eq] at h
        obtain ⟨⟨⟨⟨⟨rfl, rfl⟩, hn⟩, ha⟩, hb⟩, hc⟩ := h
        have pa := (pe_ok a a' sc lsc X L ha).1
        have pb := (pe_ok b b' sc lsc X L hb).1
        have pc := (pe_ok c c' sc lsc X L hc).1
        have hm : lastMarks [copOf op, copOf op2] [b', c'] = false := notSet_marks hn
        have rd : ∀ σ H Q, tE X.K (ev (T.rg fu k) (.chn op a b op2 c)) σ H Q → tChain (rO X.K (copV op)) (rO X.K (copV op2)) (tE X.K (ev (T.rg fu k) a)) (tE X.K (ev (T.rg fu k) b)) (tE X.K (ev (T.rg fu k) c)) σ H Q := fun σ H Q q => chn_read (by
          have e : ev (T.rg fu k) (.chn op a b op2 c) = fun env => bd (ev (T.rg fu k) a env) fun x => bd (ev (T.rg fu k) b env) fun y => bd (cop op x y) fun k1 => if k1 = true then bd (ev (T.rg fu k) c env) fun z => bd (cop op2 y z) fun k' => pr (.bl k') else pr (.bl false) := by
            funext env; simp only [ev]
          rw [← e]; exact q)
        refine ⟨PE_imp (pe_chain (co_all (lx_un L) op) (co_all (lx_un L) op2) pa pb pc hm) rd, fun _ => PT_imp (pt_chain (co_all (lx_un L) op) (co_all (lx_un L) op2) pa pb pc hm) fun σ H Q q => rd σ H _ (bl_read (fun env st p st' hf => ?_) q)⟩
        simp only [ev, bd_some] at hf
        obtain ⟨_, _, _, _, _, _, c, _, _, hf⟩ := hf
        split at hf
        · simp only [bd_some, pr_some] at hf
          obtain ⟨_, _, _, c, _, _, rfl, _⟩ := hf
          exact ⟨c, rfl⟩
        · obtain ⟨rfl, _⟩ := pr_some.mp hf
          exact ⟨false, rfl⟩
  | .and es, e, sc, lsc, X, L, h => by
    cases e <;> simp only [chkE] at h <;> try (exact absurd h Bool.false_ne_true)
    case BoolOp op es' pos =>
      simp only [Bool.and_eq_true, decide_eq_true_eq] at h
      obtain ⟨rfl, ha⟩ := h
      have q := pl_ok es es' sc lsc X L ha
      by_cases hn : es = []
      · subst hn
        refine ⟨⟨fun pins s σ H Q I w => ?_⟩, fun _ => ⟨fun pins s σ H Q I w => ?_⟩⟩
        · obtain ⟨μ, ρ, st, env, p, st', _, _, hf, _⟩ := w
          simp only [ev, evAnd, no_some] at hf
        · obtain ⟨μ, ρ, st, env, p, st', _, _, hf, _⟩ := w
          simp only [evT, ev, evAnd, bd_some, no_some, false_and, exists_false] at hf
      · refine ⟨PE_imp (q.andE pos hn) fun σ H Q w => w, fun ht => PT_imp (q.andW pos hn (by simpa only [LE.tst] using ht)).pt fun σ H Q w => w⟩
  | .or es, e, sc, lsc, X, L, h => by
    cases e <;> simp only [chkE] at h <;> try (exact absurd h Bool.false_ne_true)
    case BoolOp op es' pos =>
      simp only [Bool.and_eq_true, decide_eq_true_eq] at h
      obtain ⟨rfl, ha⟩ := h
      have q := pl_ok es es' sc lsc X L ha
      by_cases hn : es = []
      · subst hn
        refine ⟨⟨fun pins s σ H Q I w => ?_⟩, fun _ => ⟨fun pins s σ H Q I w => ?_⟩⟩
        · obtain ⟨μ, ρ, st, env, p, st', _, _, hf, _⟩ := w
          simp only [ev, evOr, no_some] at hf
        · obtain ⟨μ, ρ, st, env, p, st', _, _, hf, _⟩ := w
          simp only [evT, ev, evOr, bd_some, no_some, false_and, exists_false] at hf
      · refine ⟨PE_imp (q.orE pos hn) fun σ H Q w => w, fun ht => PT_imp (q.orW pos hn (by simpa only [LE.tst] using ht)).pt fun σ H Q w => w⟩
  | .not a, e, sc, lsc, X, L, h => by
    cases e <;> simp only [chkE] at h <;> try (exact absurd h Bool.false_ne_true)
    case UnaryOp op a' pos =>
      simp only [Bool.and_eq_true, decide_eq_true_eq] at h
      obtain ⟨rfl, ha⟩ := h
      obtain ⟨p1, p2⟩ := pe_ok a a' sc lsc X L ha
      refine ⟨PE_imp (pe_notT p1) fun σ H Q q => not_read (by simpa only [ev] using q), fun ht => PT_imp (pt_not (p2 (by simpa only [LE.tst] using ht))) fun σ H Q q => ?_⟩
      exact notT_read (ma := ev (T.rg fu k) a) q
  | .ife c a b, e, sc, lsc, X, L, h => by
    cases e <;> simp only [chkE] at h <;> try (exact absurd h Bool.false_ne_true)
    case IfExp c' a' b' pos =>
      simp only [Bool.and_eq_true] at h
      refine ⟨PE_imp (pe_ifExp ((pe_ok c c' sc lsc X L h.1.1.2).2 h.1.1.1) (pe_ok a a' sc lsc X L h.1.2).1 (pe_ok b b' sc lsc X L h.2).1) fun σ H Q q => ife_read ?_, fun ht => absurd ht (by simp [LE.tst])⟩
      have e : ev (T.rg fu k) (.ife c a b) = fun env => bd (evT (T.rg fu k) c env) fun k1 => if k1 = true then ev (T.rg fu k) a env else ev (T.rg fu k) b env := by
        funext env st
        simp only [ev, evT, bd]
        cases ev (T.rg fu k) c env st <;> rfl
      rw [← e]
      exact q
  | .tup es, e, sc, lsc, X, L, h => by
    cases e <;> simp only [chkE] at h <;> try (exact absurd h Bool.false_ne_true)
    case Tuple es' kk pos => exact ok_plain (PE_imp (pe_tup (pl_ok es es' sc lsc X L h).pa) fun σ H Q q => tup_read (by simpa only [ev] using q)) rfl
  | .lst es, e, sc, lsc, X, L, h => by
    cases e <;> simp only [chkE] at h <;> try (exact absurd h Bool.false_ne_true)
    case List es' pos => exact ok_plain (PE_imp (pe_lst (pl_ok es es' sc lsc X L h).pa) fun σ H Q q => lst_read (by simpa only [ev] using q)) rfl
  | .lstC es, e, sc, lsc, X, L, h => by
    cases e <;> simp only [chkE] at h <;> try (exact absurd h Bool.false_ne_true)
    case List es' pos => exact ok_plain (PE_imp (pe_lst (pl_ok es es' sc lsc X L h).pa) fun σ H Q q => lstC_read (by simpa only [ev] using q)) rfl
  | .dct kvs, e, sc, lsc, X, L, h => by
    cases e <;> simp only [chkE] at h <;> try (exact absurd h Bool.false_ne_true)
    case Dict ks vs pos =>
      simp only [Bool.and_eq_true, decide_eq_true_eq] at h
      obtain ⟨pp, hs, hl⟩ := pp_ok kvs ks vs sc lsc X L h.2 (pos := pos)
      exact ok_plain (disp_ok pp hs hl h.1 (fun e => by subst e; cases kvs with
        | nil => rfl
        | cons _ r => cases r <;> simp [chkPs] at h) (fun σ H Q q => dct_read q) fun σ H Q e q => by subst e; exact dct0_read q) rfl
  | .dctC kvs, e, sc, lsc, X, L, h => by
    cases e <;> simp only [chkE] at h <;> try (exact absurd h Bool.false_ne_true)
    case Dict ks vs pos =>
      simp only [Bool.and_eq_true, decide_eq_true_eq] at h
      obtain ⟨pp, hs, hl⟩ := pp_ok kvs ks vs sc lsc X L h.2 (pos := pos)
      exact ok_plain (disp_ok pp hs hl h.1 (fun e => by subst e; cases kvs with
        | nil => rfl
        | cons _ r => cases r <;> simp [chkPs] at h) (fun σ H Q q => dctC_read q) fun σ H Q e q => by subst e; exact dctC0_read q) rfl
  | .idx a i, e, sc, lsc, X, L, h => by
    cases e <;> simp only [chkE] at h <;> try (exact absurd h Bool.false_ne_true)
    case Subscript a' i' pos =>
      simp only [Bool.and_eq_true] at h
      exact ok_plain (PE_imp (pe_ix (ix_all (by have := L.room.un; omega)) (pe_ok a a' sc lsc X L h.1.2).1 (pe_ok i i' sc lsc X L h.2).1 (notSlice_of h.1.1)) fun σ H Q q => idx_read q) rfl
  | .slc a hl lo hh hi, e, sc, lsc, X, L, h => by
    cases e <;> (try simp only [chkE] at h) <;> try (exact absurd h Bool.false_ne_true)
    case Subscript a' i' pos =>
      cases i' <;> (try simp only [chkE] at h) <;> try (exact absurd h Bool.false_ne_true)
      case Slice lo' hi' stp p2 =>
        cases stp with
        | some z => simp only [chkE] at h; exact absurd h Bool.false_ne_true
        | none =>
          simp only [chkE, Bool.and_eq_true] at h
          obtain ⟨⟨h1, h2⟩, h3⟩ := h
          have pl : PO X lo' (if hl = true then tPart (tE X.K (ev (T.rg fu k) lo)) else tNoPart) := by
            cases hl <;> cases lo' <;> simp only [] at h2 <;> try (exact absurd h2 Bool.false_ne_true)
            · exact po_none
            · exact po_some (pe_ok lo _ sc lsc X L h2).1
          have ph : PO X hi' (if hh = true then tPart (tE X.K (ev (T.rg fu k) hi)) else tNoPart) := by
            cases hh <;> cases hi' <;> simp only [] at h3 <;> try (exact absurd h3 Bool.false_ne_true)
            · exact po_none
            · exact po_some (pe_ok hi _ sc lsc X L h3).1
          refine ok_plain (PE_imp (pe_slice sl_all (pe_ok a a' sc lsc X L h1).1 pl ph) fun σ H Q q => slc_read (ml := fun env => if hl = true then bd (ev (T.rg fu k) lo env) optI else pr none) (mh := fun env => if hh = true then bd (ev (T.rg fu k) hi env) optI else pr none) ?_ ?_ q) rfl
          · intro σ H R q
            cases hl with
            | true => exact some_read (m := ev (T.rg fu k) lo) q
            | false => exact none_read q
          · intro σ H R q
            cases hh with
            | true => exact some_read (m := ev (T.rg fu k) hi) q
            | false => exact none_read q
  | .call f es, e, sc, lsc, X, L, h => by
    cases e <;> (try simp only [chkE] at h) <;> try (exact absurd h Bool.false_ne_true)
    case Call fe es' kws pos =>
      cases fe <;> (try simp only [chkE] at h) <;> try (exact absurd h Bool.false_ne_true)
      case Name x p =>
        cases kws with
        | cons _ _ => simp only [chkE] at h; exact absurd h Bool.false_ne_true
        | nil =>
          simp only [chkE, Bool.and_eq_true, decide_eq_true_eq] at h
          obtain ⟨⟨⟨h1, h2⟩, h3⟩, h4⟩ := h
          obtain ⟨n1, n2, n3⟩ := nmOk_of h3
          obtain ⟨⟨y, d⟩, hf, hy⟩ := Option.map_eq_some_iff.mp h1
          simp only at hy
          subst hy
          obtain ⟨a, fd, ps, g1, g2, g3, g4, g5⟩ := L.fns f _ d hf
          have q := pl_ok es es' sc lsc X L h4
          have rd : ∀ σ H Q, tE X.K (ev (T.rg fu k) (.call f es)) σ H Q → tCall (spF X.K d.par ((T.rg fu k).fn f)) [] E0 (tA X.K (evs (T.rg fu k) es)) σ H Q := fun σ H Q q => call_read (fun ps st r hr => mean_len hf hr) q
          cases es' with
          | nil =>
            have e0 : es = [] := List.eq_nil_of_length_eq_zero q.len
            subst e0
            refine ok_plain (PE_imp (pe_call0 g5 L.room (lx_gl L h2) g1 g2 g3 .nil pass0 n1) fun σ H Q w => ?_) rfl
            have := rd σ H Q w
            exact nil_read this
          | cons e1 es1 =>
            exact ok_plain (PE_imp (pe_call g5 L.room (lx_gl L h2) g1 g2 g3 .nil pass0 q.pa n1 (notStar_of (q.ns e1 (by simp))) (back_any fun e he => q.ns e (by simp [he]))) rd) rfl
  | .bi b es, e, sc, lsc, X, L, h => by
    cases e <;> (try simp only [chkE] at h) <;> try (exact absurd h Bool.false_ne_true)
    case Call fe es' kws pos =>
      cases fe <;> (try simp only [chkE] at h) <;> try (exact absurd h Bool.false_ne_true)
      case Name x p =>
        cases kws with
        | cons _ _ => simp only [chkE] at h; exact absurd h Bool.false_ne_true
        | nil =>
          simp only [chkE, Bool.and_eq_true, decide_eq_true_eq] at h
          obtain ⟨⟨⟨⟨rfl, h2⟩, h3⟩, h4⟩, h5⟩ := h
          have q := pl_ok es es' sc lsc X L h5
          cases es' with
          | nil => simp at h4
          | cons e1 es1 => exact ok_plain (PE_imp (bi_pe L.calm (lx_gl L h2) (L.bis _ h3) q.pa (notStar_of (q.ns e1 (by simp))) (back_any fun e he => q.ns e (by simp [he]))) fun σ H Q w => bi_read w) rfl
  | .me m o es, e, sc, lsc, X, L, h => by
    cases e <;> (try simp only [chkE] at h) <;> try (exact absurd h Bool.false_ne_true)
    case Call fe es' kws pos =>
      cases fe <;> (try simp only [chkE] at h) <;> try (exact absurd h Bool.false_ne_true)
      case Attribute o' nm apos =>
        cases kws with
        | cons _ _ => simp only [chkE] at h; exact absurd h Bool.false_ne_true
        | nil =>
          simp only [chkE, Bool.and_eq_true, decide_eq_true_eq] at h
          obtain ⟨⟨⟨⟨⟨rfl, h2⟩, h3⟩, h4⟩, h5⟩, h6⟩ := h
          have q := pl_ok es es' sc lsc X L h6
          have po := (pe_ok o o' sc lsc X L h5).1
          cases es' with
          | nil =>
            have e0 : es = [] := List.eq_nil_of_length_eq_zero q.len
            subst e0
            exact ok_plain (PE_imp (pe_bm0 m.pa m.slot m.hty (mb_of m) po (notCall0_of h2) h3) fun σ H Q w => me0_read (mo := ev (T.rg fu k) o) w) rfl
          | cons e1 es1 =>
            exact ok_plain (PE_imp (pe_bm m.pa m.slot m.hty (mb_of m) po q.pa (notCall0_of h2) (back_few q.ns h4) h3 (notStar_of (q.ns e1 (by simp))) (back_any fun e he => q.ns e (by simp [he]))) fun σ H Q w => me_read w) rfl
  | .isi a t, e, sc, lsc, X, L, h => by
    cases e <;> (try simp only [chkE] at h) <;> try (exact absurd h Bool.false_ne_true)
    case Call fe es' kws pos =>
      cases fe <;> (try simp only [chkE] at h) <;> try (exact absurd h Bool.false_ne_true)
      case Name x p =>
        match es', kws, h with
        | [a', .Name y p2], [], h =>
          simp only [chkE, Bool.and_eq_true, decide_eq_true_eq] at h
          obtain ⟨⟨⟨⟨⟨⟨⟨rfl, h2⟩, h3⟩, rfl⟩, h5⟩, h6⟩, h7⟩, h8⟩ := h
          have pa := (pe_ok a a' sc lsc X L h8).1
          have py : PE X (.Name t.nmS p2) (tC (.ty t.nm)) := pe_bltn (lx_gl L h5) (L.bis _ h6) t.boot rfl t.plain.1 t.plain.2
          exact ok_plain (PE_imp (pe_callB (cb_isi t) (lx_gl L h2) (L.bis _ h3) isi_boot (pa_cons pa (pa_cons py pa_nil) (notStar_of h7)) (by decide) (by decide) (notStar_of h7) rfl) fun σ H Q w => isi_read w) rfl
  | .sp s es, e, sc, lsc, X, L, h => by
    simp only [chkE, Bool.and_eq_true] at h
    obtain ⟨hp, h⟩ := h
    cases hit : spArgs T sc s e with
    | none => rw [hit] at h; exact absurd h Bool.false_ne_true
    | some es' =>
      rw [hit] at h
      exact ok_plain (sp_ok L hit (pl_ok es es' sc lsc X L h)) hp
  | .lc e tg ik its ifs own, e', sc, lsc, X, L, h => by
    cases e' <;> (try simp only [chkE] at h) <;> try (exact absurd h Bool.false_ne_true)
    case ListComp elt gs scope pos =>
      match gs, h with
      | [⟨tg', it', ifs', as⟩], h =>
        simp only [chkE, Bool.and_eq_true, decide_eq_true_eq] at h
        obtain ⟨⟨⟨⟨⟨⟨⟨⟨⟨⟨rfl, h2⟩, h3⟩, h4⟩, h5⟩, h6⟩, h7⟩, h8⟩, h9⟩, h10⟩, h11⟩ := h
        have hown : ∀ i ∈ tg.slots, i ∈ own := fun i hi => by
          have := List.all_eq_true.mp h6 i hi
          exact of_decide_eq_true this
        cases hit : iterArgs T sc ik tg' it' with
        | none => rw [hit] at h7; exact absurd h7 Bool.false_ne_true
        | some ies =>
          rw [hit] at h7
          have qi := pl_ok its ies sc lsc X L h7
          have pi := pi_ok L hit qi.pa qi.ns (fun le e' e1 e2 => (qi.one le e' e1 e2).1) qi.len
          have ok : BlkOk X.N X.env.scope scope (ownOf N own) := by rw [L.hN, L.hsc]; exact blkOk_by h3
          have lb : ∀ (s : Shared) (H : Hp) (C : Addr) (cl : List (Str × Addr)) (fp : List Addr), LX T fu k N (relS scope sc) scope (X.blk s H scope (compEnvC scope cl C X.env) fp) := fun s H C cl fp => L.blk
          refine ok_plain (PE_imp (pe_lc (g := tG X.K tg) (tt := tT X.K (fun en => evIfs (T.rg fu k) ifs en)) (te := tE X.K (ev (T.rg fu k) e)) L.calm (by rw [L.hN]; exact L.nd) pi ok (fun s H C cl fp => pg_ok (lb s H C cl fp) tg tg' h5) (fun s H C cl fp => pts_ok ?_ h9 h10) (fun s H C cl fp => (pe_ok e elt _ _ _ (lb s H C cl fp) h11).1) (notSet_fold h2)) fun σ H Q w => ?_) rfl
          · exact pl_ok ifs ifs' _ _ _ (lb s H C cl fp) h8
          · rw [h4]
            exact lc_read hown w
theorem pl_ok : ∀ (es : List LE) (es' : List Expr) (sc lsc : Scope) (X : Cx), LX T fu k N sc lsc X → chkEs T N sc es es' = true → OkL X (T.rg fu k) es es'
  | [], [], sc, lsc, X, L, h => ⟨PA_imp pa_nil fun σ H Q q => nil_read q, fun _ h => absurd rfl h, fun _ h => absurd rfl h, fun _ h => absurd rfl h, fun _ h => absurd rfl h, fun _ _ h => by simp at h, fun i _ _ h => by simp at h, rfl, by simp⟩
  | [], _ :: _, sc, lsc, X, L, h => by simp [chkEs] at h
  | _ :: _, [], sc, lsc, X, L, h => by simp [chkEs] at h
  | a :: as, e :: es', sc, lsc, X, L, h => by
    simp only [chkEs, Bool.and_eq_true] at h
    exact okl_cons (pe_ok a e sc lsc X L h.1.2) (pl_ok as es' sc lsc X L h.2) h.1.1
theorem pp_ok : ∀ (kvs : List LE) (ks : List (Option Expr)) (vs : List Expr) (sc lsc : Scope) (X : Cx), LX T fu k N sc lsc X → chkPs T N sc kvs ks vs = true → ∀ {pos : Pos}, PPs X pos ks vs (trsOf X.K (T.rg fu k) kvs) ∧ ks.all (·.isSome) = true ∧ ks.length = vs.length
  | [], [], [], sc, lsc, X, L, h, pos => ⟨pps_nil, rfl, rfl⟩
  | [], _ :: _, _, sc, lsc, X, L, h, pos => by simp [chkPs] at h
  | [], [], _ :: _, sc, lsc, X, L, h, pos => by simp [chkPs] at h
  | [_], ks, vs, sc, lsc, X, L, h, pos => by simp [chkPs] at h
  | a :: b :: r, [], vs, sc, lsc, X, L, h, pos => by simp [chkPs] at h
  | a :: b :: r, none :: ks, vs, sc, lsc, X, L, h, pos => by simp [chkPs] at h
  | a :: b :: r, some k' :: ks, [], sc, lsc, X, L, h, pos => by simp [chkPs] at h
  | a :: b :: r, some k' :: ks, v' :: vs, sc, lsc, X, L, h, pos => by
    simp only [chkPs, Bool.and_eq_true] at h
    obtain ⟨q1, q2, q3⟩ := pp_ok r ks vs sc lsc X L h.2 (pos := pos)
    exact ⟨pps_cons (pe_ok a k' sc lsc X L h.1.1).1 (pe_ok b v' sc lsc X L h.1.2).1 q1, by simpa using q2, by simp [q3]⟩
end
end
end Lt

/-! Lt15: statements. -/
namespace Lt
open PySem PySem.Spec PyProof.Rows L2
def compB : Expr → Bool
  | .ListComp .. => true | .SetComp .. => true | .DictComp .. => true | _ => false
def tupB : Expr → Bool
  | .Tuple .. => true | _ => false
def swB (sc scope : Scope) (y : Str) (py pos : Pos) : Bool := (sc.names.lookup y == some .local) && (py.line == pos.line) && !(scope.names.any fun (n, k) => n == y && (k == .local || k == .cell))
def nameComp : Expr → Expr → Bool
  | .Name .., .ListComp .. => true
  | _, _ => false
def locO (sc : Scope) (x : Str) : Bool := match sc.names.lookup x with
  | some .local => true | _ => false
/-- a, b = x, y -/
def chkPar (N : List Str) (sc : Scope) : LG → Expr → Expr → Bool
  | .tup [.name i, .name j], .Tuple [.Name x px, .Name y py] _ _, .Tuple [a, b] _ _ => decide (N[i]? = some x) && decide (N[j]? = some y) && decide (i ≠ j) && decide (x ≠ y) && locO sc x && locO sc y && (px.line == py.line) &&
      notStar a && notStar b && !([a, b].all (foldedForSure 8)) && !([a, b].all (constantsAlone 8))
  | _, _, _ => false
mutual
def chkS (T : Tab) (N : List Str) (sc : Scope) : LS → Stmt → Bool
  | .set tg e, .Assign [tg'] v _ => chkE T N sc e v &&
      ((chkG N sc tg tg' && ((!compB v && !(tupB tg' && tupB v)) || nameComp tg' v)) || chkPar N sc tg tg' v)
  | .setI o i e, .Assign [.Subscript o' i' _] v _ => !compB v && notSlice i' && chkE T N sc e v && chkE T N sc o o' && chkE T N sc i i'
  | .expr e, .Expr v _ => !compB v && chkE T N sc e v
  | .ret e, .Return (some v) _ => chkE T N sc e v
  | .retN, .Return none _ => true
  | .ife c a b, .If c' a' b' _ => c.tst && chkE T N sc c c' && chkSs T N sc a a' && chkSs T N sc b b'
  | .for_ tg ik its body, .For tg' it' body' [] _ => notSet it' && chkG N sc tg tg' && (match iterArgs T sc ik tg' it' with | some es => chkEs T N sc its es | none => false) && chkSs T N sc body body'
  | .whl c body, .While c' body' [] _ => c.tst && chkE T N sc c c' && chkSs T N sc body body'
  | .brk, .Break _ => true
  | .cnt, .Continue _ => true
  | .pas, .Pass _ => true
  | _, _ => false
def chkSs (T : Tab) (N : List Str) (sc : Scope) : List LS → List Stmt → Bool
  | [], [] => true
  | s :: ss, t :: ts => chkS T N sc s t && chkSs T N sc ss ts
  | _, _ => false
end
theorem PostS.mono {W : Ws} {ρ ρ1 : List Addr} {H H1 : Hp} {n : Nat} {o : Out} {st : Store} {D : Ends} (h : PostS W ρ H n o st D) (k : Kp ρ H ρ1 H1) : PostS W ρ1 H1 n o st D := by
  cases o with
  | nx env => exact fun ρ' H' σ' k' s e => h ρ' H' σ' (k.trans k') s e
  | bk env => exact fun ρ' H' σ' k' s e => h ρ' H' σ' (k.trans k') s e
  | ct env => exact fun ρ' H' σ' k' s e => h ρ' H' σ' (k.trans k') s e
  | rt p => exact fun ρ' H' w k' s e => h ρ' H' w (k.trans k') s e
section
variable {K : PySem.W.Frag} {σ : L2.St} {H : Hp} {D : Ends}
theorem set_read {m : Env → M PV} {tg : LG} (h : tS K (fun env => bd (m env) fun x => bd (ofO (asg tg x env)) fun env' => pr (.nx env')) D σ H) : tAsg (tE K m) (tG K tg) D σ H := by
  obtain ⟨μ, ρ, st, env, o, st', er, sr, hf, post⟩ := h
  simp only [bd_some, ofO_some, pr_some] at hf
  obtain ⟨x, st1, h1, env', _, ⟨h2, rfl⟩, rfl, rfl⟩ := hf
  refine ⟨μ, ρ, st, env, x, st1, er, sr, h1, fun ρ1 H1 w k1 s1 r1 => ⟨μ, ρ1, env, x, env', er.mono k1, r1, h2, fun σ' er' _ _ => post ρ1 H1 σ' k1 s1 er'⟩⟩
theorem par_read {m : Env → M (List PV)} {i j : Nat} (h : tS K (fun env => bd (bd (m env) fun xs => bd (grd (xs.length ≤ SL)) fun _ => pr (.tup xs)) fun x => bd (ofO (asg (.tup [.name i, .name j]) x env)) fun env' => pr (.nx env')) D σ H) : tPar i j (tA K m) D σ H := by
  obtain ⟨μ, ρ, st, env, o, st', er, sr, hf, post⟩ := h
  simp only [bd_some, ofO_some, pr_some, grd_some] at hf
  obtain ⟨x, st1, ⟨xs, _, h1, _, _, ⟨_, rfl⟩, rfl, rfl⟩, env', _, ⟨h2, rfl⟩, rfl, rfl⟩ := hf
  refine ⟨μ, ρ, st, env, xs, _, er, sr, h1, fun ρ1 H1 ws k1 s1 r1 => ?_⟩
  match xs, h2 with
  | [p, q], h2 =>
    obtain ⟨v, w, rfl, rv, rw'⟩ := two_of r1
    refine ⟨v, w, rfl, ?_⟩
    simp only [asg, asgs] at h2
    split at h2
    · rename_i env1 h3
      split at h3
      · simp only [Option.some.injEq] at h3
        subst h3
        split at h2
        · rename_i env2 h4
          split at h4
          · simp only [Option.some.injEq] at h4 h2
            subst h4 h2
            exact post ρ1 H1 _ k1 s1 (((er.mono k1).set rv).set rw')
          · cases h4
        · cases h2
      · cases h3
    · cases h2
  | [], h2 => simp [asg, asgs] at h2
  | [p], h2 =>
    simp only [asg, asgs] at h2
    split at h2 <;> cases h2
  | p :: q :: r :: s, h2 =>
    simp only [asg, asgs] at h2
    split at h2
    · split at h2 <;> cases h2
    · cases h2
theorem setI_read {me mo mi : Env → M PV} (h : tS K (fun env => bd (me env) fun x => bd (mo env) fun y => bd (mi env) fun z => bd (setM y z x) fun _ => pr (.nx env)) D σ H) : tAsg (tE K me) (gSub (tE K mo) (tE K mi) (rS K)) D σ H := by
  obtain ⟨μ, ρ, st, env, o, st', er, sr, hf, post⟩ := h
  simp only [bd_some, pr_some] at hf
  obtain ⟨x, st1, h1, y, st2, h2, z, st3, h3, _, st4, h4, rfl, rfl⟩ := hf
  refine ⟨μ, ρ, st, env, x, st1, er, sr, h1, fun ρ1 H1 w1 k1 s1 r1 => ⟨μ, ρ1, st1, env, y, st2, er.mono k1, s1, h2, fun ρ2 H2 w2 k2 s2 r2 => ⟨μ, ρ2, st2, env, z, st3, er.mono (k1.trans k2), s2, h3, fun ρ3 H3 w3 k3 s3 r3 => ?_⟩⟩⟩
  exact ⟨μ, ρ3, st3, y, z, x, st4, r2.mono k3, r3, r1.mono (k2.trans k3), s3, h4, fun ρ4 H4 k4 s4 => post ρ4 H4 _ (((k1.trans k2).trans k3).trans k4) s4 (er.mono (((k1.trans k2).trans k3).trans k4))⟩
theorem expr_read {m : Env → M PV} (h : tS K (fun env => bd (m env) fun _ => pr (.nx env)) D σ H) : tDrop (tE K m) D σ H := by
  obtain ⟨μ, ρ, st, env, o, st', er, sr, hf, post⟩ := h
  simp only [bd_some, pr_some] at hf
  obtain ⟨x, st1, h1, rfl, rfl⟩ := hf
  exact ⟨μ, ρ, st, env, x, st1, er, sr, h1, fun ρ1 H1 w k1 s1 r1 => post ρ1 H1 _ k1 s1 (er.mono k1)⟩
theorem ret_read {m : Env → M PV} (h : tS K (fun env => bd (m env) fun x => pr (.rt x)) D σ H) : tRet (tE K m) D σ H := by
  obtain ⟨μ, ρ, st, env, o, st', er, sr, hf, post⟩ := h
  simp only [bd_some, pr_some] at hf
  obtain ⟨x, st1, h1, rfl, rfl⟩ := hf
  exact ⟨μ, ρ, st, env, x, st1, er, sr, h1, fun ρ1 H1 w k1 s1 r1 => post ρ1 H1 _ k1 s1 r1⟩
theorem if_read {mc : Env → M Bool} {ma mb : Env → M Out} (h : tS K (fun env => bd (mc env) fun k => if k = true then ma env else mb env) D σ H) : tIfS (tT K mc) (tS K ma) (tS K mb) D σ H := by
  obtain ⟨μ, ρ, st, env, o, st', er, sr, hf, post⟩ := h
  simp only [bd_some] at hf
  obtain ⟨k, st1, h1, h2⟩ := hf
  refine ⟨μ, ρ, st, env, k, st1, er, sr, h1, fun ρ1 H1 k1 s1 => ?_⟩
  cases k with
  | true =>
    rw [if_pos rfl] at h2
    exact iteT ⟨μ, ρ1, st1, env, o, st', er.mono k1, s1, h2, post.mono k1⟩
  | false =>
    rw [if_neg Bool.false_ne_true] at h2
    exact iteF ⟨μ, ρ1, st1, env, o, st', er.mono k1, s1, h2, post.mono k1⟩
theorem seq_read {ma mb : Env → M Out} (h : tS K (fun env => bd (ma env) fun o => match o with
    | .nx env' => mb env'
    | o => pr o) D σ H) : tSeq (tS K ma) (tS K mb) D σ H := by
  obtain ⟨μ, ρ, st, env, o, st', er, sr, hf, post⟩ := h
  simp only [bd_some] at hf
  obtain ⟨o1, st1, h1, h2⟩ := hf
  refine ⟨μ, ρ, st, env, o1, st1, er, sr, h1, ?_⟩
  cases o1 with
  | nx env1 => exact fun ρ1 H1 σ1 k1 s1 e1 => ⟨μ, ρ1, st1, env1, o, st', e1, s1, h2, post.mono k1⟩
  | rt v =>
    obtain ⟨rfl, rfl⟩ := pr_some.mp h2
    exact post
  | bk env1 =>
    obtain ⟨rfl, rfl⟩ := pr_some.mp h2
    exact post
  | ct env1 =>
    obtain ⟨rfl, rfl⟩ := pr_some.mp h2
    exact post
theorem for_read {m : Env → M (List PV)} {ik : IK} {tg : LG} {body : Env → M Out} (h : tS K (fun env => bd (m env) fun vs => bd (iterM ik vs) fun xs => forL (still ik vs xs) tg body xs env) D σ H) : tFor (tI K ik m) (tG K tg) (tS K body) D σ H := by
  obtain ⟨μ, ρ, st, env, o, st', er, sr, hf, post⟩ := h
  simp only [bd_some, iterM_some] at hf
  obtain ⟨vs, st1, h1, xs, _, ⟨h2, rfl⟩, h3⟩ := hf
  refine ⟨μ, ρ, st, env, vs, st1, xs, er, sr, h1, h2, fun ρ1 H1 ws J k1 s1 rws wk => ?_⟩
  refine ⟨fun i m' σ' H' => m' = xs.length - i ∧ i ≤ xs.length ∧ ∃ ρ' st2 env2, Kp ρ1 H1 ρ' H' ∧ SR ⟨K, μ⟩ ρ' H' st2 ∧ ER ⟨K, μ⟩ ρ' H' env2 σ' ∧ forL (still ik vs xs) tg body (xs.drop i) env2 st2 = some (o, st'),
    ⟨xs.length, by simp, Nat.zero_le _, ρ1, st1, env, .refl, s1, er.mono k1, h3⟩, ?_⟩
  rintro i m' σ' H' ⟨rfl, hi, ρ', st2, env2, k', s', e', hl⟩
  have rws' := rws.mono k'
  cases hx : xs.drop i with
  | nil =>
    have ei : i = xs.length := by
      have := congrArg List.length hx
      simp at this
      omega
    subst ei
    rw [hx] at hl
    simp only [forL, bd_some, still_some, pr_some] at hl
    obtain ⟨_, _, ⟨h4, rfl⟩, rfl, rfl⟩ := hl
    obtain ⟨_, hstop, _⟩ := wk _ ρ' H' _ s' rws' h4
    exact .inl ⟨hstop, post ρ' H' σ' (k1.trans k') s' e'⟩
  | cons x rest =>
    have ei : i < xs.length := by
      have := congrArg List.length hx
      simp at this
      omega
    have hxi : xs[i]? = some x := by
      have h0 := congrArg (fun l => l[0]?) hx
      simpa [List.getElem?_drop] using h0
    have hr : xs.drop (i + 1) = rest := by
      have h0 := congrArg (List.drop 1) hx
      simpa [List.drop_drop] using h0
    rw [hx] at hl
    simp only [forL, bd_some, still_some, ofO_some] at hl
    obtain ⟨_, _, ⟨h4, rfl⟩, env', _, ⟨h5, rfl⟩, ob, st3, h6, h7⟩ := hl
    obtain ⟨hgo, _, hyld⟩ := wk _ ρ' H' _ s' rws' h4
    refine .inr ⟨hgo i ei, fun σ3 H3 => ∃ ρ3 st3 env3, Kp ρ1 H1 ρ3 H3 ∧ SR ⟨K, μ⟩ ρ3 H3 st3 ∧ ER ⟨K, μ⟩ ρ3 H3 env3 σ3 ∧ forL (still ik vs xs) tg body rest env3 st3 = some (o, st'), fun σ3 H3 ⟨ρ3, st3, env3, a1, a2, a3, a4⟩ => ⟨xs.length - (i + 1), by omega, rfl, ei, ρ3, st3, env3, a1, a2, a3, by rw [hr]; exact a4⟩, fun x' H2 hy => ?_⟩
    obtain ⟨k2, s2, p, hp, rp⟩ := hyld i x' H2 ei hy
    rw [hxi] at hp
    cases hp
    refine ⟨μ, ρ', env2, x, env', e'.mono k2, rp, h5, fun σ4 er4 _ _ => ⟨μ, ρ', st2, env', ob, st3, er4, s2, h6, ?_⟩⟩
    cases ob with
    | nx env5 => exact fun ρ5 H5 σ5 k5 s5 e5 => ⟨ρ5, st3, env5, (k'.trans k2).trans k5, s5, e5, h7⟩
    | ct env5 => exact fun ρ5 H5 σ5 k5 s5 e5 => ⟨ρ5, st3, env5, (k'.trans k2).trans k5, s5, e5, h7⟩
    | bk env5 =>
      obtain ⟨rfl, rfl⟩ := pr_some.mp h7
      exact fun ρ5 H5 σ5 k5 s5 e5 => post ρ5 H5 σ5 ((k1.trans (k'.trans k2)).trans k5) s5 e5
    | rt v =>
      obtain ⟨rfl, rfl⟩ := pr_some.mp h7
      exact fun ρ5 H5 w k5 s5 e5 => post ρ5 H5 w ((k1.trans (k'.trans k2)).trans k5) s5 e5
theorem whl_read {mc : Env → M Bool} {body : Env → M Out} {n : Nat} (h : tS K (fun env => whlL mc body n env) D σ H) : tWhile (tT K mc) (tS K body) D σ H := by
  obtain ⟨μ, ρ, st, env, o, st', er, sr, hf, post⟩ := h
  refine ⟨fun m' σ' H' => ∃ ρ' st2 env2, Kp ρ H ρ' H' ∧ SR ⟨K, μ⟩ ρ' H' st2 ∧ ER ⟨K, μ⟩ ρ' H' env2 σ' ∧ whlL mc body m' env2 st2 = some (o, st'), ⟨n, ρ, st, env, .refl, sr, er, hf⟩, ?_⟩
  rintro m' σ' H' ⟨ρ', st2, env2, k', s', e', hl⟩
  cases m' with
  | zero => simp [whlL, no] at hl
  | succ m' =>
    simp only [whlL, bd_some] at hl
    obtain ⟨b, st3, h1, h2⟩ := hl
    refine ⟨μ, ρ', st2, env2, b, st3, e', s', h1, fun ρ1 H1 k1 s1 => ?_⟩
    cases b with
    | false =>
      rw [if_neg Bool.false_ne_true] at h2
      obtain ⟨rfl, rfl⟩ := pr_some.mp h2
      exact iteF (post ρ1 H1 σ' (k'.trans k1) s1 (e'.mono k1))
    | true =>
      rw [if_pos rfl] at h2
      simp only [bd_some] at h2
      obtain ⟨ob, st4, h3, h4⟩ := h2
      refine iteT ⟨fun σ3 H3 => ∃ ρ3 st3 env3, Kp ρ H ρ3 H3 ∧ SR ⟨K, μ⟩ ρ3 H3 st3 ∧ ER ⟨K, μ⟩ ρ3 H3 env3 σ3 ∧ whlL mc body m' env3 st3 = some (o, st'), fun σ3 H3 q => ⟨m', Nat.lt_succ_self _, q⟩, μ, ρ1, st3, env2, ob, st4, e'.mono k1, s1, h3, ?_⟩
      cases ob with
      | nx env5 => exact fun ρ5 H5 σ5 k5 s5 e5 => ⟨ρ5, st4, env5, (k'.trans k1).trans k5, s5, e5, h4⟩
      | ct env5 => exact fun ρ5 H5 σ5 k5 s5 e5 => ⟨ρ5, st4, env5, (k'.trans k1).trans k5, s5, e5, h4⟩
      | bk env5 =>
        obtain ⟨rfl, rfl⟩ := pr_some.mp h4
        exact fun ρ5 H5 σ5 k5 s5 e5 => post ρ5 H5 σ5 ((k'.trans k1).trans k5) s5 e5
      | rt v =>
        obtain ⟨rfl, rfl⟩ := pr_some.mp h4
        exact fun ρ5 H5 w k5 s5 e5 => post ρ5 H5 w ((k'.trans k1).trans k5) s5 e5
end
theorem sw_eq {elt : Expr} {gs : List Comprehension} {sc scope : Scope} {pos py : Pos} {y : Str} {l : Nat} {env : PySem.Env} (hs : env.scope = sc) (hk : sc.kind = .function) : swapsWith (.ListComp elt gs scope pos) (some (.Name y py)) l env = pure (swB sc scope y py pos) := by
  have hb : env.blockKind = .function := by unfold Env.blockKind; rw [hs, hk]; rfl
  have hy : env.kindOf y = sc.names.lookup y := by rw [← hs]; rfl
  unfold swapsWith swB
  simp only [hb, hy]
  rfl
theorem comp_sw {v : Expr} {tg : Option Expr} {l : Nat} {env : PySem.Env} (h : compB v = false) : swapsWith v tg l env = pure false := by
  cases v <;> first | rfl | (simp [compB] at h; done)
end Lt

/-! Lt16: statements, all of them. -/
namespace Lt
open PySem PySem.Spec PyProof.Rows L2
theorem spArgs_lc {T : Tab} {sc : Scope} {s : SP} {a : Expr} {b : List Comprehension} {c : Scope} {d : Pos} : spArgs T sc s (.ListComp a b c d) = none := by cases s <;> rfl
theorem spArgs_tup {T : Tab} {sc : Scope} {s : SP} {a : List Expr} {b : Nat} {d : Pos} : spArgs T sc s (.Tuple a b d) = none := by cases s <;> rfl
theorem locO_of {sc : Scope} {x : Str} (h : locO sc x = true) : sc.names.lookup x = some .local := by
  unfold locO at h
  split at h
  · assumption
  · cases h
theorem chkG_notStar {N : List Str} {sc : Scope} {g : LG} {e : Expr} (h : chkG N sc g e = true) : notStar e = true := by
  cases g <;> cases e <;> first | rfl | (simp [chkG] at h; done)
theorem chkPar_inv {N : List Str} {sc : Scope} {tg : LG} {tg' v : Expr} (h : chkPar N sc tg tg' v = true) : ∃ (i j : Nat) (x : Str) (px : Pos) (y : Str) (py : Pos) (kt : Nat) (pt : Pos) (a b : Expr) (k2 : Nat) (pt2 : Pos),
    tg = .tup [.name i, .name j] ∧ tg' = .Tuple [.Name x px, .Name y py] kt pt ∧ v = .Tuple [a, b] k2 pt2 ∧ N[i]? = some x ∧ N[j]? = some y ∧ i ≠ j ∧ x ≠ y ∧ locO sc x = true ∧ locO sc y = true ∧ (px.line == py.line) = true ∧
      notStar a = true ∧ notStar b = true ∧ [a, b].all (foldedForSure 8) = false ∧ [a, b].all (constantsAlone 8) = false := by
  unfold chkPar at h
  split at h
  · simp only [Bool.and_eq_true, decide_eq_true_eq, Bool.not_eq_true'] at h
    obtain ⟨⟨⟨⟨⟨⟨⟨⟨⟨⟨h1, h2⟩, h3⟩, h4⟩, h5⟩, h6⟩, h7⟩, h8⟩, h9⟩, h10⟩, h11⟩ := h
    exact ⟨_, _, _, _, _, _, _, _, _, _, _, _, rfl, rfl, rfl, h1, h2, h3, h4, h5, h6, h7, h8, h9, h10, h11⟩
  · cases h
theorem par_sw {x y : Str} {px py pt pt2 : Pos} {kt k2 : Nat} {a b : Expr} {env : PySem.Env} (hk : env.scope.kind = .function) (hx : env.scope.names.lookup x = some .local) (hy : env.scope.names.lookup y = some .local) (hn : x ≠ y) (hl : (px.line == py.line) = true)
    (ha : notStar a = true) (hb : notStar b = true) (h1 : [a, b].all (foldedForSure 8) = false) (h2 : [a, b].all (constantsAlone 8) = false) :
    swappedStores [.Tuple [.Name x px, .Name y py] kt pt] (.Tuple [a, b] k2 pt2) env = pure (some [x, y]) := by
  have e1 : env.kindOf x = some .local := hx
  have e2 : env.kindOf y = some .local := hy
  have e3 : env.blockKind = .function := by unfold Env.blockKind; rw [hk]; rfl
  have e4 : ([a, b].any fun | .Starred .. => true | _ => false) = false := by
    cases a <;> first | (simp [notStar] at ha; done) | (cases b <;> first | rfl | (simp [notStar] at hb; done))
  have e5 : (py.line == px.line) = true := by rw [beq_iff_eq] at hl ⊢; exact hl.symm
  have e6 : [x, y].eraseDups = [x, y] := by
    have : (y == x) = false := by rw [beq_eq_false_iff_ne]; exact Ne.symm hn
    simp [List.eraseDups, List.eraseDupsBy, List.eraseDupsBy.loop, this, List.elem]
  unfold swappedStores
  simp only [e3, e4, h1, h2, Expr.pos]
  simp [List.filterMap, e1, e2, e5, e6]
  rintro (h | h)
  · exfalso
    cases a <;> first | (simp [notStar] at ha; done) | (simp at h; done)
  · exfalso
    cases b <;> first | (simp [notStar] at hb; done) | (simp at h; done)
section
variable {T : Tab} {fu k : Nat} {N : List Str} {sc : Scope} {X : Cx}
/-- name = [..] -/
theorem lc_set (L : LX T fu k N sc sc X) (hk : sc.kind = .function) {e : LE} {tg : LG} {v : Expr} {tg' : Expr} {pos : Pos} (hg : chkG N sc tg tg' = true) (he : chkE T N sc e v = true)
    (hm : nameComp tg' v = true) : PS X (.Assign [tg'] v pos) (tS X.K (evS (T.rg fu k) (.set tg e))) := by
  cases tg' <;> (try simp only [nameComp] at hm) <;> try (exact absurd hm Bool.false_ne_true)
  case Name y py =>
    cases v <;> (try simp only [nameComp] at hm) <;> try (exact absurd hm Bool.false_ne_true)
    case ListComp elt gs scope p2 =>
      have sw : ∀ l, swapsWith (.ListComp elt gs scope p2) (some (.Name y py)) l X.env = pure (swB sc scope y py p2) := fun l => sw_eq L.hsc hk
      cases hb : swB sc scope y py p2 with
      | false =>
        refine PS_imp (ps_asg (pe_ok e _ sc sc X L he).1 (pg_ok L tg _ hg) (by rw [← hb]; exact sw pos.line) rfl rfl) fun D σ H q => set_read q
      | true =>
        cases tg <;> simp only [chkG] at hg <;> try (exact absurd hg Bool.false_ne_true)
        rename_i i
        simp only [Bool.and_eq_true, decide_eq_true_eq] at hg
        have hy : X.env.scope.names.lookup y = some .local := by
          rw [L.hsc]
          unfold swB at hb
          simp only [Bool.and_eq_true] at hb
          simpa using hb.1.1
        cases e <;> (try simp only [chkE] at he) <;> (try (exact absurd he Bool.false_ne_true)) <;> (try (simp [spArgs_lc] at he; done))
        rename_i e tg2 ik its ifs own
        match gs, he with
        | [⟨tg', it', ifs', as⟩], he =>
          simp only [chkE, Bool.and_eq_true, decide_eq_true_eq] at he
          obtain ⟨⟨⟨⟨⟨⟨⟨⟨⟨⟨rfl, h2⟩, h3⟩, h4⟩, h5⟩, h6⟩, h7⟩, h8⟩, h9⟩, h10⟩, h11⟩ := he
          have hown : ∀ i ∈ tg2.slots, i ∈ own := fun i hi => by
            have := List.all_eq_true.mp h6 i hi
            exact of_decide_eq_true this
          cases hit : iterArgs T sc ik tg' it' with
          | none => rw [hit] at h7; exact absurd h7 Bool.false_ne_true
          | some ies =>
            rw [hit] at h7
            have qi := pl_ok its ies sc sc X L h7
            have pi := pi_ok L hit qi.pa qi.ns (fun le e' e1 e2 => (qi.one le e' e1 e2).1) qi.len
            have ok : BlkOk X.N X.env.scope scope (ownOf N own) := by rw [L.hN, L.hsc]; exact blkOk_by h3
            have lb : ∀ (s : Shared) (H : Hp) (C : Addr) (cl : List (Str × Addr)) (fp : List Addr), LX T fu k N (relS scope sc) scope (X.blk s H scope (compEnvC scope cl C X.env) fp) := fun s H C cl fp => L.blk
            refine PS_imp (ps_setLc (g := tG X.K tg2) (tt := tT X.K (fun en => evIfs (T.rg fu k) ifs en)) (te := tE X.K (ev (T.rg fu k) e)) L.calm (by rw [L.hN]; exact L.nd) (by rw [L.hN]; exact hg.1) hy (by rw [sw, hb]) pi ok
              (fun s H C cl fp => pg_ok (lb s H C cl fp) tg2 tg' h5) (fun s H C cl fp => pts_ok (pl_ok ifs ifs' _ _ _ (lb s H C cl fp) h8) h9 h10) (fun s H C cl fp => (pe_ok e elt _ _ _ (lb s H C cl fp) h11).1) (notSet_fold h2)) fun D σ H q => ?_
            have q2 := set_read (m := ev (T.rg fu k) (.lc e tg2 ik its ifs own)) (tg := .name i) q
            rw [h4]
            refine lc_read hown ?_
            obtain ⟨μ, ρ, st, env, p, st', er, sr, hf, post⟩ := q2
            refine ⟨μ, ρ, st, env, p, st', er, sr, hf, fun ρ' H' w k' s' r' => ?_⟩
            obtain ⟨μ2, ρ2, env2, p2, env3, er2, rp2, ha, fin⟩ := post ρ' H' w k' s' r'
            simp only [asg] at ha
            split at ha
            · simp only [Option.some.injEq] at ha
              subst ha
              exact fin _ (er2.set rp2) (by simp) fun j hj => by
                simp only [LG.slots, List.mem_singleton] at hj
                rw [List.getElem?_set_ne (Ne.symm hj)]
            · cases ha
theorem set_ok (L : LX T fu k N sc sc X) (hk : sc.kind = .function) {tg : LG} {e : LE} {s' : Stmt} (h : chkS T N sc (.set tg e) s' = true) : PS X s' (tS X.K (evS (T.rg fu k) (.set tg e))) := by
  cases s' with
  | Assign tgs v pos =>
    rcases tgs with _ | ⟨tg', _ | ⟨tg2, tgs⟩⟩
    · simp only [chkS] at h; exact absurd h Bool.false_ne_true
    · simp only [chkS, Bool.and_eq_true, Bool.or_eq_true] at h
      obtain ⟨he, h | h⟩ := h
      · obtain ⟨hg, h | h⟩ := h
        · simp only [Bool.and_eq_true, Bool.not_eq_true'] at h
          have hw : swappedStores [tg'] v X.env = pure none := by
            cases tg <;> cases tg' <;> (try simp only [chkG] at hg) <;> (try (exact absurd hg Bool.false_ne_true)) <;> cases v <;> first | rfl | (simp [tupB] at h; done)
          refine PS_imp (ps_asg (pe_ok e v sc sc X L he).1 (pg_ok L tg tg' hg) (comp_sw h.1) hw (by rw [assignEach_cons (chkG_notStar hg)]; rfl)) fun D σ H q => set_read q
        · exact lc_set L hk hg he h
      · obtain ⟨i, j, x, px, y, py, kt, pt, a, b, k2, pt2, rfl, rfl, rfl, h1, h2, h3, h4, h5, h6, h7, h8, h9, h10, h11⟩ := chkPar_inv h
        cases e <;> (try simp only [chkE] at he) <;> (try (exact absurd he Bool.false_ne_true)) <;> (try (simp [spArgs_tup] at he; done))
        rename_i es
        have q := pl_ok es [a, b] sc sc X L he
        have hx : X.env.scope.names.lookup x = some .local := by rw [L.hsc]; exact locO_of h5
        have hy : X.env.scope.names.lookup y = some .local := by rw [L.hsc]; exact locO_of h6
        exact PS_imp (ps_par L.calm (by rw [L.hN]; exact L.nd) (by rw [L.hN]; exact h1) (by rw [L.hN]; exact h2) h3 hx hy q.pa (par_sw (by rw [L.hsc]; exact hk) hx hy h4 h7 h8 h9 h10 h11) rfl) fun D σ H q => par_read (m := evs (T.rg fu k) es) q
    · simp only [chkS] at h; exact absurd h Bool.false_ne_true
  | _ => simp only [chkS] at h; exact absurd h Bool.false_ne_true
theorem setI_core (L : LX T fu k N sc sc X) {o i e : LE} {o' i' v : Expr} {p2 pos : Pos} (h : chkS T N sc (.setI o i e) (.Assign [.Subscript o' i' p2] v pos) = true) : PS X (.Assign [.Subscript o' i' p2] v pos) (tS X.K (evS (T.rg fu k) (.setI o i e))) := by
      simp only [chkS, Bool.and_eq_true, Bool.not_eq_true'] at h
      obtain ⟨⟨⟨⟨h1, h2⟩, h3⟩, h4⟩, h5⟩ := h
      have hg : PG X (.Subscript o' i' p2) (gSub (tE X.K (ev (T.rg fu k) o)) (tE X.K (ev (T.rg fu k) i)) (rS X.K)) := pg_sub (pe_ok o o' sc sc X L h4).1 (pe_ok i i' sc sc X L h5).1 (ps_all (by have := L.room.un; omega)) (by
        intro v
        cases i' <;> first | rfl | (simp [notSlice] at h2; done))
      refine PS_imp (ps_asg (pe_ok e v sc sc X L h3).1 hg (by cases v <;> first | rfl | (simp [compB] at h1; done)) (by cases v <;> rfl) rfl) fun D σ H q => setI_read q
theorem chkS_setI2 {o i e : LE} {a b v : Expr} {c : List Expr} {pos : Pos} : chkS T N sc (.setI o i e) (.Assign (a :: b :: c) v pos) = false := by
  cases a <;> rfl
theorem setI_ok (L : LX T fu k N sc sc X) {o i e : LE} {s' : Stmt} (h : chkS T N sc (.setI o i e) s' = true) : PS X s' (tS X.K (evS (T.rg fu k) (.setI o i e))) := by
  cases s' with
  | Assign tgs v pos =>
    rcases tgs with _ | ⟨tg', _ | ⟨tg2, tgs⟩⟩
    · simp only [chkS] at h; exact absurd h Bool.false_ne_true
    · cases tg' with
      | Subscript o' i' p2 => exact setI_core L h
      | _ => simp only [chkS] at h; exact absurd h Bool.false_ne_true
    · rw [chkS_setI2] at h; exact absurd h Bool.false_ne_true
  | _ => simp only [chkS] at h; exact absurd h Bool.false_ne_true
mutual
theorem ps_ok (L : LX T fu k N sc sc X) (hk : sc.kind = .function) : ∀ (s : LS) (s' : Stmt), chkS T N sc s s' = true → PS X s' (tS X.K (evS (T.rg fu k) s))
  | .set tg e, s', h => set_ok L hk h
  | .setI o i e, s', h => setI_ok L h
  | .expr e, s', h => by
    cases s' with
    | Expr v pos =>
      simp only [chkS, Bool.and_eq_true, Bool.not_eq_true'] at h
      exact PS_imp (ps_expr (pe_ok e v sc sc X L h.2).1 (comp_sw h.1)) fun D σ H q => expr_read q
    | _ => simp only [chkS] at h; exact absurd h Bool.false_ne_true
  | .ret e, s', h => by
    cases s' with
    | Return v pos =>
      cases v with
      | none => simp only [chkS] at h; exact absurd h Bool.false_ne_true
      | some v =>
        simp only [chkS] at h
        exact PS_imp (ps_ret (pe_ok e v sc sc X L h).1) fun D σ H q => ret_read q
    | _ => simp only [chkS] at h; exact absurd h Bool.false_ne_true
  | .retN, s', h => by
    cases s' with
    | Return v pos =>
      cases v with
      | some v => simp only [chkS] at h; exact absurd h Bool.false_ne_true
      | none =>
        refine PS_imp ps_retN fun D σ H q => ?_
        obtain ⟨μ, ρ, st, env, o, st', er, sr, hf, post⟩ := q
        simp only [evS, pr_some] at hf
        obtain ⟨rfl, rfl⟩ := hf
        exact post ρ H _ .refl sr (by simp only [Rep])
    | _ => simp only [chkS] at h; exact absurd h Bool.false_ne_true
  | .ife c a b, s', h => by
    cases s' with
    | If c' a' b' pos =>
      simp only [chkS, Bool.and_eq_true] at h
      exact PS_imp (ps_if ((pe_ok c c' sc sc X L h.1.1.2).2 h.1.1.1) (pss_ok L hk a a' h.1.2) (pss_ok L hk b b' h.2)) fun D σ H q => if_read q
    | _ => simp only [chkS] at h; exact absurd h Bool.false_ne_true
  | .for_ tg ik its body, s', h => by
    cases s' with
    | For tg' it' body' els pos =>
      cases els with
      | cons _ _ => simp only [chkS] at h; exact absurd h Bool.false_ne_true
      | nil =>
        simp only [chkS, Bool.and_eq_true] at h
        obtain ⟨⟨⟨h1, h2⟩, h3⟩, h4⟩ := h
        cases hit : iterArgs T sc ik tg' it' with
        | none => rw [hit] at h3; exact absurd h3 Bool.false_ne_true
        | some ies =>
          rw [hit] at h3
          have qi := pl_ok its ies sc sc X L h3
          have pi := pi_ok L hit qi.pa qi.ns (fun le e' e1 e2 => (qi.one le e' e1 e2).1) qi.len
          exact PS_imp (ps_for (by rw [L.xe]; exact PassesOwn.never) L.calm pi (pg_ok L tg tg' h2) (pss_ok L hk body body' h4) (notSet_fold h1)) fun D σ H q => for_read (m := evs (T.rg fu k) its) q
    | _ => simp only [chkS] at h; exact absurd h Bool.false_ne_true
  | .whl c body, s', h => by
    cases s' with
    | While c' body' els pos =>
      cases els with
      | cons _ _ => simp only [chkS] at h; exact absurd h Bool.false_ne_true
      | nil =>
        simp only [chkS, Bool.and_eq_true] at h
        exact PS_imp (ps_while (by rw [L.xe]; exact PassesOwn.never) ((pe_ok c c' sc sc X L h.1.2).2 h.1.1) (pss_ok L hk body body' h.2)) fun D σ H q => whl_read q
    | _ => simp only [chkS] at h; exact absurd h Bool.false_ne_true
  | .brk, s', h => by
    cases s' with
    | Break pos =>
      refine PS_imp ps_break fun D σ H q => ?_
      obtain ⟨μ, ρ, st, env, o, st', er, sr, hf, post⟩ := q
      simp only [evS, pr_some] at hf
      obtain ⟨rfl, rfl⟩ := hf
      exact post ρ H σ .refl sr er
    | _ => simp only [chkS] at h; exact absurd h Bool.false_ne_true
  | .cnt, s', h => by
    cases s' with
    | Continue pos =>
      refine PS_imp ps_continue fun D σ H q => ?_
      obtain ⟨μ, ρ, st, env, o, st', er, sr, hf, post⟩ := q
      simp only [evS, pr_some] at hf
      obtain ⟨rfl, rfl⟩ := hf
      exact post ρ H σ .refl sr er
    | _ => simp only [chkS] at h; exact absurd h Bool.false_ne_true
  | .pas, s', h => by
    cases s' with
    | Pass pos =>
      refine PS_imp ps_pass fun D σ H q => ?_
      obtain ⟨μ, ρ, st, env, o, st', er, sr, hf, post⟩ := q
      simp only [evS, pr_some] at hf
      obtain ⟨rfl, rfl⟩ := hf
      exact post ρ H σ .refl sr er
    | _ => simp only [chkS] at h; exact absurd h Bool.false_ne_true
theorem pss_ok (L : LX T fu k N sc sc X) (hk : sc.kind = .function) : ∀ (ss : List LS) (ss' : List Stmt), chkSs T N sc ss ss' = true → PSs X ss' (tS X.K (evSs (T.rg fu k) ss))
  | [], [], h => by
    refine PSs_imp pss_nil fun D σ H q => ?_
    obtain ⟨μ, ρ, st, env, o, st', er, sr, hf, post⟩ := q
    simp only [evSs, pr_some] at hf
    obtain ⟨rfl, rfl⟩ := hf
    exact post ρ H σ .refl sr er
  | [], _ :: _, h => by simp [chkSs] at h
  | _ :: _, [], h => by simp [chkSs] at h
  | s :: ss, s' :: ss', h => by
    simp only [chkSs, Bool.and_eq_true] at h
    exact PSs_imp (pss_cons (ps_ok L hk s s' h.1) (pss_ok L hk ss ss' h.2)) fun D σ H q => seq_read q
end
end
end Lt

/-! Lt17: defs, calls of any depth, the law. -/
namespace Lt
open PySem PySem.Spec PyProof.Rows L2
structure DefF (T : Tab) (K : PySem.W.Frag) (mg : Str → Option Value) (x : Str) (d : Df) : Prop where
  ex : ∃ (a : Addr) (fd : FuncData) (st : Stmt) (N ps : List Str), mg x = some (.ref a) ∧ Fun K x x st a fd ∧ Binds K fd ps [] ∧ ps.length = d.par ∧ N.length = d.nam ∧ FnScope N ps (defScope st) ∧ chkSs T N (defScope st) d.body (defBody st) = true
structure GlF (K : PySem.W.Frag) (mg : Str → Option Value) (x : Str) (p : PV) : Prop where
  ex : ∃ u v, mg x = some u ∧ RelV v u ∧ ∀ μ ρ H, Rep ⟨K, μ⟩ ρ H p v
structure Facts (T : Tab) (K : PySem.W.Frag) (mg : Str → Option Value) : Prop where
  fns : ∀ p ∈ T.fn, DefF T K mg p.1 p.2
  gls : ∀ p ∈ T.gl, GlF K mg p.1 p.2
  bis : ∀ x ∈ T.bn, mg x = none
theorem facts_nil {α : Type} {P : α → Prop} : ∀ p ∈ ([] : List α), P p := fun _ h => absurd h (by simp)
theorem facts_cons {α : Type} {P : α → Prop} {a : α} {l : List α} (h : P a) (t : ∀ p ∈ l, P p) : ∀ p ∈ a :: l, P p := fun p hp => by
  rcases List.mem_cons.mp hp with rfl | hp
  · exact h
  · exact t p hp
theorem body_read {K : PySem.W.Frag} {T : Tab} {fu k f : Nat} {x : Str} {d : Df} (hf : T.fn[f]? = some (x, d)) {N : List Str} (hN : N.length = d.nam) {vs : List V} {H : Hp} {Q : VK} {E : XK} (h : spF K d.par ((T.rg fu (k + 1)).fn f) vs H Q E) :
    tS K (evSs (T.rg fu k) d.body) { nx := fun _ H' => Q .non H', rt := Q } (L2.start N vs) H := by
  obtain ⟨hl, μ, ρ, st, ps, p, st', rs, sr, hg, post⟩ := h
  simp only [Tab.rg, mean] at hg
  rw [List.getElem?_map, hf] at hg
  simp only [Option.map_some, runDf] at hg
  split at hg
  · rename_i hp
    simp only [bd_some] at hg
    obtain ⟨o, st1, h1, h2⟩ := hg
    refine ⟨μ, ρ, st, ps.map some ++ List.replicate (d.nam - d.par) none, o, st1, ?_, sr, h1, ?_⟩
    · unfold L2.start
      have e1 : N.length - vs.length = d.nam - d.par := by rw [hN, hl]
      rw [e1]
      refine ⟨by simp [rs.length], fun i q e => ?_⟩
      by_cases hi : i < ps.length
      · rw [List.getElem?_append_left (by simpa using hi), List.getElem?_map, Option.map_eq_some_iff] at e
        obtain ⟨q', e1, e2⟩ := e
        cases e2
        obtain ⟨v, e3, e4⟩ := rs.get e1
        refine ⟨v, ?_, e4⟩
        rw [List.getElem?_append_left (by rw [List.length_map, ← rs.length]; exact hi), List.getElem?_map, e3]
        rfl
      · rw [List.getElem?_append_right (by simpa using hi)] at e
        have := List.mem_of_getElem? e
        rw [List.mem_replicate] at this
        cases this.2
    · cases o with
      | nx env =>
        obtain ⟨rfl, rfl⟩ := pr_some.mp h2
        exact fun ρ' H' σ' k' s' e' => post ρ' H' .non k' s' (by simp only [Rep])
      | rt v =>
        obtain ⟨rfl, rfl⟩ := pr_some.mp h2
        exact fun ρ' H' w k' s' e' => post ρ' H' w k' s' e'
      | bk env => cases h2
      | ct env => cases h2
  · cases hg
section
variable {P : Program} {w : World} {K : PySem.W.Frag} {mg : Str → Option Value} {base : Heap} {T : Tab} {fu : Nat}
theorem def_ok (F : Facts T K mg) {k f : Nat} {x : Str} {d : Df} (ih : ∀ (f : Nat) (x : Str) (d : Df), T.fn[f]? = some (x, d) →
    ∃ a fd ps, mg x = some (.ref a) ∧ PySem.W.keepIn K (.ref a) = true ∧ Binds K fd ps [] ∧ ps.length = d.par ∧ FnOk P w K mg base CX0 k a fd ps (spF K d.par ((T.rg fu k).fn f)))
    (hf : T.fn[f]? = some (x, d)) {a : Addr} {fd : FuncData} {st : Stmt} {N ps : List Str} (h2 : Fun K x x st a fd) (h4 : ps.length = d.par) (h5 : N.length = d.nam) (h6 : FnScope N ps (defScope st)) (h7 : chkSs T N (defScope st) d.body (defBody st) = true) :
    FnOk P w K mg base CX0 (k + 1) a fd ps (spF K d.par ((T.rg fu (k + 1)).fn f)) := by
  refine h2.ok h6 (fun vs H Q E h => by rw [h4]; exact h.1) fun cdv A outer s H vs Q E hr h => ?_
  have L : LX T fu k N (defScope st) (defScope st) (cxOf CX0 P w K mg base N x (defScope st) a cdv A outer s H E).nox := by
    refine ⟨rfl, h6.nd, rfl, rfl, hr, rfl, fun y hy => ⟨hy, .inl rfl⟩, fun f x d hf => ?_, fun g x p hg => ?_, F.bis⟩
    · exact ih f x d hf
    · exact (F.gls _ (List.mem_of_getElem? hg)).ex
  exact ⟨_, pss_ok L h6.kind _ _ h7, body_read hf h5 h⟩
theorem all_ok (F : Facts T K mg) : ∀ (k f : Nat) (x : Str) (d : Df), T.fn[f]? = some (x, d) →
    ∃ a fd ps, mg x = some (.ref a) ∧ PySem.W.keepIn K (.ref a) = true ∧ Binds K fd ps [] ∧ ps.length = d.par ∧ FnOk P w K mg base CX0 k a fd ps (spF K d.par ((T.rg fu k).fn f)) := by
  intro k
  induction k with
  | zero =>
    intro f x d hf
    obtain ⟨a, fd, st, N, ps, h1, h2, h3, h4, h5, h6, h7⟩ := (F.fns _ (List.mem_of_getElem? hf)).ex
    refine ⟨a, fd, ps, h1, h2.kp, h3, h4, fun vs H Q E h => by rw [h4]; exact h.1, fun A outer s H args us vs Q E hr he hb hv h => ?_⟩
    obtain ⟨_, μ, ρ, st, ps, p, st', _, _, hg, _⟩ := h
    simp [Tab.rg, mean, no] at hg
  | succ k ih =>
    intro f x d hf
    obtain ⟨a, fd, st, N, ps, h1, h2, h3, h4, h5, h6, h7⟩ := (F.fns _ (List.mem_of_getElem? hf)).ex
    exact ⟨a, fd, ps, h1, h2.kp, h3, h4, def_ok F ih hf h2 h4 h5 h6 h7⟩
theorem law_ok (F : Facts T K mg) (k : Nat) {f : Nat} {x : Str} {d : Df} (hf : T.fn[f]? = some (x, d)) {a : Addr} {fd : FuncData} {st : Stmt} {N ps : List Str} (h2 : Fun K x x st a fd) (h4 : ps.length = d.par) (h5 : N.length = d.nam) (h6 : FnScope N ps (defScope st)) (h7 : chkSs T N (defScope st) d.body (defBody st) = true) :
    FnOk P w K mg base CX0 (k + 1) a fd ps (spF K d.par ((T.rg fu (k + 1)).fn f)) := def_ok F (all_ok F k) hf h2 h4 h5 h6 h7
/-- the law's promise -/
theorem sp_law {g : List PV → M PV} {H : Hp} {a : Addr} {ns : List Int} (hS : SqL K H a (ns.map V.int)) (h : ∃ st', g [.lst (ns.map .int)] [] = some (.bl true, st')) : spF K 1 g [.ref a] H (fun v _ => v = .bl true) fun _ _ _ => False := by
  obtain ⟨st', h⟩ := h
  refine ⟨rfl, [], [], [], [.lst (ns.map .int)], .bl true, st', ?_, ⟨rfl, List.nodup_nil, fun i a c h => by simp at h, fun a h => by simp at h, fun a h => by simp at h⟩, h, fun ρ' H' w _ _ r => by simpa only [Rep] using r⟩
  have hr : ∀ ns : List Int, Reps ⟨K, []⟩ [] H (ns.map .int) (ns.map V.int) := by
    intro ns
    induction ns with
    | nil => exact .nil
    | cons x r ih => exact .cons (by simp only [Rep]) ih
  refine .cons ?_ .nil
  simp only [Rep]
  refine ⟨a, ns.map V.int, rfl, ?_, hr ns⟩
  rcases hS with h | h
  · exact .inl ⟨h, by simp, by simp⟩
  · exact .inr h
end
theorem small_arr {α : Type} {xs : List α} (h : xs.length ≤ 1000) : xs.toArray.size ≤ sizeLine := by
  rw [List.size_toArray, ← SL_eq]
  unfold SL
  omega
end Lt

/-! Lt18: reasoning about what is said: what a run gives, and what holds behind it. -/
namespace Lt
def Wp {α : Type} (m : M α) (st : Store) (Q : α → Store → Prop) : Prop := ∃ a st', m st = some (a, st') ∧ Q a st'
section
variable {α β : Type} {st : Store}
theorem Wp.mono {m : M α} {Q Q' : α → Store → Prop} (h : Wp m st Q) (i : ∀ a st', Q a st' → Q' a st') : Wp m st Q' := by
  obtain ⟨a, st', e, q⟩ := h
  exact ⟨a, st', e, i a st' q⟩
theorem wp_pr {a : α} {Q : α → Store → Prop} : Wp (pr a) st Q ↔ Q a st := by
  constructor
  · rintro ⟨b, st', e, q⟩
    obtain ⟨rfl, rfl⟩ := pr_some.mp e
    exact q
  · exact fun q => ⟨a, st, rfl, q⟩
theorem wp_no {Q : α → Store → Prop} : Wp (no : M α) st Q ↔ False := by
  constructor
  · rintro ⟨b, st', e, q⟩
    exact no_some.mp e
  · exact fun q => q.elim
theorem wp_bd {m : M α} {k : α → M β} {Q : β → Store → Prop} : Wp (bd m k) st Q ↔ Wp m st fun a st' => Wp (k a) st' Q := by
  constructor
  · rintro ⟨b, st', e, q⟩
    obtain ⟨a, st1, e1, e2⟩ := bd_some.mp e
    exact ⟨a, st1, e1, b, st', e2, q⟩
  · rintro ⟨a, st1, e1, b, st', e2, q⟩
    exact ⟨b, st', bd_some.mpr ⟨a, st1, e1, e2⟩, q⟩
theorem wp_grd {p : Prop} {Q : Unit → Store → Prop} : Wp (grd p) st Q ↔ p ∧ Q () st := by
  constructor
  · rintro ⟨b, st', e, q⟩
    obtain ⟨h, rfl⟩ := grd_some.mp e
    exact ⟨h, q⟩
  · exact fun ⟨h, q⟩ => ⟨(), st, grd_some.mpr ⟨h, rfl⟩, q⟩
theorem wp_ofO {o : Option α} {Q : α → Store → Prop} : Wp (ofO o) st Q ↔ ∃ a, o = some a ∧ Q a st := by
  constructor
  · rintro ⟨b, st', e, q⟩
    obtain ⟨h, rfl⟩ := ofO_some.mp e
    exact ⟨b, h, q⟩
  · exact fun ⟨a, h, q⟩ => ⟨a, st, ofO_some.mpr ⟨h, rfl⟩, q⟩
theorem wp_ite {c : Prop} [Decidable c] {m n : M α} {Q : α → Store → Prop} : Wp (if c then m else n) st Q ↔ if c then Wp m st Q else Wp n st Q := by split <;> rfl
end
section
variable {R : Rg} {env : Env} {st : Store} {Q : PV → Store → Prop}
theorem wp_var {i : Nat} : Wp (ev R (.var i) env) st Q ↔ ∃ v, env[i]? = some (some v) ∧ Q v st := by
  simp only [ev]
  constructor
  · rintro ⟨b, st', e, q⟩
    obtain ⟨h, rfl⟩ := getV_some.mp e
    exact ⟨b, h, q⟩
  · exact fun ⟨a, h, q⟩ => ⟨a, st, getV_some.mpr ⟨h, rfl⟩, q⟩
theorem wp_cst {v : PV} : Wp (ev R (.cst v) env) st Q ↔ Q v st := by simp only [ev, wp_pr]
theorem wp_glob {g : Nat} : Wp (ev R (.glob g) env) st Q ↔ ∃ v, R.gl g = some v ∧ Q v st := by simp only [ev, wp_ofO]
theorem wp_bin {op : BOp} {a b : LE} : Wp (ev R (.bin op a b) env) st Q ↔ Wp (ev R a env) st fun x st1 => Wp (ev R b env) st1 fun y st2 => Wp (bop op x y) st2 Q := by simp only [ev, wp_bd]
theorem wp_neg {a : LE} : Wp (ev R (.neg a) env) st Q ↔ Wp (ev R a env) st fun x st1 => ∃ i, x = .int i ∧ Q (.int (-i)) st1 := by
  simp only [ev, wp_bd]
  constructor
  · refine fun h => h.mono fun x st1 h => ?_
    cases x <;> simp only [wp_no, wp_pr] at h
    exact ⟨_, rfl, h⟩
  · refine fun h => h.mono fun x st1 h => ?_
    obtain ⟨i, rfl, h⟩ := h
    simp only [wp_pr]
    exact h
theorem wp_cmp {op : COp} {a b : LE} : Wp (ev R (.cmp op a b) env) st Q ↔ Wp (ev R a env) st fun x st1 => Wp (ev R b env) st1 fun y st2 => Wp (cop op x y) st2 fun c st3 => Q (.bl c) st3 := by simp only [ev, wp_bd, wp_pr]
theorem wp_chn {op op' : COp} {a b c : LE} : Wp (ev R (.chn op a b op' c) env) st Q ↔ Wp (ev R a env) st fun x st1 => Wp (ev R b env) st1 fun y st2 => Wp (cop op x y) st2 fun k st3 =>
    if k = true then Wp (ev R c env) st3 fun z st4 => Wp (cop op' y z) st4 fun k' st5 => Q (.bl k') st5 else Q (.bl false) st3 := by simp only [ev, wp_bd, wp_pr, wp_ite]
theorem wp_and1 {e : LE} : Wp (evAnd R [e] env) st Q ↔ Wp (ev R e env) st Q := by simp only [evAnd]
theorem wp_and2 {e e' : LE} {es : List LE} : Wp (evAnd R (e :: e' :: es) env) st Q ↔ Wp (ev R e env) st fun x st1 => Wp (truthM x) st1 fun k st2 => if k = true then Wp (evAnd R (e' :: es) env) st2 Q else Q x st2 := by simp only [evAnd, wp_bd, wp_pr, wp_ite]
theorem wp_or1 {e : LE} : Wp (evOr R [e] env) st Q ↔ Wp (ev R e env) st Q := by simp only [evOr]
theorem wp_or2 {e e' : LE} {es : List LE} : Wp (evOr R (e :: e' :: es) env) st Q ↔ Wp (ev R e env) st fun x st1 => Wp (truthM x) st1 fun k st2 => if k = true then Q x st2 else Wp (evOr R (e' :: es) env) st2 Q := by simp only [evOr, wp_bd, wp_pr, wp_ite]
theorem wp_and {es : List LE} : Wp (ev R (.and es) env) st Q ↔ Wp (evAnd R es env) st Q := by simp only [ev]
theorem wp_or {es : List LE} : Wp (ev R (.or es) env) st Q ↔ Wp (evOr R es env) st Q := by simp only [ev]
theorem wp_not {a : LE} : Wp (ev R (.not a) env) st Q ↔ Wp (ev R a env) st fun x st1 => Wp (truthM x) st1 fun k st2 => Q (.bl (!k)) st2 := by simp only [ev, wp_bd, wp_pr]
theorem wp_ife {c a b : LE} : Wp (ev R (.ife c a b) env) st Q ↔ Wp (ev R c env) st fun x st1 => Wp (truthM x) st1 fun k st2 => if k = true then Wp (ev R a env) st2 Q else Wp (ev R b env) st2 Q := by simp only [ev, wp_bd, wp_ite]
theorem wp_nil {Q : List PV → Store → Prop} : Wp (evs R [] env) st Q ↔ Q [] st := by simp only [evs, wp_pr]
theorem wp_cons {e : LE} {es : List LE} {Q : List PV → Store → Prop} : Wp (evs R (e :: es) env) st Q ↔ Wp (ev R e env) st fun x st1 => Wp (evs R es env) st1 fun xs st2 => Q (x :: xs) st2 := by simp only [evs, wp_bd, wp_pr]
theorem wp_tup {es : List LE} : Wp (ev R (.tup es) env) st Q ↔ Wp (evs R es env) st fun xs st1 => xs.length ≤ SL ∧ Q (.tup xs) st1 := by simp only [ev, wp_bd, wp_pr, wp_grd]
theorem wp_lst {es : List LE} : Wp (ev R (.lst es) env) st Q ↔ Wp (evs R es env) st fun xs st1 => xs.length ≤ SL ∧ Q (.lst xs) st1 := by simp only [ev, wp_bd, wp_pr, wp_grd]
theorem wp_newCell {c : Cell} : Wp (newCell c) st Q ↔ Q (.cell st.length) (st ++ [c]) := by
  constructor
  · rintro ⟨b, st', e, q⟩
    simp only [newCell, Option.some.injEq, Prod.mk.injEq] at e
    obtain ⟨rfl, rfl⟩ := e
    exact q
  · exact fun q => ⟨_, _, rfl, q⟩
theorem wp_lstC {es : List LE} : Wp (ev R (.lstC es) env) st Q ↔ Wp (evs R es env) st fun xs st1 => xs.length ≤ SL ∧ Q (.cell st1.length) (st1 ++ [.lst xs]) := by simp only [ev, wp_bd, wp_newCell, wp_grd]
theorem wp_pnil {Q : List (PV × PV) → Store → Prop} : Wp (evPs R [] env) st Q ↔ Q [] st := by simp only [evPs, wp_pr]
theorem wp_pcons {k v : LE} {r : List LE} {Q : List (PV × PV) → Store → Prop} : Wp (evPs R (k :: v :: r) env) st Q ↔ Wp (ev R k env) st fun x st1 => Wp (ev R v env) st1 fun y st2 => Wp (evPs R r env) st2 fun ps st3 => Q ((x, y) :: ps) st3 := by simp only [evPs, wp_bd, wp_pr]
theorem wp_dct {kvs : List LE} : Wp (ev R (.dct kvs) env) st Q ↔ Wp (evPs R kvs env) st fun ps st1 => ∃ k, keysOf (ps.map (·.1)) = some k ∧ ps.length ≤ 15 ∧ Q (mkD (dmerge [] (k.zip (ps.map (·.2))))) st1 := by simp only [ev, wp_bd, wp_pr, wp_grd, wp_ofO]
theorem wp_dctC {kvs : List LE} : Wp (ev R (.dctC kvs) env) st Q ↔ Wp (evPs R kvs env) st fun ps st1 => ∃ k, keysOf (ps.map (·.1)) = some k ∧ ps.length ≤ 15 ∧ Q (.cell st1.length) (st1 ++ [.dct (dmerge [] (k.zip (ps.map (·.2))))]) := by simp only [ev, wp_bd, wp_newCell, wp_grd, wp_ofO]
theorem wp_idx {a i : LE} : Wp (ev R (.idx a i) env) st Q ↔ Wp (ev R a env) st fun x st1 => Wp (ev R i env) st1 fun y st2 => Wp (idxM x y) st2 Q := by simp only [ev, wp_bd]
theorem wp_optI {p : PV} {Q : Option Int → Store → Prop} : Wp (optI p) st Q ↔ ∃ i, p = .int i ∧ Q (some i) st := by
  cases p <;> simp [optI, wp_no, wp_pr]
theorem wp_slc {a lo hi : LE} {hl hh : Bool} : Wp (ev R (.slc a hl lo hh hi) env) st Q ↔ Wp (ev R a env) st fun x st1 => Wp (if hl = true then bd (ev R lo env) optI else pr none) st1 fun l st2 => Wp (if hh = true then bd (ev R hi env) optI else pr none) st2 fun h st3 => Wp (slcM x l h) st3 Q := by simp only [ev, wp_bd]
theorem wp_slcF {m : M (Option Int)} {Q : Option Int → Store → Prop} : Wp (if false = true then m else pr none) st Q ↔ Q none st := by simp [wp_pr]
theorem wp_slcT {m : M PV} {n : M (Option Int)} {Q : Option Int → Store → Prop} : Wp (if true = true then bd m optI else n) st Q ↔ Wp m st fun x st1 => ∃ i, x = .int i ∧ Q (some i) st1 := by simp [wp_bd, wp_optI]
theorem wp_call {f : Nat} {es : List LE} : Wp (ev R (.call f es) env) st Q ↔ Wp (evs R es env) st fun xs st1 => Wp (R.fn f xs) st1 Q := by simp only [ev, wp_bd]
theorem wp_bi {b : BI} {es : List LE} : Wp (ev R (.bi b es) env) st Q ↔ Wp (evs R es env) st fun xs st1 => Wp (bi b xs) st1 Q := by simp only [ev, wp_bd]
theorem wp_me {m : ME} {o : LE} {es : List LE} : Wp (ev R (.me m o es) env) st Q ↔ Wp (ev R o env) st fun x st1 => Wp (recv m x) st1 fun _ st2 => Wp (evs R es env) st2 fun xs st3 => Wp (me m x xs) st3 Q := by simp only [ev, wp_bd]
theorem wp_isi {a : LE} {t : Ty} : Wp (ev R (.isi a t) env) st Q ↔ Wp (ev R a env) st fun x st1 => Wp (isiM t x) st1 Q := by simp only [ev, wp_bd]
theorem wp_if0 {Q : Bool → Store → Prop} : Wp (evIfs R [] env) st Q ↔ Q true st := by simp only [evIfs, wp_pr]
theorem wp_if1 {e : LE} {Q : Bool → Store → Prop} : Wp (evIfs R [e] env) st Q ↔ Wp (ev R e env) st fun x st1 => Wp (truthM x) st1 Q := by simp only [evIfs, wp_bd]
end
/-! ### values -/
section
variable {st : Store} {Q : PV → Store → Prop}
theorem wp_add {a b : Int} : Wp (bop .add (.int a) (.int b)) st Q ↔ Q (.int (a + b)) st := by simp only [bop, wp_pr]
theorem wp_addS {a b : Tx} : Wp (bop .add (.str a) (.str b)) st Q ↔ a.length + b.length ≤ SL ∧ Q (.str (a ++ b)) st := by simp only [bop, wp_pr, wp_bd, wp_grd]
theorem wp_addT {a b : List PV} : Wp (bop .add (.tup a) (.tup b)) st Q ↔ a.length + b.length ≤ SL ∧ Q (.tup (a ++ b)) st := by simp only [bop, wp_pr, wp_bd, wp_grd]
theorem wp_itemsL {p : PV} {Q : List PV → Store → Prop} : Wp (itemsLM p) st Q ↔ ∃ xs, itemsL p st = some xs ∧ Q xs st := by
  constructor
  · rintro ⟨b, st', e, q⟩
    obtain ⟨h, rfl⟩ := itemsLM_some.mp e
    exact ⟨b, h, q⟩
  · exact fun ⟨a, h, q⟩ => ⟨a, st, itemsLM_some.mpr ⟨h, rfl⟩, q⟩
theorem wp_addL {a b : List PV} : Wp (bop .add (.lst a) (.lst b)) st Q ↔ a.length + b.length ≤ SL ∧ Q (.lst (a ++ b)) st := by simp only [bop, wp_pr, wp_bd, wp_grd, wp_itemsL, itemsL, Option.some.injEq, exists_eq_left']
theorem wp_addCL {c : Nat} {b : List PV} : Wp (bop .add (.cell c) (.lst b)) st Q ↔ ∃ a, itemsL (.cell c) st = some a ∧ a.length + b.length ≤ SL ∧ Q (.lst (a ++ b)) st := by simp only [bop, wp_pr, wp_bd, wp_grd, wp_itemsL, itemsL, Option.some.injEq, exists_eq_left']
theorem wp_addLC {c : Nat} {a : List PV} : Wp (bop .add (.lst a) (.cell c)) st Q ↔ ∃ b, itemsL (.cell c) st = some b ∧ a.length + b.length ≤ SL ∧ Q (.lst (a ++ b)) st := by simp only [bop, wp_pr, wp_bd, wp_grd, wp_itemsL, itemsL, Option.some.injEq, exists_eq_left']
theorem wp_sub {a b : Int} : Wp (bop .sub (.int a) (.int b)) st Q ↔ Q (.int (a - b)) st := by simp only [bop, wp_pr]
theorem wp_mul {a b : Int} : Wp (bop .mul (.int a) (.int b)) st Q ↔ okMul a b ∧ Q (.int (a * b)) st := by simp only [bop, wp_pr, wp_bd, wp_grd]
theorem wp_mulS {a : Tx} {b : Int} : Wp (bop .mul (.str a) (.int b)) st Q ↔ (-(2 ^ 63) ≤ b ∧ b < 2 ^ 63 ∧ a.length * b.toNat ≤ SL) ∧ Q (.str (rep a b)) st := by simp only [bop, wp_pr, wp_bd, wp_grd]
theorem wp_mulL {a : List PV} {b : Int} : Wp (bop .mul (.lst a) (.int b)) st Q ↔ (-(2 ^ 63) ≤ b ∧ b < 2 ^ 63 ∧ a.length * b.toNat ≤ SL) ∧ Q (.lst (rep a b)) st := by simp only [bop, wp_pr, wp_bd, wp_grd]
theorem wp_mulT {a : List PV} {b : Int} : Wp (bop .mul (.tup a) (.int b)) st Q ↔ (a ≠ [] ∧ 2 ≤ b ∧ b ≤ 1000 ∧ a.length ≤ 1000) ∧ Q (.tup (rep a b)) st := by simp only [bop, wp_pr, wp_bd, wp_grd]
theorem wp_fdiv {a b : Int} : Wp (bop .fdiv (.int a) (.int b)) st Q ↔ L2.CDivW a b ∧ Q (.int (a / b)) st := by simp only [bop, rdiv, wp_pr, wp_bd, wp_grd]
theorem wp_mod {a b : Int} : Wp (bop .mod (.int a) (.int b)) st Q ↔ 0 < b ∧ Q (.int (a % b)) st := by simp only [bop, rmod, wp_pr, wp_bd, wp_grd]
theorem wp_pow {a b : Int} : Wp (bop .pow (.int a) (.int b)) st Q ↔ L2.CPow a b ∧ Q (.int (a ^ b.toNat)) st := by simp only [bop, wp_pr, wp_bd, wp_grd]
variable {B : Bool → Store → Prop}
theorem wp_eqM {p q : PV} : Wp (eqM p q) st B ↔ (okD 64 (seen p st) = true ∧ okD 64 (seen q st) = true) ∧ B (eqv (seen p st) (seen q st)) st := by
  constructor
  · rintro ⟨b, st', e, h⟩
    obtain ⟨⟨h1, rfl⟩, rfl⟩ := eqM_some.mp e
    exact ⟨h1, h⟩
  · exact fun ⟨h1, h⟩ => ⟨_, st, eqM_some.mpr ⟨⟨h1, rfl⟩, rfl⟩, h⟩
theorem wp_eq {p q : PV} : Wp (cop .eq p q) st B ↔ (okD 64 (seen p st) = true ∧ okD 64 (seen q st) = true) ∧ B (eqv (seen p st) (seen q st)) st := by simp only [cop, wp_eqM]
theorem wp_ne {p q : PV} : Wp (cop .ne p q) st B ↔ (okD 64 (seen p st) = true ∧ okD 64 (seen q st) = true) ∧ B (!eqv (seen p st) (seen q st)) st := by simp only [cop, wp_eqM, wp_bd, wp_pr]
theorem wp_lt {a b : Int} : Wp (cop .lt (.int a) (.int b)) st B ↔ B (decide (a < b)) st := by simp only [cop, wp_pr]
theorem wp_le {a b : Int} : Wp (cop .le (.int a) (.int b)) st B ↔ B (decide (a ≤ b)) st := by simp only [cop, wp_pr]
theorem wp_gt {a b : Int} : Wp (cop .gt (.int a) (.int b)) st B ↔ B (decide (b < a)) st := by simp only [cop, wp_pr]
theorem wp_ge {a b : Int} : Wp (cop .ge (.int a) (.int b)) st B ↔ B (decide (b ≤ a)) st := by simp only [cop, wp_pr]
theorem wp_ltS {a b : Tx} : Wp (cop .lt (.str a) (.str b)) st B ↔ B (decide (a < b)) st := by simp only [cop, wp_pr]
theorem wp_leS {a b : Tx} : Wp (cop .le (.str a) (.str b)) st B ↔ B (!decide (b < a)) st := by simp only [cop, wp_pr]
theorem wp_isN {p : PV} : Wp (cop .is p .non) st B ↔ B (isNon p) st := by simp only [cop, isM, wp_pr]
theorem wp_isnN {p : PV} : Wp (cop .isnot p .non) st B ↔ B (!isNon p) st := by simp only [cop, isM, wp_bd, wp_pr]
theorem wp_isB {a b : Bool} : Wp (cop .is (.bl a) (.bl b)) st B ↔ B (a == b) st := by simp only [cop, isM, wp_pr]
theorem wp_isnB {a b : Bool} : Wp (cop .isnot (.bl a) (.bl b)) st B ↔ B (!(a == b)) st := by simp only [cop, isM, wp_bd, wp_pr]
theorem wp_inS {c : Nat} {s : Tx} : Wp (cop .in_ (.str [c]) (.str s)) st B ↔ B (decide (c ∈ s)) st := by simp only [cop, inM, wp_pr]
theorem wp_notinS {c : Nat} {s : Tx} : Wp (cop .notin (.str [c]) (.str s)) st B ↔ B (!decide (c ∈ s)) st := by simp only [cop, inM, wp_bd, wp_pr]
theorem wp_inT {p : PV} {xs : List PV} : Wp (cop .in_ p (.tup xs)) st B ↔ (flat p = true ∧ xs.all flat = true) ∧ B (xs.any fun y => eqv y p) st := by simp only [cop, inM, wp_bd, wp_pr, wp_grd]
theorem wp_notinT {p : PV} {xs : List PV} : Wp (cop .notin p (.tup xs)) st B ↔ (flat p = true ∧ xs.all flat = true) ∧ B (!xs.any fun y => eqv y p) st := by simp only [cop, inM, wp_bd, wp_pr, wp_grd]
theorem wp_inL {p : PV} {xs : List PV} : Wp (cop .in_ p (.lst xs)) st B ↔ (flat p = true ∧ xs.all flat = true) ∧ B (xs.any fun y => eqv y p) st := by simp only [cop, inM, wp_bd, wp_pr, wp_grd]
theorem wp_notinL {p : PV} {xs : List PV} : Wp (cop .notin p (.lst xs)) st B ↔ (flat p = true ∧ xs.all flat = true) ∧ B (!xs.any fun y => eqv y p) st := by simp only [cop, inM, wp_bd, wp_pr, wp_grd]
theorem wp_trN : Wp (truthM .non) st B ↔ B false st := by simp only [truthM, wp_pr]
theorem wp_trB {b : Bool} : Wp (truthM (.bl b)) st B ↔ B b st := by simp only [truthM, wp_pr]
theorem wp_trI {i : Int} : Wp (truthM (.int i)) st B ↔ B (i != 0) st := by simp only [truthM, wp_pr]
theorem wp_trS {s : Tx} : Wp (truthM (.str s)) st B ↔ s.length ≤ SL ∧ B (!s.isEmpty) st := by simp only [truthM, wp_pr, wp_bd, wp_grd]
theorem wp_trT {s : List PV} : Wp (truthM (.tup s)) st B ↔ B (!s.isEmpty) st := by simp only [truthM, wp_pr]
theorem wp_trL {s : List PV} : Wp (truthM (.lst s)) st B ↔ B (!s.isEmpty) st := by simp only [truthM, wp_pr]
theorem wp_idxS {s : Tx} {k : Int} : Wp (idxM (.str s) (.int k)) st Q ↔ s.length ≤ SL ∧ ∃ c, L2.atI s k = some c ∧ Q (.str [c]) st := by simp only [idxM, wp_pr, wp_bd, wp_grd, wp_ofO]
theorem wp_idxT {xs : List PV} {k : Int} : Wp (idxM (.tup xs) (.int k)) st Q ↔ ∃ v, L2.atI xs k = some v ∧ Q v st := by simp only [idxM, wp_ofO]
theorem wp_idxL {xs : List PV} {k : Int} : Wp (idxM (.lst xs) (.int k)) st Q ↔ ∃ v, L2.atI xs k = some v ∧ Q v st := by simp only [idxM, wp_ofO]
theorem wp_idxD {ks : List DK} {vs : List PV} {i : PV} : Wp (idxM (.dct ks vs) i) st Q ↔ ∃ k, dkOf i = some k ∧ ∃ v, dfind (ks.zip vs) k = some v ∧ Q v st := by simp only [idxM, wp_ofO, wp_bd]
theorem wp_fun {α : Type} {f : Store → Option (α × Store)} {P : α → Store → Prop} : Wp f st P ↔ ∃ a st', f st = some (a, st') ∧ P a st' := Iff.rfl
theorem wp_idxCL {c : Nat} {xs : List PV} {k : Int} (h : st[c]? = some (.lst xs)) : Wp (idxM (.cell c) (.int k)) st Q ↔ ∃ v, L2.atI xs k = some v ∧ Q v st := by
  have e : Wp (idxM (.cell c) (.int k)) st Q ↔ Wp (ofO (L2.atI xs k)) st Q := by
    unfold Wp
    simp only [idxM, h]
  rw [e, wp_ofO]
theorem wp_idxCD {c : Nat} {kvs : List (DK × PV)} {i : PV} (h : st[c]? = some (.dct kvs)) : Wp (idxM (.cell c) i) st Q ↔ ∃ k, dkOf i = some k ∧ ∃ v, dfind kvs k = some v ∧ Q v st := by
  have e : Wp (idxM (.cell c) i) st Q ↔ Wp (bd (ofO (dkOf i)) fun k => ofO (dfind kvs k)) st Q := by
    unfold Wp
    simp only [idxM, h]
  rw [e, wp_bd, wp_ofO]
  simp only [wp_ofO]
theorem wp_slcS {s : Tx} {l h : Option Int} : Wp (slcM (.str s) l h) st Q ↔ s.length ≤ SL ∧ Q (.str (cut s l h)) st := by simp only [slcM, wp_pr, wp_bd, wp_grd]
theorem wp_slcTu {xs : List PV} {l h : Option Int} : Wp (slcM (.tup xs) l h) st Q ↔ Q (.tup (cut xs l h)) st := by simp only [slcM, wp_pr]
theorem wp_slcL {xs : List PV} {l h : Option Int} : Wp (slcM (.lst xs) l h) st Q ↔ Q (.lst (cut xs l h)) st := by simp only [slcM, wp_pr, wp_bd, wp_itemsL, itemsL, Option.some.injEq, exists_eq_left']
theorem wp_lenS {s : Tx} : Wp (bi .len [.str s]) st Q ↔ s.length ≤ SL ∧ Q (.int s.length) st := by simp only [bi, lenM, wp_pr, wp_bd, wp_grd]
theorem wp_lenT {xs : List PV} : Wp (bi .len [.tup xs]) st Q ↔ Q (.int xs.length) st := by simp only [bi, lenM, wp_pr]
theorem wp_lenD {ks : List DK} {xs : List PV} : Wp (bi .len [.dct ks xs]) st Q ↔ Q (.int ks.length) st := by simp only [bi, lenM, wp_pr]
theorem wp_lenL {xs : List PV} : Wp (bi .len [.lst xs]) st Q ↔ Q (.int xs.length) st := by
  unfold Wp
  simp [bi, lenM, itemsL]
  exact ⟨fun ⟨a, st', ⟨e1, e2⟩, q⟩ => by subst e1 e2; exact q, fun q => ⟨_, _, ⟨rfl, rfl⟩, q⟩⟩
theorem wp_lenCL {c : Nat} {xs : List PV} (h : st[c]? = some (.lst xs)) : Wp (bi .len [.cell c]) st Q ↔ Q (.int xs.length) st := by
  unfold Wp
  simp [bi, lenM, itemsL, h]
  exact ⟨fun ⟨a, st', ⟨e1, e2⟩, q⟩ => by subst e1 e2; exact q, fun q => ⟨_, _, ⟨rfl, rfl⟩, q⟩⟩
theorem wp_lenCD {c : Nat} {xs : List (DK × PV)} (h : st[c]? = some (.dct xs)) : Wp (bi .len [.cell c]) st Q ↔ Q (.int xs.length) st := by
  unfold Wp
  simp [bi, lenM, itemsL, itemsD, h]
  exact ⟨fun ⟨a, st', ⟨e1, e2⟩, q⟩ => by subst e1 e2; exact q, fun q => ⟨_, _, ⟨rfl, rfl⟩, q⟩⟩
theorem wp_abs {i : Int} : Wp (bi .abs [.int i]) st Q ↔ Q (.int (if i < 0 then -i else i)) st := by simp only [bi, wp_pr]
theorem wp_intI {i : Int} : Wp (bi .int [.int i]) st Q ↔ Q (.int i) st := by simp only [bi, wp_pr]
theorem wp_strI {i : Int} : Wp (bi .str [.int i]) st Q ↔ i.natAbs.log2 < 1920 ∧ Q (.str (figs i)) st := by simp only [bi, wp_pr, wp_bd, wp_grd]
theorem wp_ord {c : Nat} : Wp (bi .ord [.str [c]]) st Q ↔ Q (.int c) st := by simp only [bi, wp_pr]
theorem wp_all {xs : List PV} : Wp (bi .all [.lst xs]) st Q ↔ ∃ bs, bls xs = some bs ∧ Q (.bl (bs.all id)) st := by simp only [bi, wp_pr, wp_bd, wp_ofO]
theorem wp_any {xs : List PV} : Wp (bi .any [.lst xs]) st Q ↔ ∃ bs, bls xs = some bs ∧ Q (.bl (bs.any id)) st := by simp only [bi, wp_pr, wp_bd, wp_ofO]
theorem wp_tupL {xs : List PV} : Wp (bi .tuple [.lst xs]) st Q ↔ Q (.tup xs) st := by simp only [bi, wp_pr]
theorem wp_tupT {xs : List PV} : Wp (bi .tuple [.tup xs]) st Q ↔ Q (.tup xs) st := by simp only [bi, wp_pr]
theorem wp_tupC {c : Nat} : Wp (bi .tuple [.cell c]) st Q ↔ ∃ xs, itemsL (.cell c) st = some xs ∧ Q (.tup xs) st := by simp only [bi, wp_pr, wp_bd, wp_itemsL]
theorem wp_listT {xs : List PV} : Wp (bi .list [.tup xs]) st Q ↔ Q (.lst xs) st := by simp only [bi, wp_pr]
theorem wp_listL {xs : List PV} : Wp (bi .list [.lst xs]) st Q ↔ Q (.lst xs) st := by simp only [bi, wp_pr, wp_bd, wp_itemsL, itemsL, Option.some.injEq, exists_eq_left']
theorem wp_min2 {i j : Int} : Wp (bi .min2 [.int i, .int j]) st Q ↔ Q (.int (if j < i then j else i)) st := by simp only [bi, wp_pr]
theorem wp_max2 {i j : Int} : Wp (bi .max2 [.int i, .int j]) st Q ↔ Q (.int (if j > i then j else i)) st := by simp only [bi, wp_pr]
theorem wp_isiM {t : Ty} {p : PV} : Wp (isiM t p) st Q ↔ ∃ b, isTy t p st = some b ∧ Q (.bl b) st := by
  unfold Wp isiM
  constructor
  · rintro ⟨a, st', e, q⟩
    obtain ⟨b, h1, h2⟩ := Option.map_eq_some_iff.mp e
    simp only [Prod.mk.injEq] at h2
    obtain ⟨rfl, rfl⟩ := h2
    exact ⟨b, h1, q⟩
  · rintro ⟨b, h, q⟩
    exact ⟨_, _, by rw [h]; rfl, q⟩
theorem wp_recvS {m : ME} {s : Tx} {P : Unit → Store → Prop} : Wp (recv m (.str s)) st P ↔ m.ofStr = true ∧ P () st := by
  unfold Wp
  simp only [recv]
  constructor
  · rintro ⟨a, st', e, q⟩
    split at e
    · rename_i h
      simp only [Option.some.injEq, Prod.mk.injEq] at e
      obtain ⟨_, rfl⟩ := e
      exact ⟨h, q⟩
    · cases e
  · rintro ⟨h, q⟩
    exact ⟨(), st, by rw [if_pos h], q⟩
theorem wp_recvC {m : ME} {c : Nat} {xs : List PV} {P : Unit → Store → Prop} (h : st[c]? = some (.lst xs)) : Wp (recv m (.cell c)) st P ↔ m.ofStr = false ∧ P () st := by
  unfold Wp
  simp only [recv, itemsL, h, Option.isSome_some, and_true]
  constructor
  · rintro ⟨a, st', e, q⟩
    split at e
    · rename_i h
      simp only [Option.some.injEq, Prod.mk.injEq] at e
      obtain ⟨_, rfl⟩ := e
      exact ⟨h, q⟩
    · cases e
  · rintro ⟨h, q⟩
    exact ⟨(), st, by rw [if_pos h], q⟩
theorem wp_join {sep : Tx} {xs : List PV} : Wp (me .join (.str sep) [.lst xs]) st Q ↔ ∃ ys, txs xs = some ys ∧ (ys.map (·.length)).sum + ys.length * sep.length ≤ 16777216 ∧ Q (.str (joinTx sep ys)) st := by
  simp only [me, wp_bd, wp_itemsL, itemsL, Option.some.injEq, exists_eq_left', wp_ofO, wp_grd, wp_pr]
theorem wp_joinT {sep : Tx} {xs : List PV} : Wp (me .join (.str sep) [.tup xs]) st Q ↔ ∃ ys, txs xs = some ys ∧ (ys.map (·.length)).sum + ys.length * sep.length ≤ 16777216 ∧ Q (.str (joinTx sep ys)) st := by
  simp only [me, wp_bd, wp_ofO, wp_grd, wp_pr]
theorem wp_joinC {sep : Tx} {c : Nat} : Wp (me .join (.str sep) [.cell c]) st Q ↔ ∃ xs, itemsL (.cell c) st = some xs ∧ ∃ ys, txs xs = some ys ∧ (ys.map (·.length)).sum + ys.length * sep.length ≤ 16777216 ∧ Q (.str (joinTx sep ys)) st := by
  simp only [me, wp_bd, wp_itemsL, wp_ofO, wp_grd, wp_pr]
theorem wp_append {c : Nat} {xs : List PV} {v : PV} (h : st[c]? = some (.lst xs)) : Wp (me .append (.cell c) [v]) st Q ↔ xs.length < SL ∧ Q .non (st.set c (.lst (xs ++ [v]))) := by
  unfold Wp
  simp only [me, h]
  constructor
  · rintro ⟨a, st', e, q⟩
    split at e
    · rename_i h
      simp only [Option.some.injEq, Prod.mk.injEq] at e
      obtain ⟨rfl, rfl⟩ := e
      exact ⟨h, q⟩
    · cases e
  · rintro ⟨h, q⟩
    exact ⟨_, _, by rw [if_pos h], q⟩
theorem wp_pop1 {c : Nat} {xs : List PV} {i : Int} (h : st[c]? = some (.lst xs)) : Wp (me .pop1 (.cell c) [.int i]) st Q ↔ ∃ k, L2.ixN xs.length i = some k ∧ ∃ y, xs[k]? = some y ∧ Q y (st.set c (.lst (xs.eraseIdx k))) := by
  unfold Wp
  simp only [me, h]
  constructor
  · rintro ⟨a, st', e, q⟩
    split at e
    · rename_i k hk
      split at e
      · rename_i y hy
        simp only [Option.some.injEq, Prod.mk.injEq] at e
        obtain ⟨rfl, rfl⟩ := e
        exact ⟨k, hk, _, hy, q⟩
      · cases e
    · cases e
  · rintro ⟨k, hk, y, hy, q⟩
    exact ⟨y, _, by rw [hk]; simp only; rw [hy], q⟩
theorem wp_pop0 {c : Nat} {xs : List PV} (h : st[c]? = some (.lst xs)) : Wp (me .pop0 (.cell c) []) st Q ↔ ∃ y, xs[xs.length - 1]? = some y ∧ Q y (st.set c (.lst xs.dropLast)) := by
  unfold Wp
  simp only [me, h]
  constructor
  · rintro ⟨a, st', e, q⟩
    split at e
    · rename_i y hy
      simp only [Option.some.injEq, Prod.mk.injEq] at e
      obtain ⟨rfl, rfl⟩ := e
      exact ⟨_, hy, q⟩
    · cases e
  · rintro ⟨y, hy, q⟩
    exact ⟨y, _, by rw [hy], q⟩
theorem wp_upper {s : Tx} : Wp (me .upper (.str s) []) st Q ↔ (s.length ≤ 5592405 ∧ s.all (fun c => decide (c < 128)) = true) ∧ Q (.str (s.map upC)) st := by simp only [me, wp_bd, wp_grd, wp_pr]
theorem wp_starts {s t : Tx} : Wp (me .startswith (.str s) [.str t]) st Q ↔ Q (.bl (t.isPrefixOf s)) st := by simp only [me, wp_pr]
theorem wp_setML {c : Nat} {xs : List PV} {k : Int} {v : PV} {P : Unit → Store → Prop} (h : st[c]? = some (.lst xs)) : Wp (setM (.cell c) (.int k) v) st P ↔ ∃ j, L2.ixN xs.length k = some j ∧ P () (st.set c (.lst (xs.set j v))) := by
  unfold Wp
  simp only [setM, h]
  constructor
  · rintro ⟨a, st', e, q⟩
    split at e
    · rename_i j hj
      simp only [Option.some.injEq, Prod.mk.injEq] at e
      obtain ⟨_, rfl⟩ := e
      exact ⟨j, hj, q⟩
    · cases e
  · rintro ⟨j, hj, q⟩
    exact ⟨(), _, by rw [hj], q⟩
theorem wp_setMD {c : Nat} {kvs : List (DK × PV)} {i : PV} {v : PV} {P : Unit → Store → Prop} (h : st[c]? = some (.dct kvs)) : Wp (setM (.cell c) i v) st P ↔ ∃ k, dkOf i = some k ∧ kvs.length < SL ∧ P () (st.set c (.dct (dput kvs k v))) := by
  unfold Wp
  simp only [setM, h]
  constructor
  · rintro ⟨a, st', e, q⟩
    split at e
    · rename_i k hk
      split at e
      · rename_i hl
        simp only [Option.some.injEq, Prod.mk.injEq] at e
        obtain ⟨_, rfl⟩ := e
        exact ⟨k, hk, hl, q⟩
      · cases e
    · cases e
  · rintro ⟨k, hk, hl, q⟩
    exact ⟨(), _, by rw [hk]; simp only; rw [if_pos hl], q⟩
end
end Lt

/-! Lt19: cells looked at; statements, loops, comprehensions, defs. -/
namespace Lt
/-! ### cells -/
def lsC : Option Cell → Option (List PV)
  | some (.lst xs) => some xs
  | _ => none
theorem lsC_l {xs : List PV} : lsC (some (.lst xs)) = some xs := rfl
theorem itemsL_cell {c : Nat} {st : Store} : itemsL (.cell c) st = lsC st[c]? := by
  simp only [itemsL]
  split
  · rename_i h; rw [h]; rfl
  · rename_i h
    unfold lsC
    split
    · rename_i e; exact absurd e (h _)
    · rfl
theorem itemsL_lst {xs : List PV} {st : Store} : itemsL (.lst xs) st = some xs := rfl
def snC (c : Nat) : Option Cell → PV
  | some (.lst xs) => .lst xs
  | _ => .cell c
theorem snC_l {c : Nat} {xs : List PV} : snC c (some (.lst xs)) = .lst xs := rfl
theorem seen_cell {c : Nat} {st : Store} : seen (.cell c) st = snC c st[c]? := by
  unfold seen snC
  rfl
theorem seen_non {st : Store} : seen .non st = .non := rfl
theorem seen_bl {b : Bool} {st : Store} : seen (.bl b) st = .bl b := rfl
theorem seen_int {b : Int} {st : Store} : seen (.int b) st = .int b := rfl
theorem seen_str {b : Tx} {st : Store} : seen (.str b) st = .str b := rfl
theorem seen_tup {b : List PV} {st : Store} : seen (.tup b) st = .tup b := rfl
theorem seen_lst {b : List PV} {st : Store} : seen (.lst b) st = .lst b := rfl
theorem seen_dct {ks : List DK} {b : List PV} {st : Store} : seen (.dct ks b) st = .dct ks b := rfl
def atC (i : PV) (Q : PV → Prop) : Option Cell → Prop
  | some (.lst xs) => ∃ k, i = .int k ∧ ∃ v, L2.atI xs k = some v ∧ Q v
  | some (.dct kvs) => ∃ k, dkOf i = some k ∧ ∃ v, dfind kvs k = some v ∧ Q v
  | none => False
theorem atC_l {i : PV} {Q : PV → Prop} {xs : List PV} : atC i Q (some (.lst xs)) ↔ ∃ k, i = .int k ∧ ∃ v, L2.atI xs k = some v ∧ Q v := Iff.rfl
theorem atC_d {i : PV} {Q : PV → Prop} {kvs : List (DK × PV)} : atC i Q (some (.dct kvs)) ↔ ∃ k, dkOf i = some k ∧ ∃ v, dfind kvs k = some v ∧ Q v := Iff.rfl
section
variable {st : Store} {Q : PV → Store → Prop}
theorem wp_idxC {c : Nat} {i : PV} : Wp (idxM (.cell c) i) st Q ↔ atC i (fun v => Q v st) st[c]? := by
  rcases h : st[c]? with _ | (xs | kvs)
  · simp only [atC, iff_false]
    rintro ⟨a, st', e, _⟩
    simp [idxM, h] at e
  · rw [atC_l]
    cases i with
    | int k =>
      rw [wp_idxCL h]
      exact ⟨fun ⟨v, q⟩ => ⟨k, rfl, v, q⟩, fun ⟨k', e, v, q⟩ => by cases e; exact ⟨v, q⟩⟩
    | _ =>
      refine ⟨?_, fun ⟨k', e, _⟩ => by cases e⟩
      rintro ⟨a, st', e, _⟩
      simp [idxM, h] at e
  · rw [atC_d, wp_idxCD h]
def lenC (Q : Int → Prop) : Option Cell → Prop
  | some (.lst xs) => Q xs.length
  | some (.dct kvs) => Q kvs.length
  | none => False
theorem lenC_l {Q : Int → Prop} {xs : List PV} : lenC Q (some (.lst xs)) ↔ Q xs.length := Iff.rfl
theorem lenC_d {Q : Int → Prop} {xs : List (DK × PV)} : lenC Q (some (.dct xs)) ↔ Q xs.length := Iff.rfl
theorem wp_lenC {c : Nat} : Wp (bi .len [.cell c]) st Q ↔ lenC (fun n => Q (.int n) st) st[c]? := by
  rcases h : st[c]? with _ | (xs | kvs)
  · simp only [lenC, iff_false]
    rintro ⟨a, st', e, _⟩
    simp [bi, lenM, itemsL, itemsD, h] at e
  · rw [lenC_l, wp_lenCL h]
  · rw [lenC_d, wp_lenCD h]
def trC (Q : Bool → Prop) : Option Cell → Prop
  | some (.lst xs) => Q (!xs.isEmpty)
  | some (.dct kvs) => Q (!kvs.isEmpty)
  | none => False
theorem trC_l {Q : Bool → Prop} {xs : List PV} : trC Q (some (.lst xs)) ↔ Q (!xs.isEmpty) := Iff.rfl
theorem trC_d {Q : Bool → Prop} {xs : List (DK × PV)} : trC Q (some (.dct xs)) ↔ Q (!xs.isEmpty) := Iff.rfl
theorem wp_trC {c : Nat} {B : Bool → Store → Prop} : Wp (truthM (.cell c)) st B ↔ trC (fun b => B b st) st[c]? := by
  rcases h : st[c]? with _ | (xs | kvs)
  · simp only [trC, iff_false]
    rintro ⟨a, st', e, _⟩
    simp [truthM, h] at e
  · rw [trC_l]
    unfold Wp
    simp only [truthM, h, Option.some.injEq, Prod.mk.injEq]
    exact ⟨fun ⟨a, st', ⟨e1, e2⟩, q⟩ => by subst e1 e2; exact q, fun q => ⟨_, _, ⟨rfl, rfl⟩, q⟩⟩
  · rw [trC_d]
    unfold Wp
    simp only [truthM, h, Option.some.injEq, Prod.mk.injEq]
    exact ⟨fun ⟨a, st', ⟨e1, e2⟩, q⟩ => by subst e1 e2; exact q, fun q => ⟨_, _, ⟨rfl, rfl⟩, q⟩⟩
def liC (P : List PV → Prop) : Option Cell → Prop
  | some (.lst xs) => P xs
  | _ => False
theorem liC_l {P : List PV → Prop} {xs : List PV} : liC P (some (.lst xs)) ↔ P xs := Iff.rfl
theorem wp_recvCe {m : ME} {c : Nat} {P : Unit → Store → Prop} : Wp (recv m (.cell c)) st P ↔ liC (fun _ => m.ofStr = false ∧ P () st) st[c]? := by
  rcases h : st[c]? with _ | (xs | kvs)
  · simp only [liC, iff_false]
    rintro ⟨a, st', e, _⟩
    simp [recv, itemsL, h] at e
  · rw [liC_l, wp_recvC h]
  · simp only [liC, iff_false]
    rintro ⟨a, st', e, _⟩
    simp [recv, itemsL, h] at e
theorem wp_appendC {c : Nat} {v : PV} : Wp (me .append (.cell c) [v]) st Q ↔ liC (fun xs => xs.length < SL ∧ Q .non (st.set c (.lst (xs ++ [v])))) st[c]? := by
  rcases h : st[c]? with _ | (xs | kvs)
  · simp only [liC, iff_false]
    rintro ⟨a, st', e, _⟩
    simp [me, h] at e
  · rw [liC_l, wp_append h]
  · simp only [liC, iff_false]
    rintro ⟨a, st', e, _⟩
    simp [me, h] at e
theorem wp_pop1C {c : Nat} {i : Int} : Wp (me .pop1 (.cell c) [.int i]) st Q ↔ liC (fun xs => ∃ k, L2.ixN xs.length i = some k ∧ ∃ y, xs[k]? = some y ∧ Q y (st.set c (.lst (xs.eraseIdx k)))) st[c]? := by
  rcases h : st[c]? with _ | (xs | kvs)
  · simp only [liC, iff_false]
    rintro ⟨a, st', e, _⟩
    simp [me, h] at e
  · rw [liC_l, wp_pop1 h]
  · simp only [liC, iff_false]
    rintro ⟨a, st', e, _⟩
    simp [me, h] at e
theorem wp_pop0C {c : Nat} : Wp (me .pop0 (.cell c) []) st Q ↔ liC (fun xs => ∃ y, xs[xs.length - 1]? = some y ∧ Q y (st.set c (.lst xs.dropLast))) st[c]? := by
  rcases h : st[c]? with _ | (xs | kvs)
  · simp only [liC, iff_false]
    rintro ⟨a, st', e, _⟩
    simp [me, h] at e
  · rw [liC_l, wp_pop0 h]
  · simp only [liC, iff_false]
    rintro ⟨a, st', e, _⟩
    simp [me, h] at e
def stC (i v : PV) (P : Cell → Prop) : Option Cell → Prop
  | some (.lst xs) => ∃ k, i = .int k ∧ ∃ j, L2.ixN xs.length k = some j ∧ P (.lst (xs.set j v))
  | some (.dct kvs) => ∃ k, dkOf i = some k ∧ kvs.length < SL ∧ P (.dct (dput kvs k v))
  | none => False
theorem stC_l {i v : PV} {P : Cell → Prop} {xs : List PV} : stC i v P (some (.lst xs)) ↔ ∃ k, i = .int k ∧ ∃ j, L2.ixN xs.length k = some j ∧ P (.lst (xs.set j v)) := Iff.rfl
theorem stC_d {i v : PV} {P : Cell → Prop} {xs : List (DK × PV)} : stC i v P (some (.dct xs)) ↔ ∃ k, dkOf i = some k ∧ xs.length < SL ∧ P (.dct (dput xs k v)) := Iff.rfl
theorem wp_setM {c : Nat} {i v : PV} {P : Unit → Store → Prop} : Wp (setM (.cell c) i v) st P ↔ stC i v (fun d => P () (st.set c d)) st[c]? := by
  rcases h : st[c]? with _ | (xs | kvs)
  · simp only [stC, iff_false]
    rintro ⟨a, st', e, _⟩
    simp [setM, h] at e
  · rw [stC_l]
    cases i with
    | int k =>
      rw [wp_setML h]
      exact ⟨fun ⟨v, q⟩ => ⟨k, rfl, v, q⟩, fun ⟨k', e, v, q⟩ => by cases e; exact ⟨v, q⟩⟩
    | _ =>
      refine ⟨?_, fun ⟨k', e, _⟩ => by cases e⟩
      rintro ⟨a, st', e, _⟩
      simp [setM, h] at e
  · rw [stC_d, wp_setMD h]
theorem wp_extend {c : Nat} {p : PV} : Wp (me .extend (.cell c) [p]) st Q ↔ liC (fun xs => ∃ ys, itemsL p st = some ys ∧ (xs.length + ys.length ≤ SL ∧ p ≠ .cell c) ∧ Q .non (st.set c (.lst (xs ++ ys)))) st[c]? := by
  rcases h : st[c]? with _ | (xs | kvs)
  · simp only [liC, iff_false]
    rintro ⟨a, st', e, _⟩
    simp [me, h] at e
  · rw [liC_l]
    unfold Wp
    simp only [me, h]
    constructor
    · rintro ⟨a, st', e, q⟩
      split at e
      · rename_i ys h1 h2
        cases h1
        split at e
        · rename_i hh
          simp only [Option.some.injEq, Prod.mk.injEq] at e
          obtain ⟨rfl, rfl⟩ := e
          exact ⟨_, h2, hh, q⟩
        · cases e
      · cases e
    · rintro ⟨ys, h2, hh, q⟩
      exact ⟨_, _, by rw [h2]; simp only; rw [if_pos hh], q⟩
  · simp only [liC, iff_false]
    rintro ⟨a, st', e, _⟩
    simp [me, h] at e
end
def tyC (t : Ty) : Option Cell → Option Bool
  | some (.lst _) => some (t == .list)
  | some (.dct _) => some (t == .dict)
  | none => none
theorem isTy_non {t : Ty} {st : Store} : isTy t .non st = some false := rfl
theorem isTy_bl {t : Ty} {b : Bool} {st : Store} : isTy t (.bl b) st = some (t == .int || t == .bool) := rfl
theorem isTy_int {t : Ty} {b : Int} {st : Store} : isTy t (.int b) st = some (t == .int) := rfl
theorem isTy_str {t : Ty} {b : Tx} {st : Store} : isTy t (.str b) st = some (t == .str) := rfl
theorem isTy_tup {t : Ty} {b : List PV} {st : Store} : isTy t (.tup b) st = some (t == .tuple) := rfl
theorem isTy_lst {t : Ty} {b : List PV} {st : Store} : isTy t (.lst b) st = some (t == .list) := rfl
theorem isTy_dct {t : Ty} {ks : List DK} {b : List PV} {st : Store} : isTy t (.dct ks b) st = some (t == .dict) := rfl
theorem isTy_cell {t : Ty} {c : Nat} {st : Store} : isTy t (.cell c) st = tyC t st[c]? := by
  simp only [isTy, tyC] <;> (rcases st[c]? with _ | (xs | kvs) <;> rfl)
theorem tyC_l {t : Ty} {xs : List PV} : tyC t (some (.lst xs)) = some (t == .list) := rfl
theorem tyC_d {t : Ty} {xs : List (DK × PV)} : tyC t (some (.dct xs)) = some (t == .dict) := rfl

/-! ### statements -/
def nxt (R : Rg) (ss : List LS) (Q : Out → Store → Prop) : Out → Store → Prop
  | .nx env, st => Wp (evSs R ss env) st Q
  | o, st => Q o st
def fin (Q : PV → Store → Prop) : Out → Store → Prop
  | .nx _, st => Q .non st
  | .rt v, st => Q v st
  | _, _ => False
/-- behind a turn of a loop -/
def lp (J : Env → Store → Prop) (Q : Out → Store → Prop) : Out → Store → Prop
  | .nx env, st => J env st
  | .ct env, st => J env st
  | .bk env, st => Q (.nx env) st
  | .rt v, st => Q (.rt v) st
section
variable {R : Rg} {env : Env} {st : Store} {Q : Out → Store → Prop} {ss : List LS} {J : Env → Store → Prop}
theorem nxt_nx : nxt R ss Q (.nx env) st ↔ Wp (evSs R ss env) st Q := Iff.rfl
theorem nxt_rt {v : PV} : nxt R ss Q (.rt v) st ↔ Q (.rt v) st := Iff.rfl
theorem nxt_bk : nxt R ss Q (.bk env) st ↔ Q (.bk env) st := Iff.rfl
theorem nxt_ct : nxt R ss Q (.ct env) st ↔ Q (.ct env) st := Iff.rfl
theorem fin_nx {Q : PV → Store → Prop} : fin Q (.nx env) st ↔ Q .non st := Iff.rfl
theorem fin_rt {v : PV} {Q : PV → Store → Prop} : fin Q (.rt v) st ↔ Q v st := Iff.rfl
theorem lp_nx : lp J Q (.nx env) st ↔ J env st := Iff.rfl
theorem lp_ct : lp J Q (.ct env) st ↔ J env st := Iff.rfl
theorem lp_bk : lp J Q (.bk env) st ↔ Q (.nx env) st := Iff.rfl
theorem lp_rt {v : PV} : lp J Q (.rt v) st ↔ Q (.rt v) st := Iff.rfl
theorem wp_snil : Wp (evSs R [] env) st Q ↔ Q (.nx env) st := by simp only [evSs, wp_pr]
theorem wp_seq {s : LS} : Wp (evSs R (s :: ss) env) st Q ↔ Wp (evS R s env) st (nxt R ss Q) := by
  simp only [evSs, wp_bd]
  constructor <;> refine fun h => h.mono fun o st' q => ?_
  · cases o with
    | nx env => exact q
    | _ => exact (wp_pr (Q := Q)).mp q
  · cases o with
    | nx env => exact q
    | _ => exact wp_pr.mpr q
theorem wp_setN {i : Nat} {e : LE} : Wp (evS R (.set (.name i) e) env) st Q ↔ Wp (ev R e env) st fun x st1 => i < env.length ∧ Q (.nx (env.set i (some x))) st1 := by
  simp only [evS, wp_bd, wp_ofO, wp_pr, asg]
  constructor <;> refine fun h => h.mono fun x st' q => ?_
  · obtain ⟨env', e, q⟩ := q
    split at e
    · rename_i h
      cases e
      exact ⟨h, q⟩
    · cases e
  · exact ⟨_, if_pos q.1, q.2⟩
theorem wp_setG {tg : LG} {e : LE} : Wp (evS R (.set tg e) env) st Q ↔ Wp (ev R e env) st fun x st1 => ∃ env', asg tg x env = some env' ∧ Q (.nx env') st1 := by simp only [evS, wp_bd, wp_ofO, wp_pr]
theorem wp_setI {o i e : LE} : Wp (evS R (.setI o i e) env) st Q ↔ Wp (ev R e env) st fun x st1 => Wp (ev R o env) st1 fun y st2 => Wp (ev R i env) st2 fun z st3 => Wp (setM y z x) st3 fun _ st4 => Q (.nx env) st4 := by simp only [evS, wp_bd, wp_pr]
theorem wp_expr {e : LE} : Wp (evS R (.expr e) env) st Q ↔ Wp (ev R e env) st fun _ st1 => Q (.nx env) st1 := by simp only [evS, wp_bd, wp_pr]
theorem wp_ret {e : LE} : Wp (evS R (.ret e) env) st Q ↔ Wp (ev R e env) st fun x st1 => Q (.rt x) st1 := by simp only [evS, wp_bd, wp_pr]
theorem wp_retN : Wp (evS R .retN env) st Q ↔ Q (.rt .non) st := by simp only [evS, wp_pr]
theorem wp_brk : Wp (evS R .brk env) st Q ↔ Q (.bk env) st := by simp only [evS, wp_pr]
theorem wp_cnt : Wp (evS R .cnt env) st Q ↔ Q (.ct env) st := by simp only [evS, wp_pr]
theorem wp_pas : Wp (evS R .pas env) st Q ↔ Q (.nx env) st := by simp only [evS, wp_pr]
theorem wp_if {c : LE} {a b : List LS} : Wp (evS R (.ife c a b) env) st Q ↔ Wp (ev R c env) st fun x st1 => Wp (truthM x) st1 fun k st2 => if k = true then Wp (evSs R a env) st2 Q else Wp (evSs R b env) st2 Q := by simp only [evS, evT, wp_bd, wp_ite]
theorem wp_for {tg : LG} {ik : IK} {its : List LE} {body : List LS} (h : Wp (evs R its env) st fun vs st1 => ∃ xs, iterS ik vs st1 = some xs ∧ ∃ I : Nat → Env → Store → Prop, I 0 env st1 ∧
      (∀ i x env1 st2, xs[i]? = some x → I i env1 st2 → iterS ik vs st2 = some xs ∧ ∃ env2, asg tg x env1 = some env2 ∧ Wp (evSs R body env2) st2 (lp (I (i + 1)) Q)) ∧
      (∀ env1 st2, I xs.length env1 st2 → iterS ik vs st2 = some xs ∧ Q (.nx env1) st2)) : Wp (evS R (.for_ tg ik its body) env) st Q := by
  simp only [evS, wp_bd]
  refine h.mono fun vs st1 ⟨xs, hx, I, h0, hs, he⟩ => ?_
  refine ⟨xs, st1, iterM_some.mpr ⟨hx, rfl⟩, ?_⟩
  have go : ∀ (ys done : List PV) (env1 : Env) (st2 : Store), xs = done ++ ys → I done.length env1 st2 → Wp (forL (still ik vs xs) tg (fun en => evSs R body en) ys env1) st2 Q := by
    intro ys
    induction ys with
    | nil =>
      intro done env1 st2 e hI
      rw [List.append_nil] at e
      subst e
      obtain ⟨q1, q2⟩ := he env1 st2 hI
      simp only [forL, wp_bd, still, wp_pr]
      exact ⟨(), st2, grd_some.mpr ⟨q1, rfl⟩, q2⟩
    | cons y ys ih =>
      intro done env1 st2 e hI
      have hy : xs[done.length]? = some y := by rw [e]; simp
      obtain ⟨q1, env2, q2, q3⟩ := hs done.length y env1 st2 hy hI
      simp only [forL, wp_bd]
      refine ⟨(), st2, still_some.mpr ⟨q1, rfl⟩, env2, st2, ofO_some.mpr ⟨q2, rfl⟩, q3.mono fun o st3 q => ?_⟩
      have nx : ∀ env3, I (done.length + 1) env3 st3 → Wp (forL (still ik vs xs) tg (fun en => evSs R body en) ys env3) st3 Q := fun env3 hI => ih (done ++ [y]) env3 st3 (by rw [e]; simp) (by simpa using hI)
      cases o with
      | nx env3 => exact nx env3 q
      | ct env3 => exact nx env3 q
      | bk env3 => exact wp_pr.mpr q
      | rt v => exact wp_pr.mpr q
  exact go xs [] env st1 rfl h0
theorem wp_whl {c : LE} {body : List LS} (I : Nat → Env → Store → Prop) (n : Nat) (hn : n < R.fu) (h0 : I n env st)
    (hs : ∀ m env1 st1, I m env1 st1 → Wp (ev R c env1) st1 fun x st2 => Wp (truthM x) st2 fun b st3 => if b = true then Wp (evSs R body env1) st3 (lp (fun e s => ∃ m', m' < m ∧ I m' e s) Q) else Q (.nx env1) st3) : Wp (evS R (.whl c body) env) st Q := by
  simp only [evS]
  have go : ∀ (f m : Nat) (env1 : Env) (st1 : Store), m < f → I m env1 st1 → Wp (whlL (fun en => evT R c en) (fun en => evSs R body en) f env1) st1 Q := by
    intro f
    induction f with
    | zero => intro m env1 st1 hm; omega
    | succ f ih =>
      intro m env1 st1 hm hI
      simp only [whlL, wp_bd, evT]
      refine (hs m env1 st1 hI).mono fun x st2 q => q.mono fun b st3 q => ?_
      cases b with
      | false => simpa only [Bool.false_eq_true, if_false, wp_pr] using q
      | true =>
        simp only [if_true, wp_bd] at q ⊢
        refine q.mono fun o st4 q => ?_
        cases o with
        | nx env3 =>
          obtain ⟨m', h1, h2⟩ := q
          exact ih m' env3 st4 (by omega) h2
        | ct env3 =>
          obtain ⟨m', h1, h2⟩ := q
          exact ih m' env3 st4 (by omega) h2
        | bk env3 => exact wp_pr.mpr q
        | rt v => exact wp_pr.mpr q
  exact go R.fu n env st hn h0
theorem wp_run {d : Df} {ps : List PV} {Q : PV → Store → Prop} : Wp (runDf R d ps) st Q ↔ ps.length = d.par ∧ Wp (evSs R d.body (ps.map some ++ List.replicate (d.nam - d.par) none)) st (fin Q) := by
  unfold runDf
  by_cases h : ps.length = d.par
  · rw [if_pos h]
    simp only [h, true_and, wp_bd]
    constructor <;> refine fun h => h.mono fun o st' q => ?_
    · cases o <;> simp only [wp_pr, wp_no] at q <;> first | exact q | exact q.elim
    · cases o <;> simp only [wp_pr, wp_no] <;> first | exact q | exact q.elim
  · rw [if_neg h, wp_no]
    simp [h]
end
/-! ### comprehensions -/
section
variable {R : Rg} {env : Env} {st : Store} {Q : PV → Store → Prop} {e : LE} {tg : LG} {ik : IK} {its ifs : List LE} {own : List Nat}
theorem wp_lc (h : Wp (evs R its env) st fun vs st1 => ∃ xs, iterS ik vs st1 = some xs ∧ ∃ I : Nat → List PV → Store → Prop, I 0 [] st1 ∧
      (∀ i x acc st2, xs[i]? = some x → I i acc st2 → iterS ik vs st2 = some xs ∧ ∃ env2, asg tg x (wipeE env own) = some env2 ∧ Wp (evIfs R ifs env2) st2 fun b st3 =>
        if b = true then Wp (ev R e env2) st3 fun y st4 => acc.length < SL ∧ I (i + 1) (acc ++ [y]) st4 else I (i + 1) acc st3) ∧
      (∀ acc st2, I xs.length acc st2 → iterS ik vs st2 = some xs ∧ Q (.lst acc) st2)) : Wp (ev R (.lc e tg ik its ifs own) env) st Q := by
  simp only [ev, wp_bd]
  refine h.mono fun vs st1 ⟨xs, hx, I, h0, hs, he⟩ => ?_
  refine ⟨xs, st1, iterM_some.mpr ⟨hx, rfl⟩, ?_⟩
  have go : ∀ (ys done acc : List PV) (st2 : Store), xs = done ++ ys → I done.length acc st2 → Wp (lcL (still ik vs xs) tg (fun en => evIfs R ifs en) (fun en => ev R e en) (wipeE env own) ys acc) st2 fun acc st' => Wp (pr (.lst acc)) st' Q := by
    intro ys
    induction ys with
    | nil =>
      intro done acc st2 e hI
      rw [List.append_nil] at e
      subst e
      obtain ⟨q1, q2⟩ := he acc st2 hI
      simp only [lcL, wp_bd, wp_pr]
      exact ⟨(), st2, still_some.mpr ⟨q1, rfl⟩, q2⟩
    | cons y ys ih =>
      intro done acc st2 e hI
      have hy : xs[done.length]? = some y := by rw [e]; simp
      obtain ⟨q1, env2, q2, q3⟩ := hs done.length y acc st2 hy hI
      simp only [lcL, wp_bd]
      refine ⟨(), st2, still_some.mpr ⟨q1, rfl⟩, env2, st2, ofO_some.mpr ⟨q2, rfl⟩, q3.mono fun b st3 q => ?_⟩
      have nx : ∀ acc' st4, I (done.length + 1) acc' st4 → Wp (lcL (still ik vs xs) tg (fun en => evIfs R ifs en) (fun en => ev R _ en) (wipeE env own) ys acc') st4 fun acc st' => Wp (pr (.lst acc)) st' Q := fun acc' st4 hI => ih (done ++ [y]) acc' st4 (by rw [e]; simp) (by simpa using hI)
      cases b with
      | false =>
        simp only [Bool.false_eq_true, if_false] at q ⊢
        exact nx acc st3 q
      | true =>
        simp only [if_true, wp_bd, wp_grd] at q ⊢
        exact q.mono fun z st4 ⟨h1, h2⟩ => ⟨h1, nx _ _ h2⟩
  exact go xs [] [] st1 rfl h0
theorem wp_lcP (f : PV → PV) (g : PV → Bool) (h : Wp (evs R its env) st fun vs st1 => ∃ xs, iterS ik vs st1 = some xs ∧ xs.length ≤ SL ∧
      (∀ x ∈ xs, ∃ env2, asg tg x (wipeE env own) = some env2 ∧ Wp (evIfs R ifs env2) st1 fun b st2 => st2 = st1 ∧ b = g x ∧ (b = true → Wp (ev R e env2) st1 fun y st3 => st3 = st1 ∧ y = f x)) ∧
      Q (.lst ((xs.filter g).map f)) st1) : Wp (ev R (.lc e tg ik its ifs own) env) st Q := by
  refine wp_lc (h.mono fun vs st1 ⟨xs, hx, hl, hs, hq⟩ => ⟨xs, hx, fun i acc s => s = st1 ∧ acc = ((xs.take i).filter g).map f, ⟨rfl, by simp⟩, ?_, ?_⟩)
  · rintro i x acc st2 hi ⟨rfl, rfl⟩
    obtain ⟨env2, h1, h2⟩ := hs x (List.mem_of_getElem? hi)
    refine ⟨hx, env2, h1, h2.mono fun b st3 ⟨e1, e2, h3⟩ => ?_⟩
    subst e1
    have ht : xs.take (i + 1) = xs.take i ++ [x] := by
      rw [List.take_add_one, hi]
      rfl
    cases b with
    | false =>
      rw [if_neg Bool.false_ne_true]
      refine ⟨rfl, ?_⟩
      rw [ht]
      simp [← e2]
    | true =>
      rw [if_pos rfl]
      refine (h3 rfl).mono fun y st4 ⟨e3, e4⟩ => ?_
      subst e3 e4
      refine ⟨?_, rfl, ?_⟩
      · have h5 : i < xs.length := (List.getElem?_eq_some_iff.mp hi).1
        have h6 : ((xs.take i).filter g).length ≤ (xs.take i).length := List.length_filter_le _ _
        rw [List.length_map]
        rw [List.length_take] at h6
        omega
      · rw [ht]
        simp [← e2]
  · rintro acc st2 ⟨rfl, rfl⟩
    rw [List.take_length]
    exact ⟨hx, hq⟩
end
/-! ### small words -/
theorem wp_cut {R : Rg} {s : LS} {ss : List LS} {env : Env} {st : Store} {Q : Out → Store → Prop} (P : Env → Store → Prop) (h : Wp (evS R s env) st fun o st' => ∃ env', o = .nx env' ∧ P env' st') (q : ∀ env' st', P env' st' → Wp (evSs R ss env') st' Q) : Wp (evSs R (s :: ss) env) st Q := by
  rw [wp_seq]
  refine h.mono fun o st' ⟨env', e, p⟩ => ?_
  subst e
  exact q env' st' p
theorem dfind_nil {k : DK} : dfind [] k = none := rfl
theorem dfind_cons {k k' : DK} {v : PV} {r : List (DK × PV)} : dfind ((k', v) :: r) k = if k' = k then some v else dfind r k := by
  simp only [dfind, List.find?_cons]
  by_cases h : k' = k
  · simp [h]
  · simp [h]
theorem okD_non {n : Nat} : okD n .non = true := by cases n <;> simp [okD]
theorem okD_bl {n : Nat} {b : Bool} : okD n (.bl b) = true := by cases n <;> simp [okD]
theorem okD_int {n : Nat} {b : Int} : okD n (.int b) = true := by cases n <;> simp [okD]
theorem okD_str {n : Nat} {b : Tx} : okD n (.str b) = b.all okC := by cases n <;> simp [okD]
theorem okD_lst {n : Nat} {b : List PV} : okD (n + 1) (.lst b) = okDs n b := by simp [okD]
theorem okD_tup {n : Nat} {b : List PV} : okD (n + 1) (.tup b) = okDs n b := by simp [okD]
theorem okDs_nil {n : Nat} : okDs n [] = true := by simp [okDs]
theorem okDs_cons {n : Nat} {x : PV} {r : List PV} : okDs n (x :: r) = (okD n x && okDs n r) := by simp [okDs]
theorem okDs_ints {n : Nat} : ∀ {ns : List Int}, okDs n (ns.map .int) = true
  | [] => by simp [okDs]
  | x :: r => by simp [okDs, okD, okDs_ints (n := n) (ns := r)]
theorem eqv_non : eqv .non .non = true := by simp [eqv]
theorem eqv_bl {a b : Bool} : eqv (.bl a) (.bl b) = (a == b) := by simp [eqv]
theorem eqv_int {a b : Int} : eqv (.int a) (.int b) = (a == b) := by simp [eqv]
theorem eqv_str {a b : Tx} : eqv (.str a) (.str b) = (a == b) := by simp [eqv]
theorem eqv_tup {a b : List PV} : eqv (.tup a) (.tup b) = eqvs a b := by simp [eqv]
theorem eqv_lst {a b : List PV} : eqv (.lst a) (.lst b) = eqvs a b := by simp [eqv]
theorem eqvs_nil : eqvs [] [] = true := by simp [eqvs]
theorem eqvs_cons {x y : PV} {a b : List PV} : eqvs (x :: a) (y :: b) = (eqv x y && eqvs a b) := by simp [eqvs]
theorem eqvs_n0 {x : PV} {a : List PV} : eqvs (x :: a) [] = false := by simp [eqvs]
theorem eqvs_0n {x : PV} {a : List PV} : eqvs [] (x :: a) = false := by simp [eqvs]
theorem eqvs_intsN {ns : List Int} : eqvs (ns.map .int) [] = ns.isEmpty := by cases ns <;> simp [eqvs]
theorem atI_int {ns : List Int} {i : Int} : L2.atI (ns.map PV.int) i = (L2.atI ns i).map .int := by
  unfold L2.atI
  rw [List.length_map]
  cases L2.ixN ns.length i <;> simp
theorem ex_map {α β : Type} {o : Option α} {f : α → β} {P : β → Prop} : (∃ v, o.map f = some v ∧ P v) ↔ ∃ a, o = some a ∧ P (f a) := by cases o <;> simp
theorem atI_0 {α : Type} {x : α} {r : List α} : L2.atI (x :: r) 0 = some x := L2.atI_nat (j := 0) rfl
theorem ixN_0 {n : Nat} : L2.ixN (n + 1) 0 = some 0 := by
  unfold L2.ixN
  rw [if_pos (by omega), if_pos (by omega)]
  rfl
theorem dput_nil {k : DK} {v : PV} : dput [] k v = [(k, v)] := rfl
theorem dput_cons {k k' : DK} {v v' : PV} {r : List (DK × PV)} : dput ((k', v') :: r) k v = if k' = k then (k', v) :: r.map (fun kv => if kv.1 = k then (kv.1, v) else kv) else (k', v') :: dput r k v := by
  unfold dput
  by_cases h : k' = k
  · simp [h]
  · simp only [List.any_cons, h, decide_false, Bool.false_or, if_false]
    split
    · simp [h]
    · rfl
theorem ok64 {a b : Int} (h1 : -(2 ^ 64) < a) (h2 : a < 2 ^ 64) : okMul a b := .inl (.inl ⟨h1, h2⟩)
theorem ok64r {a b : Int} (h1 : -(2 ^ 64) < b) (h2 : b < 2 ^ 64) : okMul a b := .inl (.inr ⟨h1, h2⟩)
theorem div62 {a b : Int} (h1 : 0 < b) (h2 : b < 2 ^ 62) : L2.CDivW a b := by
  refine ⟨h1, ?_⟩
  have h : b.natAbs < 2 ^ 62 := by omega
  have := (Nat.log2_lt (n := b.natAbs) (k := 62) (by omega)).mpr h
  omega
theorem cpow_iff {a b : Int} : L2.CPow a b ↔ 0 ≤ b ∧ b ≤ 1000000 ∧ -18446744073709551616 < a ∧ a < 18446744073709551616 := by
  unfold L2.CPow
  omega
theorem wp_forE {R : Rg} {env : Env} {st : Store} {Q : Out → Store → Prop} {tg : LG} {ik : IK} {its : List LE} {body : List LS} (vs : List PV) (st1 : Store) (xs : List PV) (I : Nat → Env → Store → Prop) (hv : Wp (evs R its env) st fun v s => v = vs ∧ s = st1) (hx : iterS ik vs st1 = some xs) (h0 : I 0 env st1)
    (hs : ∀ i x env1 st2, xs[i]? = some x → I i env1 st2 → iterS ik vs st2 = some xs ∧ ∃ env2, asg tg x env1 = some env2 ∧ Wp (evSs R body env2) st2 (lp (I (i + 1)) Q))
    (he : ∀ env1 st2, I xs.length env1 st2 → iterS ik vs st2 = some xs ∧ Q (.nx env1) st2) : Wp (evS R (.for_ tg ik its body) env) st Q :=
  wp_for (hv.mono fun v s ⟨e1, e2⟩ => by subst e1 e2; exact ⟨xs, hx, I, h0, hs, he⟩)
theorem wp_lcE {R : Rg} {env : Env} {st : Store} {Q : PV → Store → Prop} {e : LE} {tg : LG} {ik : IK} {its ifs : List LE} {own : List Nat} (vs : List PV) (st1 : Store) (xs : List PV) (I : Nat → List PV → Store → Prop) (hv : Wp (evs R its env) st fun v s => v = vs ∧ s = st1) (hx : iterS ik vs st1 = some xs) (h0 : I 0 [] st1)
    (hs : ∀ i x acc st2, xs[i]? = some x → I i acc st2 → iterS ik vs st2 = some xs ∧ ∃ env2, asg tg x (wipeE env own) = some env2 ∧ Wp (evIfs R ifs env2) st2 fun b st3 =>
        if b = true then Wp (ev R e env2) st3 fun y st4 => acc.length < SL ∧ I (i + 1) (acc ++ [y]) st4 else I (i + 1) acc st3)
    (he : ∀ acc st2, I xs.length acc st2 → iterS ik vs st2 = some xs ∧ Q (.lst acc) st2) : Wp (ev R (.lc e tg ik its ifs own) env) st Q :=
  wp_lc (hv.mono fun v s ⟨e1, e2⟩ => by subst e1 e2; exact ⟨xs, hx, I, h0, hs, he⟩)
theorem wp_lcF {R : Rg} {env : Env} {st : Store} {Q : PV → Store → Prop} {e : LE} {tg : LG} {ik : IK} {its ifs : List LE} {own : List Nat} (vs : List PV) (st1 : Store) (xs : List PV) (f : PV → PV) (g : PV → Bool) (hv : Wp (evs R its env) st fun v s => v = vs ∧ s = st1) (hx : iterS ik vs st1 = some xs) (hl : xs.length ≤ SL)
    (hs : ∀ x ∈ xs, ∃ env2, asg tg x (wipeE env own) = some env2 ∧ Wp (evIfs R ifs env2) st1 fun b st2 => st2 = st1 ∧ b = g x ∧ (b = true → Wp (ev R e env2) st1 fun y st3 => st3 = st1 ∧ y = f x))
    (hq : Q (.lst ((xs.filter g).map f)) st1) : Wp (ev R (.lc e tg ik its ifs own) env) st Q :=
  wp_lcP f g (hv.mono fun v s ⟨e1, e2⟩ => by subst e1 e2; exact ⟨xs, hx, hl, hs, hq⟩)
theorem keysOf_nil : keysOf [] = some [] := rfl
theorem keysOf_str {s : Tx} {ps : List PV} : keysOf (.str s :: ps) = (keysOf ps).map (.inr s :: ·) := by
  simp only [keysOf, List.mapM_cons, dkOf]
  cases List.mapM dkOf ps <;> rfl
theorem keysOf_int {s : Int} {ps : List PV} : keysOf (.int s :: ps) = (keysOf ps).map (.inl s :: ·) := by
  simp only [keysOf, List.mapM_cons, dkOf]
  cases List.mapM dkOf ps <;> rfl
theorem dmerge_nil {kvs : List (DK × PV)} : dmerge kvs [] = kvs := rfl
theorem dmerge_cons {kvs r : List (DK × PV)} {k : DK} {v : PV} : dmerge kvs ((k, v) :: r) = dmerge (dput kvs k v) r := rfl
theorem atI_mem {α : Type} {xs : List α} {i : Int} (h0 : 0 ≤ i) (h1 : i < xs.length) : ∃ x ∈ xs, L2.atI xs i = some x := by
  have h : i.toNat < xs.length := by omega
  refine ⟨xs[i.toNat], List.getElem_mem h, ?_⟩
  have e := L2.atI_nat (xs := xs) (j := i.toNat) (v := xs[i.toNat]) (List.getElem?_eq_getElem h)
  rwa [Int.toNat_of_nonneg h0] at e
mutual
theorem eqv_refl : ∀ (n : Nat) (p : PV), okD n p = true → eqv p p = true
  | _, .non, _ => by simp [eqv]
  | _, .bl _, _ => by simp [eqv]
  | _, .int _, _ => by simp [eqv]
  | _, .str _, _ => by simp [eqv]
  | 0, .tup _, h => by simp [okD] at h
  | 0, .lst _, h => by simp [okD] at h
  | n + 1, .tup xs, h => by simp only [okD] at h; simp only [eqv]; exact eqvs_refl n xs h
  | n + 1, .lst xs, h => by simp only [okD] at h; simp only [eqv]; exact eqvs_refl n xs h
  | n, .dct _ _, h => by cases n <;> simp [okD] at h
  | n, .cell _, h => by cases n <;> simp [okD] at h
theorem eqvs_refl : ∀ (n : Nat) (p : List PV), okDs n p = true → eqvs p p = true
  | _, [], _ => by simp [eqvs]
  | n, x :: r, h => by
    simp only [okDs, Bool.and_eq_true] at h
    simp only [eqvs, eqv_refl n x h.1, eqvs_refl n r h.2, Bool.and_self]
end
theorem wipeE_nil {env : Env} : wipeE env [] = env := rfl
theorem wipeE_cons {env : Env} {v : Nat} {vs : List Nat} : wipeE env (v :: vs) = (wipeE env vs).set v none := rfl
/-- over what stands for l, each turn leaving the store as it is -/
theorem wp_lcM {α : Type} {R : Rg} {env : Env} {st : Store} {Q : PV → Store → Prop} {e : LE} {tg : LG} {ik : IK} {its ifs : List LE} {own : List Nat} (vs : List PV) (st1 : Store) (l : List α) (mk f : α → PV) (g : α → Bool) (hv : Wp (evs R its env) st fun v s => v = vs ∧ s = st1) (hx : iterS ik vs st1 = some (l.map mk)) (hl : l.length ≤ SL)
    (hs : ∀ a ∈ l, ∃ env2, asg tg (mk a) (wipeE env own) = some env2 ∧ Wp (evIfs R ifs env2) st1 fun b st2 => st2 = st1 ∧ b = g a ∧ (b = true → Wp (ev R e env2) st1 fun y st3 => st3 = st1 ∧ y = f a))
    (hq : Q (.lst ((l.filter g).map f)) st1) : Wp (ev R (.lc e tg ik its ifs own) env) st Q := by
  refine wp_lcE vs st1 (l.map mk) (fun i acc s => s = st1 ∧ acc = ((l.take i).filter g).map f) hv hx ⟨rfl, by simp⟩ ?_ ?_
  · rintro i x acc st2 hi ⟨rfl, rfl⟩
    rw [List.getElem?_map, Option.map_eq_some_iff] at hi
    obtain ⟨a, hi, rfl⟩ := hi
    obtain ⟨env2, h1, h2⟩ := hs a (List.mem_of_getElem? hi)
    refine ⟨hx, env2, h1, h2.mono fun b st3 ⟨e1, e2, h3⟩ => ?_⟩
    subst e1
    have ht : l.take (i + 1) = l.take i ++ [a] := by
      rw [List.take_add_one, hi]
      rfl
    cases b with
    | false =>
      rw [if_neg Bool.false_ne_true]
      refine ⟨rfl, ?_⟩
      rw [ht]
      simp [← e2]
    | true =>
      rw [if_pos rfl]
      refine (h3 rfl).mono fun y st4 ⟨e3, e4⟩ => ?_
      subst e3 e4
      refine ⟨?_, rfl, ?_⟩
      · have h5 : i < l.length := (List.getElem?_eq_some_iff.mp hi).1
        have h6 : ((l.take i).filter g).length ≤ (l.take i).length := List.length_filter_le _ _
        rw [List.length_map]
        rw [List.length_take] at h6
        omega
      · rw [ht]
        simp [← e2]
  · rintro acc st2 ⟨rfl, rfl⟩
    rw [List.length_map, List.take_length]
    exact ⟨hx, hq⟩
theorem wp_lcM0 {α : Type} {R : Rg} {env : Env} {st : Store} {Q : PV → Store → Prop} {e : LE} {tg : LG} {ik : IK} {its : List LE} {own : List Nat} (vs : List PV) (st1 : Store) (l : List α) (mk f : α → PV) (hv : Wp (evs R its env) st fun v s => v = vs ∧ s = st1) (hx : iterS ik vs st1 = some (l.map mk)) (hl : l.length ≤ SL)
    (hs : ∀ a ∈ l, ∃ env2, asg tg (mk a) (wipeE env own) = some env2 ∧ Wp (ev R e env2) st1 fun y st3 => st3 = st1 ∧ y = f a)
    (hq : Q (.lst (l.map f)) st1) : Wp (ev R (.lc e tg ik its [] own) env) st Q :=
  wp_lcM vs st1 l mk f (fun _ => true) hv hx hl (fun a ha => by
    obtain ⟨env2, h1, h2⟩ := hs a ha
    exact ⟨env2, h1, wp_if0.mpr ⟨rfl, rfl, fun _ => h2⟩⟩) (by rw [List.filter_eq_self.mpr fun _ _ => rfl]; exact hq)
theorem atI_1 {α : Type} {x0 x1 : α} {r : List α} : L2.atI (x0 :: x1 :: r) 1 = some x1 := L2.atI_nat (j := 1) rfl
theorem atI_2 {α : Type} {x0 x1 x2 : α} {r : List α} : L2.atI (x0 :: x1 :: x2 :: r) 2 = some x2 := L2.atI_nat (j := 2) rfl
theorem atI_3 {α : Type} {x0 x1 x2 x3 : α} {r : List α} : L2.atI (x0 :: x1 :: x2 :: x3 :: r) 3 = some x3 := L2.atI_nat (j := 3) rfl
theorem atI_4 {α : Type} {x0 x1 x2 x3 x4 : α} {r : List α} : L2.atI (x0 :: x1 :: x2 :: x3 :: x4 :: r) 4 = some x4 := L2.atI_nat (j := 4) rfl
theorem atI_5 {α : Type} {x0 x1 x2 x3 x4 x5 : α} {r : List α} : L2.atI (x0 :: x1 :: x2 :: x3 :: x4 :: x5 :: r) 5 = some x5 := L2.atI_nat (j := 5) rfl
theorem atI_6 {α : Type} {x0 x1 x2 x3 x4 x5 x6 : α} {r : List α} : L2.atI (x0 :: x1 :: x2 :: x3 :: x4 :: x5 :: x6 :: r) 6 = some x6 := L2.atI_nat (j := 6) rfl
theorem atI_7 {α : Type} {x0 x1 x2 x3 x4 x5 x6 x7 : α} {r : List α} : L2.atI (x0 :: x1 :: x2 :: x3 :: x4 :: x5 :: x6 :: x7 :: r) 7 = some x7 := L2.atI_nat (j := 7) rfl
theorem atI_8 {α : Type} {x0 x1 x2 x3 x4 x5 x6 x7 x8 : α} {r : List α} : L2.atI (x0 :: x1 :: x2 :: x3 :: x4 :: x5 :: x6 :: x7 :: x8 :: r) 8 = some x8 := L2.atI_nat (j := 8) rfl
theorem atI_9 {α : Type} {x0 x1 x2 x3 x4 x5 x6 x7 x8 x9 : α} {r : List α} : L2.atI (x0 :: x1 :: x2 :: x3 :: x4 :: x5 :: x6 :: x7 :: x8 :: x9 :: r) 9 = some x9 := L2.atI_nat (j := 9) rfl
theorem joinTx_nil : ∀ ys : List Tx, joinTx [] ys = ys.flatten
  | [] => rfl
  | [p] => by simp [joinTx, TL.joinL]
  | p :: q :: r => by
    have ih := joinTx_nil (q :: r)
    unfold joinTx at ih ⊢
    rw [TL.joinL, ih]
    simp
theorem txs_map (l : List Nat) : txs (l.map fun c => .str [c]) = some (l.map fun c => [c]) := by
  induction l with
  | nil => rfl
  | cons c r ih => simp [txs, ih]
theorem join_chars (l : List Nat) : joinTx [] (l.map fun c => [c]) = l := by
  rw [joinTx_nil]
  induction l with
  | nil => rfl
  | cons c r ih => simp [ih]
theorem iter_range1 {j : Int} {st : Store} (h1 : -(2 ^ 62) ≤ j) (h2 : j < 2 ^ 62) : iterS .range1 [.int j] st = some ((List.range j.toNat).map fun (k : Nat) => PV.int k) := by
  simp only [iterS]
  rw [if_pos ⟨h1, h2⟩]
theorem iter_range2 {i j : Int} {st : Store} (h0 : -(2 ^ 62) ≤ i) (h0' : i < 2 ^ 62) (h1 : -(2 ^ 62) ≤ j) (h2 : j < 2 ^ 62) : iterS .range2 [.int i, .int j] st = some ((List.range (j - i).toNat).map fun (k : Nat) => PV.int (i + k)) := by
  simp only [iterS]
  rw [if_pos ⟨h0, h0', h1, h2⟩]
theorem sum_chars (l : List Nat) : ((l.map fun c => [c]).map fun x => List.length x).sum = l.length := by
  induction l with
  | nil => rfl
  | cons c r ih =>
    simp only [List.map_cons, List.sum_cons, ih, List.length_cons, List.length_nil]
    omega
theorem rep_length {α : Type} (xs : List α) (k : Int) : (rep xs k).length = xs.length * k.toNat := rep_len xs k
theorem cut_pre {α : Type} (xs : List α) {i : Int} (h0 : 0 ≤ i) (h1 : i ≤ xs.length) : cut xs none (some i) = xs.take i.toNat := by
  obtain ⟨j, rfl⟩ : ∃ j : Nat, i = j := ⟨i.toNat, by omega⟩
  unfold cut
  rw [HT.sIx_none, HT.sIx_nat]
  simp only [Nat.sub_zero, List.drop_zero, Int.toNat_natCast]
  rw [Nat.min_eq_left (by omega)]
theorem cut_suf {α : Type} (xs : List α) {i : Int} (h0 : 0 ≤ i) (h1 : i ≤ xs.length) : cut xs (some i) none = xs.drop i.toNat := by
  obtain ⟨j, rfl⟩ : ∃ j : Nat, i = j := ⟨i.toNat, by omega⟩
  unfold cut
  rw [HT.sIx_none, HT.sIx_nat]
  simp only [Int.toNat_natCast]
  rw [Nat.min_eq_left (by omega)]
  exact List.take_of_length_le (by simp)
theorem rep_one {α : Type} (x : α) (k : Int) : rep [x] k = List.replicate k.toNat x := by
  unfold rep
  induction k.toNat with
  | zero => rfl
  | succ n ih => rw [List.replicate_succ, List.flatten_cons, ih]; rfl
theorem okDs_rep {n : Nat} {x : PV} (h : okD n x = true) : ∀ k : Nat, okDs n (List.replicate k x) = true
  | 0 => by simp [okDs]
  | k + 1 => by rw [List.replicate_succ, okDs_cons, h, okDs_rep h k]; rfl
theorem map_rep {α β : Type} {f : α → β} {y : β} : ∀ {l : List α}, (∀ a ∈ l, f a = y) → l.map f = List.replicate l.length y
  | [], _ => rfl
  | a :: l, h => by rw [List.map_cons, h a (by simp), map_rep fun b hb => h b (by simp [hb])]; rfl
theorem wp_intB {b : Bool} {st : Store} {Q : PV → Store → Prop} : Wp (bi .int [.bl b]) st Q ↔ Q (.int (if b = true then 1 else 0)) st := by simp only [bi, wp_pr]
theorem eqvs_nilr {xs : List PV} : eqvs xs [] = xs.isEmpty := by cases xs <;> simp [eqvs]
theorem eqvs_nill {xs : List PV} : eqvs [] xs = xs.isEmpty := by cases xs <;> simp [eqvs]
theorem wp_sp {R : Rg} {env : Env} {st : Store} {Q : PV → Store → Prop} {s : SP} {es : List LE} : Wp (ev R (.sp s es) env) st Q ↔ Wp (evs R es env) st fun xs st1 => Wp (sp s xs) st1 Q := by simp only [ev, wp_bd]
theorem wp_rgM {t : Bool} {i j : Int} {st : Store} {Q : PV → Store → Prop} : Wp (rgM t i j) st Q ↔ (-(2 ^ 62) ≤ i ∧ i < 2 ^ 62 ∧ -(2 ^ 62) ≤ j ∧ j < 2 ^ 62 ∧ (j - i).toNat ≤ SL) ∧
    Q (if t = true then .tup ((List.range (j - i).toNat).map fun (k : Nat) => PV.int (i + k)) else .lst ((List.range (j - i).toNat).map fun (k : Nat) => PV.int (i + k))) st := by
  constructor
  · rintro ⟨a, st', e, q⟩
    obtain ⟨h, rfl, rfl⟩ := rgM_some.mp e
    exact ⟨h, q⟩
  · rintro ⟨h, q⟩
    exact ⟨_, _, rgM_some.mpr ⟨h, rfl, rfl⟩, q⟩
theorem wp_lrange1 {j : Int} {st : Store} {Q : PV → Store → Prop} : Wp (sp .lrange1 [.int j]) st Q ↔ (-(2 ^ 62) ≤ j ∧ j < 2 ^ 62 ∧ j.toNat ≤ SL) ∧ Q (.lst ((List.range j.toNat).map fun (k : Nat) => PV.int k)) st := by
  simp only [sp, wp_rgM, Int.sub_zero, Int.zero_add, Bool.false_eq_true, if_false]
  constructor
  · exact fun ⟨⟨_, _, a, b, c⟩, q⟩ => ⟨⟨a, b, c⟩, q⟩
  · exact fun ⟨⟨a, b, c⟩, q⟩ => ⟨⟨by omega, by omega, a, b, c⟩, q⟩
theorem wp_trange1 {j : Int} {st : Store} {Q : PV → Store → Prop} : Wp (sp .trange1 [.int j]) st Q ↔ (-(2 ^ 62) ≤ j ∧ j < 2 ^ 62 ∧ j.toNat ≤ SL) ∧ Q (.tup ((List.range j.toNat).map fun (k : Nat) => PV.int k)) st := by
  simp only [sp, wp_rgM, Int.sub_zero, Int.zero_add, if_true]
  constructor
  · exact fun ⟨⟨_, _, a, b, c⟩, q⟩ => ⟨⟨a, b, c⟩, q⟩
  · exact fun ⟨⟨a, b, c⟩, q⟩ => ⟨⟨by omega, by omega, a, b, c⟩, q⟩
theorem wp_lrange2 {i j : Int} {st : Store} {Q : PV → Store → Prop} : Wp (sp .lrange2 [.int i, .int j]) st Q ↔ (-(2 ^ 62) ≤ i ∧ i < 2 ^ 62 ∧ -(2 ^ 62) ≤ j ∧ j < 2 ^ 62 ∧ (j - i).toNat ≤ SL) ∧ Q (.lst ((List.range (j - i).toNat).map fun (k : Nat) => PV.int (i + k))) st := by
  simp only [sp, wp_rgM, Bool.false_eq_true, if_false]
theorem wp_trange2 {i j : Int} {st : Store} {Q : PV → Store → Prop} : Wp (sp .trange2 [.int i, .int j]) st Q ↔ (-(2 ^ 62) ≤ i ∧ i < 2 ^ 62 ∧ -(2 ^ 62) ≤ j ∧ j < 2 ^ 62 ∧ (j - i).toNat ≤ SL) ∧ Q (.tup ((List.range (j - i).toNat).map fun (k : Nat) => PV.int (i + k))) st := by
  simp only [sp, wp_rgM, if_true]
theorem wp_forU {R : Rg} {env : Env} {st : Store} {Q : Out → Store → Prop} {tg : LG} {ik : IK} {its : List LE} {body : List LS} : Wp (evS R (.for_ tg ik its body) env) st Q ↔
    Wp (evs R its env) st fun vs st1 => ∃ xs, iterS ik vs st1 = some xs ∧ Wp (forL (still ik vs xs) tg (fun en => evSs R body en) xs env) st1 Q := by
  simp only [evS, wp_bd]
  constructor <;> refine fun h => h.mono fun vs st1 q => ?_
  · obtain ⟨xs, st2, e, q⟩ := q
    obtain ⟨h, rfl⟩ := iterM_some.mp e
    exact ⟨xs, h, q⟩
  · obtain ⟨xs, h, q⟩ := q
    exact ⟨xs, st1, iterM_some.mpr ⟨h, rfl⟩, q⟩
theorem wp_fl0 {st : Store} {Q : Out → Store → Prop} {tg : LG} {ik : IK} {vs ys : List PV} {env : Env} {body : Env → M Out} : Wp (forL (still ik vs ys) tg body [] env) st Q ↔ iterS ik vs st = some ys ∧ Q (.nx env) st := by
  simp only [forL, wp_bd, wp_pr]
  constructor
  · rintro ⟨a, st', e, q⟩
    obtain ⟨h, rfl⟩ := still_some.mp e
    exact ⟨h, q⟩
  · rintro ⟨h, q⟩
    exact ⟨(), st, still_some.mpr ⟨h, rfl⟩, q⟩
theorem wp_fl1 {st : Store} {Q : Out → Store → Prop} {tg : LG} {ik : IK} {vs ys : List PV} {x : PV} {xs : List PV} {env : Env} {body : Env → M Out} : Wp (forL (still ik vs ys) tg body (x :: xs) env) st Q ↔
    iterS ik vs st = some ys ∧ ∃ env2, asg tg x env = some env2 ∧ Wp (body env2) st (lp (fun e s => Wp (forL (still ik vs ys) tg body xs e) s Q) Q) := by
  simp only [forL, wp_bd, wp_ofO]
  have key : ∀ env2, (Wp (body env2) st fun o st' => Wp (match o with
      | .nx env2 => forL (still ik vs ys) tg body xs env2
      | .ct env2 => forL (still ik vs ys) tg body xs env2
      | .bk env2 => pr (.nx env2)
      | .rt v => pr (.rt v)) st' Q) ↔ Wp (body env2) st (lp (fun e s => Wp (forL (still ik vs ys) tg body xs e) s Q) Q) := by
    intro env2
    constructor <;> refine fun h => h.mono fun o st' q => ?_
    · cases o with
      | nx e => exact q
      | ct e => exact q
      | bk e => exact (wp_pr (Q := Q)).mp q
      | rt v => exact (wp_pr (Q := Q)).mp q
    · cases o with
      | nx e => exact q
      | ct e => exact q
      | bk e => exact (wp_pr (Q := Q)).mpr q
      | rt v => exact (wp_pr (Q := Q)).mpr q
  constructor
  · rintro ⟨a, st', e, env2, h2, q⟩
    obtain ⟨h, rfl⟩ := still_some.mp e
    exact ⟨h, env2, h2, (key env2).mp q⟩
  · rintro ⟨h, env2, h2, q⟩
    exact ⟨(), st, still_some.mpr ⟨h, rfl⟩, env2, h2, (key env2).mpr q⟩
theorem asg_name {i : Nat} {v : PV} {env : Env} : asg (.name i) v env = if i < env.length then some (env.set i (some v)) else none := by simp only [asg]
theorem asg_tup {gs : List LG} {xs : List PV} {env : Env} : asg (.tup gs) (.tup xs) env = asgs gs xs env := by simp only [asg]
theorem asgs_nil {env : Env} : asgs [] [] env = some env := by simp only [asgs]
theorem asgs_cons {g : LG} {gs : List LG} {x : PV} {xs : List PV} {env : Env} : asgs (g :: gs) (x :: xs) env = (asg g x env).bind fun e => asgs gs xs e := by
  simp only [asgs]
  cases asg g x env <;> rfl
theorem iter_lst {xs : List PV} {st : Store} : iterS .seq [.lst xs] st = some xs := by simp [iterS, itemsL]
theorem iter_tup {xs : List PV} {st : Store} : iterS .seq [.tup xs] st = some xs := by simp [iterS]
theorem iter_str {s : Tx} {st : Store} : iterS .seq [.str s] st = some (s.map fun c => .str [c]) := by simp [iterS]
theorem iter_enum {xs : List PV} {st : Store} : iterS .enum [.lst xs] st = some (xs.zipIdx.map fun (x, k) => .tup [.int k, x]) := by simp [iterS]
theorem set_get {st : Store} {c : Nat} {x y : Cell} (h : st[c]? = some y) : (st.set c x)[c]? = some x := by
  have := (List.getElem?_eq_some_iff.mp h).1
  rw [List.getElem?_set_self this]
theorem figs_len {i : Int} {k : Nat} (h0 : 0 ≤ i) (hk : 1 ≤ k) (h : i < 10 ^ k) : (figs i).length ≤ k := by
  obtain ⟨n, rfl⟩ : ∃ n : Nat, i = n := ⟨i.toNat, by omega⟩
  have hn : n < 10 ^ k := by
    have := h
    exact_mod_cast this
  have e : figs (n : Int) = (Nat.toDigits 10 n).map Char.toNat := by
    unfold figs
    rw [show toString (n : Int) = Nat.repr n from rfl]
    simp [Nat.repr]
  rw [e, List.length_map]
  exact PyProof.Rows.digits10_le hk hn
theorem ixN_1 {n : Nat} : L2.ixN (n + 2) 1 = some 1 := by
  unfold L2.ixN
  rw [if_pos (by omega), if_pos (by omega)]
  rfl
theorem ixN_2 {n : Nat} : L2.ixN (n + 3) 2 = some 2 := by
  unfold L2.ixN
  rw [if_pos (by omega), if_pos (by omega)]
  rfl
theorem cut_map {α β : Type} (f : α → β) (xs : List α) (lo hi : Option Int) : cut (xs.map f) lo hi = (cut xs lo hi).map f := by
  unfold cut
  simp [List.map_take, List.map_drop]
theorem cut_length {α : Type} (xs : List α) (lo hi : Option Int) : (cut xs lo hi).length ≤ xs.length := by
  unfold cut
  simp only [List.length_take, List.length_drop]
  omega
theorem cut_mem {α : Type} {xs : List α} {lo hi : Option Int} {x : α} (h : x ∈ cut xs lo hi) : x ∈ xs := List.mem_of_mem_drop (List.mem_of_mem_take h)
theorem zip_get {xs : List PV} {i : Nat} {x : PV} (h : (xs.zipIdx.map fun (x, k) => PV.tup [.int k, x])[i]? = some x) : ∃ y, xs[i]? = some y ∧ x = .tup [.int i, y] := by
  rw [List.getElem?_map, Option.map_eq_some_iff] at h
  obtain ⟨⟨y, k⟩, h1, rfl⟩ := h
  rw [List.getElem?_zipIdx, Option.map_eq_some_iff] at h1
  obtain ⟨z, h2, h3⟩ := h1
  simp only [Nat.zero_add, Prod.mk.injEq] at h3
  obtain ⟨rfl, rfl⟩ := h3
  exact ⟨z, h2, rfl⟩
end Lt

/-! Hc: draws and shown things of k76.. -/
namespace Lt
local macro_rules | `(tactic| trivial) => `(tactic| try simp only [wp_pr, wp_no, wp_bd, wp_grd, wp_ofO, wp_var, wp_cst, wp_glob, wp_bin, wp_neg, wp_cmp, wp_chn, wp_and1, wp_and2, wp_or1, wp_or2, wp_and, wp_or, wp_not, wp_ife, wp_nil, wp_cons, wp_tup, wp_lst, wp_lstC, wp_pnil, wp_pcons, wp_dct, wp_dctC, wp_idx, wp_slc, wp_slcF, wp_slcT, wp_call, wp_bi, wp_me, wp_isi, wp_if0, wp_if1, wp_sp, wp_lrange1, wp_lrange2, wp_trange1, wp_trange2, wp_intB, wp_fl0, wp_fl1, asg_name, asg_tup, asgs_nil, asgs_cons, Option.bind_some, iter_lst, iter_tup, iter_str,
  wp_add, wp_addS, wp_addT, wp_addL, wp_addCL, wp_addLC, wp_sub, wp_mul, wp_mulS, wp_mulL, wp_mulT, wp_fdiv, wp_mod, wp_pow, wp_eq, wp_ne, wp_lt, wp_le, wp_gt, wp_ge, wp_ltS, wp_leS, wp_isN, wp_isnN, wp_isB, wp_isnB, wp_inS, wp_notinS, wp_inT, wp_notinT, wp_inL, wp_notinL, wp_trN, wp_trB, wp_trI, wp_trS, wp_trT, wp_trL, wp_idxS, wp_idxT, wp_idxL, wp_idxD,
  wp_slcS, wp_slcTu, wp_slcL, wp_lenS, wp_lenT, wp_lenD, wp_lenL, wp_abs, wp_intI, wp_strI, wp_ord, wp_all, wp_any, wp_tupL, wp_tupT, wp_tupC, wp_listT, wp_listL, wp_min2, wp_max2, wp_isiM, wp_recvS, wp_join, wp_joinT, wp_joinC, wp_upper, wp_starts,
  lsC_l, snC_l, seen_cell, seen_non, seen_bl, seen_int, seen_str, seen_tup, seen_lst, seen_dct, itemsL_cell, itemsL_lst, atC_l, atC_d, wp_idxC, lenC_l, lenC_d, wp_lenC, trC_l, trC_d, wp_trC, liC_l, wp_recvCe, wp_appendC, wp_pop1C, wp_pop0C, stC_l, stC_d, wp_setM, wp_extend, tyC_l, tyC_d, isTy_non, isTy_bl, isTy_int, isTy_str, isTy_tup, isTy_lst, isTy_dct, isTy_cell,
  nxt_nx, nxt_rt, nxt_bk, nxt_ct, fin_nx, fin_rt, lp_nx, lp_ct, lp_bk, lp_rt, wp_snil, wp_seq, wp_setN, wp_setI, wp_expr, wp_ret, wp_retN, wp_brk, wp_cnt, wp_pas, wp_if,
  List.getElem?_cons_zero, List.getElem?_cons_succ, List.set_cons_zero, List.set_cons_succ, List.length_cons, List.length_nil, Option.some.injEq, exists_eq_left', PV.int.injEq, PV.str.injEq, PV.bl.injEq, PV.lst.injEq, PV.tup.injEq, PV.cell.injEq, Nat.reduceAdd, Nat.reduceLT, Nat.reduceLeDiff, true_and, and_true, Bool.false_eq_true, Bool.true_eq_false, if_true, if_false, Bool.not_true, Bool.not_false, ME.ofStr, dkOf, exists_eq_left, dfind_nil, dfind_cons, okD_non, okD_bl, okD_int, okD_str, okD_lst, okD_tup, okDs_nil, okDs_cons, okDs_ints, eqv_non, eqv_bl, eqv_int, eqv_str, eqv_tup, eqv_lst, eqvs_nil, eqvs_cons, eqvs_n0, eqvs_0n, eqvs_intsN, atI_int, ex_map, atI_0, atI_1, atI_2, atI_3, atI_4, atI_5, atI_6, atI_7, atI_8, atI_9, ixN_0, ixN_1, ixN_2, beq_eq_false_iff_ne, ne_eq, not_true_eq_false, not_false_eq_true, Bool.or_eq_false_iff, Bool.and_eq_false_imp, decide_eq_false_iff_not, Bool.or_false, Bool.or_true, Bool.false_or, Bool.true_or, or_false, or_true, false_or, true_or, wipeE_nil, wipeE_cons, forall_const, true_implies, cpow_iff, keysOf_nil, keysOf_str, keysOf_int, dmerge_nil, dmerge_cons, Option.map_some, List.zip_cons_cons, List.zip_nil_left, Int.reduceLE, Int.reduceNeg, wp_optI, dput_nil, dput_cons, List.length_map, SL, Nat.zero_le, List.isEmpty_nil, List.isEmpty_cons,
  Sum.inr.injEq, Sum.inl.injEq, List.cons.injEq, Nat.reduceEqDiff, reduceCtorEq, and_false, false_and, and_self, beq_iff_eq, beq_self_eq_true, decide_eq_true_eq, Bool.not_eq_true', Bool.and_eq_true, Bool.or_eq_true, Bool.not_eq_eq_eq_not, Bool.true_and, Bool.false_and, Bool.and_true, Bool.and_false, List.map_cons, List.map_nil, List.nil_append, List.cons_append, List.eraseIdx_cons_zero, Int.reduceAdd, Int.reduceMul, Int.reduceEq, Int.reducePow, Int.reduceLT, Int.reduceToNat])
def h_escaped_sign (g_TURNS : Nat) : List LS := [.for_ (.tup [.name 1, .name 2]) .seq [.glob g_TURNS] [.ife (.cmp .eq (.var 2) (.var 0)) [.ret (.var 1)] []],
    .ret (.var 0)]
def h_quoted_text (g_QUOTE f_escaped_sign : Nat) : List LS := [.ret (.bin .add (.bin .add (.glob g_QUOTE) (.me .join (.cst (.str [])) [.lc (.call f_escaped_sign [.var 1]) (.name 1) .seq [.var 0] [] [1]])) (.glob g_QUOTE))]
def h_show_thing (f_quoted_text f_show_thing : Nat) : List LS := [.ife (.isi (.var 0) .str) [.ret (.call f_quoted_text [.var 0])] [],
    .ife (.isi (.var 0) .tuple) [.ret (.bin .add (.bin .add (.cst (.str [40])) (.me .join (.cst (.str [44])) [.lc (.call f_show_thing [.var 1]) (.name 1) .seq [.var 0] [] [1]])) (.cst (.str [41])))] [],
    .ret (.bi .str [.var 0])]
def h_law_pot_2 : List LS := [.set (.name 2) (.bin .add (.bin .mul (.cst (.int 2)) (.bi .abs [.var 0])) (.bi .int [.cmp .lt (.var 0) (.cst (.int 0))])),
    .ife (.cmp .ge (.var 2) (.bin .pow (.cst (.int 10)) (.cst (.int 18)))) [.ret (.lstC [.var 2, .var 1])] [],
    .ret (.lstC [.cst (.int 0), .bin .mod (.bin .add (.bin .add (.bin .mul (.var 1) (.cst (.int 1000003))) (.var 2)) (.cst (.int 7))) (.cst (.int 2305843009213693951))])]
def h_law_take : List LS := [.ife (.cmp .gt (.idx (.var 0) (.cst (.int 0))) (.cst (.int 0))) [.set (.name 3) (.bin .mod (.idx (.var 0) (.cst (.int 0))) (.var 1)), .setI (.var 0) (.cst (.int 0)) (.bin .fdiv (.idx (.var 0) (.cst (.int 0))) (.var 1)), .ret (.var 3)] [],
    .setI (.var 0) (.cst (.int 1)) (.bin .mod (.bin .add (.bin .mul (.idx (.var 0) (.cst (.int 1))) (.cst (.int 1181783497276652981))) (.cst (.int 12345678910987))) (.cst (.int 2305843009213693951))),
    .set (.name 2) (.bin .mod (.bin .mul (.bin .mod (.idx (.var 0) (.cst (.int 1))) (.cst (.int 2147483629))) (.bin .add (.bin .fdiv (.idx (.var 0) (.cst (.int 1))) (.cst (.int 2147483629))) (.cst (.int 48271)))) (.cst (.int 2305843009213693951))),
    .ret (.bin .mod (.bin .fdiv (.var 2) (.cst (.int 1009))) (.var 1))]
def h_law_seed : List LS := [.set (.name 1) (.cst (.int 1000003)),
    .for_ (.name 2) .seq [.slc (.var 0) false (.cst .non) true (.cst (.int 63))] [.set (.name 1) (.bin .mod (.bin .add (.bin .add (.bin .mul (.var 1) (.cst (.int 7368787))) (.bin .mod (.var 2) (.bin .pow (.cst (.int 10)) (.cst (.int 30))))) (.cst (.int 11))) (.cst (.int 2305843009213693951)))],
    .ret (.var 1)]
def h_law_any_text (f__law_take : Nat) : List LS := [.set (.name 2) (.cst (.str [34, 92, 10, 32, 33, 35, 36, 38, 39, 40, 41, 42, 43, 44, 45, 46, 47, 48, 49, 50, 51, 52, 53, 54, 55, 56, 57, 58, 59, 60, 61, 62, 63, 64, 65, 66, 67, 88, 89, 90, 91, 93, 94, 95, 96, 97, 98, 99, 110, 120, 121, 122, 123, 124, 125, 126, 34, 92, 10, 34, 92])),
    .ret (.me .join (.cst (.str [])) [.lc (.idx (.var 2) (.call f__law_take [.var 0, .bi .len [.var 2]])) (.name 3) .range1 [.bin .add (.var 1) (.idx (.lst [.cst (.int 0), .cst (.int 1), .cst (.int 3), .cst (.int 9)]) (.call f__law_take [.var 0, .cst (.int 4)]))] [] [3]])]
def h_law_thing_2 (f__law_take f__law_any_text f__law_thing : Nat) : List LS := [.set (.name 2) (.call f__law_take [.var 0, .ife (.cmp .gt (.var 1) (.cst (.int 0))) (.cst (.int 3)) (.cst (.int 2))]),
    .ife (.and [.cmp .eq (.var 1) (.cst (.int 3)), .cmp .eq (.call f__law_take [.var 0, .cst (.int 8)]) (.cst (.int 0))]) [.ret (.bi .tuple [.sp .lrange1 [.call f__law_take [.var 0, .cst (.int 10)]]])] [],
    .ife (.cmp .eq (.var 2) (.cst (.int 0))) [.ret (.call f__law_any_text [.var 0, .cst (.int 0)])] [],
    .ife (.cmp .eq (.var 2) (.cst (.int 1))) [.ret (.call f__law_take [.var 0, .idx (.lst [.cst (.int 1), .cst (.int 3), .cst (.int 1000), .bin .pow (.cst (.int 10)) (.cst (.int 40))]) (.call f__law_take [.var 0, .cst (.int 4)])])] [],
    .ret (.bi .tuple [.lc (.call f__law_thing [.var 0, .bin .sub (.var 1) (.cst (.int 1))]) (.name 3) .range1 [.call f__law_take [.var 0, .cst (.int 4)]] [] [3]])]
def h_law_quoted : List LS := [.set (.name 1) (.cst (.str [34])),
    .for_ (.name 2) .seq [.var 0] [.ife (.cmp .in_ (.var 2) (.cst (.str [34, 92]))) [.set (.name 1) (.bin .add (.var 1) (.cst (.str [92])))] [], .set (.name 1) (.bin .add (.var 1) (.idx (.lst [.var 2, .cst (.str [92, 110])]) (.bi .int [.cmp .eq (.var 2) (.cst (.str [10]))])))],
    .ret (.bin .add (.var 1) (.cst (.str [34])))]
def h_law_show_thing (f__law_show_thing f__law_quoted : Nat) : List LS := [.ife (.isi (.var 0) .tuple) [.ret (.bin .add (.bin .add (.cst (.str [40])) (.me .join (.cst (.str [44])) [.lc (.call f__law_show_thing [.var 1]) (.name 1) .seq [.var 0] [] [1]])) (.cst (.str [41])))] [],
    .ret (.ife (.isi (.var 0) .str) (.call f__law_quoted [.var 0]) (.bi .str [.var 0]))]
/-! ### draws -/
def IsP (c : Nat) (st : Store) : Prop := ∃ a b : Int, st[c]? = some (.lst [.int a, .int b]) ∧ 0 ≤ a ∧ 0 ≤ b ∧ b < 2 ^ 62
def TakeOk (g : List PV → M PV) : Prop := ∀ {c : Nat} {st : Store} {many : Int}, IsP c st → 0 < many → many.natAbs.log2 < 9000 → Wp (g [.cell c, .int many]) st fun r st' => ∃ i, r = .int i ∧ 0 ≤ i ∧ i < many ∧ IsP c st'
theorem take_ok {R : Rg} {c : Nat} {st : Store} {many : Int} (hp : IsP c st) (h1 : 0 < many) (h2 : many.natAbs.log2 < 9000) : Wp (evSs R h_law_take [some (.cell c), some (.int many), none, none]) st (fin fun r st' => ∃ i, r = .int i ∧ 0 ≤ i ∧ i < many ∧ IsP c st') := by
  obtain ⟨a, b, e, a0, b0, b1⟩ := hp
  have e2 : ∀ x, (st.set c x)[c]? = some x := fun x => set_get e
  unfold h_law_take
  trivial
  simp only [e]
  trivial
  split
  · rename_i ha
    simp only [e]
    trivial
    refine ⟨h1, ?_⟩
    simp only [e]
    trivial
    refine ⟨⟨h1, h2⟩, ?_⟩
    simp only [e]
    trivial
    exact ⟨Int.emod_nonneg _ (by omega), Int.emod_lt_of_pos _ h1, _, _, e2 _, Int.ediv_nonneg a0 (by omega), b0, b1⟩
  · simp only [e]
    trivial
    simp only [e]
    trivial
    refine ⟨ok64 (by omega) (by omega), ?_⟩
    simp only [e2]
    trivial
    simp only [e2]
    trivial
    have m0 := Int.emod_nonneg (b * 1181783497276652981 + 12345678910987) (show (2305843009213693951 : Int) ≠ 0 by decide)
    have m1 := Int.emod_lt_of_pos (b * 1181783497276652981 + 12345678910987) (show (0 : Int) < 2305843009213693951 by decide)
    refine ⟨div62 (by omega) (by omega), ok64 (by omega) (by omega), div62 (by omega) (by omega), h1, Int.emod_nonneg _ (by omega), Int.emod_lt_of_pos _ h1, _, _, e2 _, a0, m0, by omega⟩
theorem pot2_ok {R : Rg} {st : Store} {a b : Int} (b0 : 0 ≤ b) (b1 : b < 2 ^ 62) : Wp (evSs R h_law_pot_2 [some (.int a), some (.int b), none]) st (fin fun r st' => ∃ c, r = .cell c ∧ IsP c st') := by
  unfold h_law_pot_2
  trivial
  refine ⟨ok64 (by omega) (by omega), ?_⟩
  generalize (if a < 0 then -a else a) = aa
  generalize (if a < 0 then (1 : Int) else 0) = s
  split
  · exact ⟨2 * aa + s, b, by simp, by omega, b0, by omega⟩
  · refine ⟨ok64 (by omega) (by omega), 0, (b * 1000003 + (2 * aa + s) + 7) % 2305843009213693951, by simp, by omega, Int.emod_nonneg _ (by omega), ?_⟩
    · have := Int.emod_lt_of_pos (b * 1000003 + (2 * aa + s) + 7) (show (0 : Int) < 2305843009213693951 by decide)
      omega
theorem cut63' {α : Type} (xs : List α) (h : xs.length ≤ 63) : cut xs none (some 63) = xs := by
  unfold cut
  rw [HT.sIx_none, show HT.sIx xs.length xs.length (some 63) = min 63 xs.length from HT.sIx_nat xs.length xs.length 63]
  simp [Nat.min_eq_right h]
theorem seed_ok {R : Rg} {st : Store} {ns : List Int} (hl : ns.length ≤ 63) : Wp (evSs R h_law_seed [some (.lst (ns.map .int)), none, none]) st (fin fun r st' => st' = st ∧ ∃ i, r = .int i ∧ 0 ≤ i ∧ i < 2305843009213693951) := by
  unfold h_law_seed
  trivial
  refine wp_forE [.lst (ns.map .int)] st (ns.map .int) (fun i env s => s = st ∧ ∃ (seed : Int) (x : Option PV), env = [some (.lst (ns.map .int)), some (.int seed), x] ∧ 0 ≤ seed ∧ seed < 2305843009213693951) ?_ iter_lst ⟨rfl, 1000003, none, rfl, by omega, by omega⟩ ?_ ?_
  · trivial
    rw [cut63' _ (by simpa using hl)]
  · rintro i x env st1 hx ⟨rfl, seed, y, rfl, h3, h4⟩
    obtain ⟨z, hz, rfl⟩ : ∃ z, ns[i]? = some z ∧ x = .int z := by
      rw [List.getElem?_map, Option.map_eq_some_iff] at hx
      obtain ⟨z, hz, rfl⟩ := hx
      exact ⟨z, hz, rfl⟩
    refine ⟨iter_lst, _, rfl, ?_⟩
    trivial
    refine ⟨ok64 (by omega) (by omega), _, _, ⟨rfl, rfl⟩, Int.emod_nonneg _ (by omega), Int.emod_lt_of_pos _ (by omega)⟩
  · rintro env st1 ⟨rfl, seed, y, rfl, h3, h4⟩
    refine ⟨iter_lst, ?_⟩
    trivial
    exact ⟨h3, h4⟩
/-! ### texts quoted -/
def esc (c : Nat) : Tx := if c = 34 then [92, 34] else if c = 92 then [92, 92] else if c = 10 then [92, 110] else [c]
def turns : PV := .tup [.tup [.str [92, 34], .str [34]], .tup [.str [92, 92], .str [92]], .tup [.str [92, 110], .str [10]]]
theorem escaped_ok {R : Rg} {g : Nat} (hg : R.gl g = some turns) {st : Store} {c : Nat} (hc : okC c = true) : Wp (evSs R (h_escaped_sign g) [some (.str [c]), none, none]) st (fin fun r st' => st' = st ∧ r = .str (esc c)) := by
  unfold h_escaped_sign turns at *
  rw [wp_seq, wp_forU]
  trivial
  simp only [hg]
  trivial
  simp only [List.all_cons, List.all_nil, hc, Bool.and_true, Bool.and_self, true_and]
  unfold esc
  by_cases h1 : c = 34
  · subst h1
    trivial
    decide
  · by_cases h2 : c = 92
    · subst h2
      trivial
      decide
    · by_cases h3 : c = 10
      · subst h3
        trivial
        decide
      · have e1 : ¬ (34 : Nat) = c := fun e => h1 e.symm
        have e2 : ¬ (92 : Nat) = c := fun e => h2 e.symm
        have e3 : ¬ (10 : Nat) = c := fun e => h3 e.symm
        simp only [e1, e2, e3, if_false, h1, h2, h3]
        trivial
        exact ⟨by decide, by decide, by decide⟩
def EscOk (g : List PV → M PV) : Prop := ∀ {c : Nat} {st : Store}, okC c = true → Wp (g [.str [c]]) st fun r st' => st' = st ∧ r = .str (esc c)
def quo (s : Tx) : Tx := [34] ++ (s.map esc).flatten ++ [34]
theorem esc_len (c : Nat) : (esc c).length ≤ 2 := by
  unfold esc
  split
  · decide
  · split
    · decide
    · split <;> simp
theorem flat_len {α β : Type} {f : α → List β} {k : Nat} (h : ∀ a, (f a).length ≤ k) : ∀ l : List α, ((l.map f).flatten).length ≤ k * l.length
  | [] => by simp
  | a :: l => by
    have := h a
    have := flat_len h l
    simp only [List.map_cons, List.flatten_cons, List.length_append, List.length_cons, Nat.mul_succ]
    omega
theorem quo_len (s : Tx) : (quo s).length ≤ 2 * s.length + 2 := by
  have := flat_len esc_len s
  simp only [quo, List.length_append, List.length_cons, List.length_nil]
  omega
theorem txs_of {α : Type} (f : α → Tx) : ∀ l : List α, txs (l.map fun a => .str (f a)) = some (l.map f)
  | [] => rfl
  | a :: l => by
    have ih := txs_of f l
    simp only [List.map_cons, txs, ih, Option.map_some]
theorem sum_flat (l : List Tx) : (l.map fun x => List.length x).sum = l.flatten.length := by
  induction l with
  | nil => rfl
  | cons a l ih => simp only [List.map_cons, List.sum_cons, List.flatten_cons, List.length_append, ih]
theorem quoted_ok {R : Rg} {g f : Nat} (hg : R.gl g = some (.str [34])) (hE : EscOk (R.fn f)) {st : Store} {s : Tx} (h1 : s.length ≤ 100000) (h2 : s.all okC = true) : Wp (evSs R (h_quoted_text g f) [some (.str s), none]) st (fin fun r st' => st' = st ∧ r = .str (quo s)) := by
  unfold h_quoted_text
  trivial
  simp only [hg]
  trivial
  have hf := flat_len esc_len s
  refine wp_lcM0 [.str s] st s (fun c => .str [c]) (fun c => .str (esc c)) ?_ iter_str (by unfold SL; omega) ?_ ?_
  · trivial
  · intro c hc
    refine ⟨_, rfl, ?_⟩
    trivial
    exact hE (List.all_eq_true.mp h2 c hc)
  · trivial
    refine ⟨_, txs_of esc s, ?_, ?_⟩
    · rw [sum_flat]
      omega
    · rw [joinTx_nil]
      unfold quo
      generalize (s.map esc).flatten = u at hf ⊢
      exact ⟨by omega, by omega, by simp⟩
theorem lawQuoted_ok {R : Rg} {st : Store} {s : Tx} (h1 : s.length ≤ 100000) (h2 : s.all okC = true) : Wp (evSs R h_law_quoted [some (.str s), none, none]) st (fin fun r st' => st' = st ∧ r = .str (quo s)) := by
  unfold h_law_quoted
  trivial
  refine wp_forE [.str s] st (s.map fun c => .str [c]) (fun i env st' => st' = st ∧ ∃ y, env = [some (.str s), some (.str ([34] ++ ((s.take i).map esc).flatten)), y]) ?_ iter_str ⟨rfl, none, rfl⟩ ?_ ?_
  · trivial
  · rintro i x env st' hx ⟨rfl, y, rfl⟩
    rw [List.getElem?_map, Option.map_eq_some_iff] at hx
    obtain ⟨c, hc, rfl⟩ := hx
    have ok : okC c = true := List.all_eq_true.mp h2 c (List.mem_of_getElem? hc)
    have hi : i < s.length := (List.getElem?_eq_some_iff.mp hc).1
    have hf := flat_len esc_len (s.take i)
    have ht : s.take (i + 1) = s.take i ++ [c] := by
      rw [List.take_add_one, hc]
      rfl
    refine ⟨iter_str, _, rfl, ?_⟩
    trivial
    rw [ht, List.map_append, List.flatten_append]
    simp only [List.length_take] at hf
    generalize ((s.take i).map esc).flatten = u at hf ⊢
    simp only [List.mem_cons, List.not_mem_nil, or_false, List.all_cons, List.all_nil, ok, Bool.and_true, Bool.and_self, true_and, List.length_append, List.length_cons, List.length_nil]
    by_cases h1 : c = 34
    · subst h1
      trivial
      simp only [List.length_append, List.length_cons, List.length_nil]
      exact ⟨by omega, by decide, by omega, _, by simp [esc], rfl⟩
    · by_cases h2 : c = 92
      · subst h2
        trivial
        simp only [List.length_append, List.length_cons, List.length_nil]
        exact ⟨by omega, by decide, by omega, _, by simp [esc], rfl⟩
      · by_cases h3 : c = 10
        · subst h3
          trivial
          exact ⟨by decide, by omega, _, by simp [esc], rfl⟩
        · simp only [h1, h2, h3, or_self, if_false]
          trivial
          refine ⟨by decide, by omega, _, by simp [esc, h1, h2, h3], rfl⟩
  · rintro env st' ⟨rfl, y, rfl⟩
    refine ⟨iter_str, ?_⟩
    trivial
    have hf := flat_len esc_len s
    rw [List.take_length]
    unfold quo
    generalize (s.map esc).flatten = u at hf ⊢
    exact ⟨by omega, by simp⟩
/-! ### things shown -/
mutual
def showT : PV → Tx
  | .str s => quo s
  | .tup xs => [40] ++ joinTx [44] (showTs xs) ++ [41]
  | .int i => figs i
  | _ => []
def showTs : List PV → List Tx
  | [] => []
  | x :: r => showT x :: showTs r
end
theorem showTs_map : ∀ xs : List PV, showTs xs = xs.map showT
  | [] => rfl
  | x :: r => by simp [showTs, showTs_map r]
mutual
/-- a thing of k76: at most n deep -/
def sh : Nat → PV → Bool
  | _, .str s => decide (s.length ≤ 100) && s.all okC
  | _, .int i => decide (0 ≤ i) && decide (i < 10 ^ 40)
  | n + 1, .tup xs => decide (xs.length ≤ 10) && shs n xs
  | _, _ => false
def shs : Nat → List PV → Bool
  | _, [] => true
  | n, x :: r => sh n x && shs n r
end
theorem shs_all : ∀ {n : Nat} {xs : List PV}, shs n xs = true ↔ ∀ x ∈ xs, sh n x = true
  | n, [] => by simp [shs]
  | n, y :: r => by simp [shs, shs_all]
theorem sh_str {n : Nat} {s : Tx} : sh n (.str s) = (decide (s.length ≤ 100) && s.all okC) := by cases n <;> simp [sh]
theorem sh_int {n : Nat} {i : Int} : sh n (.int i) = (decide (0 ≤ i) && decide (i < 10 ^ 40)) := by cases n <;> simp [sh]
def sB : Nat → Nat
  | 0 => 210
  | n + 1 => 20 + 11 * sB n
theorem sB_ge (n : Nat) : 210 ≤ sB n := by
  induction n with
  | zero => decide
  | succ n ih =>
    simp only [sB]
    omega
theorem join_len (sep : Tx) : ∀ ys : List Tx, (joinTx sep ys).length ≤ (ys.map fun x => List.length x).sum + ys.length * sep.length
  | [] => by simp [joinTx, TL.joinL]
  | [p] => by simp [joinTx, TL.joinL]
  | p :: q :: r => by
    have ih := join_len sep (q :: r)
    unfold joinTx at ih ⊢
    rw [TL.joinL]
    simp only [List.length_append, List.map_cons, List.sum_cons, List.length_cons, Nat.add_mul, Nat.one_mul] at ih ⊢
    omega
theorem sum_le {α : Type} {f : α → Nat} {k : Nat} : ∀ {l : List α}, (∀ a ∈ l, f a ≤ k) → (l.map f).sum ≤ k * l.length
  | [], _ => by simp
  | a :: l, h => by
    have h1 := h a (by simp)
    have h2 := sum_le (f := f) (k := k) (l := l) fun b hb => h b (by simp [hb])
    simp only [List.map_cons, List.sum_cons, List.length_cons, Nat.mul_succ]
    omega
theorem show_len : ∀ (n : Nat) (p : PV), sh n p = true → (showT p).length ≤ sB n := by
  intro n
  induction n with
  | zero =>
    intro p h
    cases p <;> simp [sh] at h <;> simp only [showT, sB]
    case str s =>
      have := quo_len s
      omega
    case int i =>
      have := figs_len (k := 40) h.1 (by omega) (by simpa using h.2)
      omega
  | succ n ih =>
    intro p h
    have s0 := sB_ge n
    cases p <;> simp [sh] at h <;> simp only [showT, sB]
    case str s =>
      have := quo_len s
      omega
    case int i =>
      have := figs_len (k := 40) h.1 (by omega) (by simpa using h.2)
      omega
    case tup xs =>
      have h1 := join_len [44] (showTs xs)
      have h2 := sum_le (f := fun x => (showT x).length) (k := sB n) (l := xs) fun x hx => ih x (shs_all.mp h.2 x hx)
      have e : ((showTs xs).map fun x => List.length x) = xs.map fun x => (showT x).length := by rw [showTs_map, List.map_map]; rfl
      rw [e] at h1
      have e2 : (showTs xs).length = xs.length := by rw [showTs_map, List.length_map]
      have h3 : sB n * xs.length ≤ sB n * 10 := Nat.mul_le_mul_left _ h.1
      simp only [List.length_append, List.length_cons, List.length_nil]
      simp at h1
      omega
def QuoOk (g : List PV → M PV) : Prop := ∀ {s : Tx} {st : Store}, s.length ≤ 100000 → s.all okC = true → Wp (g [.str s]) st fun r st' => st' = st ∧ r = .str (quo s)
theorem int_log {i : Int} (h0 : 0 ≤ i) (h : i < 10 ^ 40) : i.natAbs.log2 < 1920 := by
  have e1 : (10 ^ 40 : Nat) < 2 ^ 140 := by decide
  have h1 : i.natAbs < 2 ^ 140 := by
    have e3 : i.natAbs < 10 ^ 40 := by omega
    exact Nat.lt_trans e3 e1
  by_cases hz : i.natAbs = 0
  · rw [hz]
    decide
  · have := (Nat.log2_lt hz).mpr h1
    omega
theorem join_bound {n : Nat} {xs : List PV} (hn : n ≤ 3) (h1 : xs.length ≤ 10) (h2 : shs n xs = true) : ((xs.map showT).map fun x => List.length x).sum + (xs.map showT).length * 1 ≤ 3000000 ∧ (joinTx [44] (xs.map showT)).length ≤ 3000000 := by
  have e : ((xs.map showT).map fun x => List.length x) = xs.map fun x => (showT x).length := by rw [List.map_map]; rfl
  have h3 := sum_le (f := fun x => (showT x).length) (k := sB n) (l := xs) fun x hx => show_len n x (shs_all.mp h2 x hx)
  have h4 : sB n * xs.length ≤ sB n * 10 := Nat.mul_le_mul_left _ h1
  have h5 : sB n ≤ 282170 := by
    have : n = 0 ∨ n = 1 ∨ n = 2 ∨ n = 3 := by omega
    rcases this with rfl | rfl | rfl | rfl <;> decide
  have h6 := join_len [44] (xs.map showT)
  rw [e] at h6 ⊢
  simp only [List.length_map, List.length_cons, List.length_nil] at h6 ⊢
  omega
theorem show_ok {R : Rg} {fq fs : Nat} (hQ : QuoOk (R.fn fq)) {n : Nat} (ih : ∀ m x, n = m + 1 → sh m x = true → ∀ {st : Store}, Wp (R.fn fs [x]) st fun r st' => st' = st ∧ r = .str (showT x)) {p : PV} {st : Store} (hn : n ≤ 4) (hp : sh n p = true) :
    Wp (evSs R (h_show_thing fq fs) [some p, none]) st (fin fun r st' => st' = st ∧ r = .str (showT p)) := by
  unfold h_show_thing
  cases p with
  | str s =>
    rw [sh_str, Bool.and_eq_true, decide_eq_true_eq] at hp
    trivial
    refine (hQ (by omega) hp.2).mono ?_
    rintro r st' ⟨rfl, rfl⟩
    exact ⟨rfl, rfl⟩
  | int i =>
    rw [sh_int, Bool.and_eq_true, decide_eq_true_eq, decide_eq_true_eq] at hp
    trivial
    exact ⟨int_log hp.1 hp.2, rfl⟩
  | tup xs =>
    obtain ⟨m, rfl⟩ : ∃ m, n = m + 1 := ⟨n - 1, by cases n <;> simp [sh] at hp ⊢⟩
    simp only [sh, Bool.and_eq_true, decide_eq_true_eq] at hp
    trivial
    refine wp_lcM0 [.tup xs] st xs id (fun x => .str (showT x)) ?_ (by simp [iterS]) (by unfold SL; omega) ?_ ?_
    · trivial
    · intro x hx
      refine ⟨_, rfl, ?_⟩
      trivial
      exact ih m x rfl (shs_all.mp hp.2 x hx)
    · trivial
      obtain ⟨j1, j2⟩ := join_bound (n := m) (by omega) hp.1 hp.2
      refine ⟨_, txs_of showT xs, Nat.le_trans j1 (by decide), ?_⟩
      simp only [showT, showTs_map]
      generalize joinTx [44] (xs.map showT) = u at j2 ⊢
      exact ⟨by omega, by omega, by simp⟩
  | _ => cases n <;> simp [sh] at hp
theorem lawShow_ok {R : Rg} {fq fs : Nat} (hQ : QuoOk (R.fn fq)) {n : Nat} (ih : ∀ m x, n = m + 1 → sh m x = true → ∀ {st : Store}, Wp (R.fn fs [x]) st fun r st' => st' = st ∧ r = .str (showT x)) {p : PV} {st : Store} (hn : n ≤ 4) (hp : sh n p = true) :
    Wp (evSs R (h_law_show_thing fs fq) [some p, none]) st (fin fun r st' => st' = st ∧ r = .str (showT p)) := by
  unfold h_law_show_thing
  cases p with
  | str s =>
    rw [sh_str, Bool.and_eq_true, decide_eq_true_eq] at hp
    trivial
    refine (hQ (by omega) hp.2).mono ?_
    rintro r st' ⟨rfl, rfl⟩
    exact ⟨rfl, rfl⟩
  | int i =>
    rw [sh_int, Bool.and_eq_true, decide_eq_true_eq, decide_eq_true_eq] at hp
    trivial
    exact ⟨int_log hp.1 hp.2, rfl⟩
  | tup xs =>
    obtain ⟨m, rfl⟩ : ∃ m, n = m + 1 := ⟨n - 1, by cases n <;> simp [sh] at hp ⊢⟩
    simp only [sh, Bool.and_eq_true, decide_eq_true_eq] at hp
    trivial
    refine wp_lcM0 [.tup xs] st xs id (fun x => .str (showT x)) ?_ (by simp [iterS]) (by unfold SL; omega) ?_ ?_
    · trivial
    · intro x hx
      refine ⟨_, rfl, ?_⟩
      trivial
      exact ih m x rfl (shs_all.mp hp.2 x hx)
    · trivial
      obtain ⟨j1, j2⟩ := join_bound (n := m) (by omega) hp.1 hp.2
      refine ⟨_, txs_of showT xs, Nat.le_trans j1 (by decide), ?_⟩
      simp only [showT, showTs_map]
      generalize joinTx [44] (xs.map showT) = u at j2 ⊢
      exact ⟨by omega, by omega, by simp⟩
  | _ => cases n <;> simp [sh] at hp
def everyC : Tx := [34, 92, 10, 32, 33, 35, 36, 38, 39, 40, 41, 42, 43, 44, 45, 46, 47, 48, 49, 50, 51, 52, 53, 54, 55, 56, 57, 58, 59, 60, 61, 62, 63, 64, 65, 66, 67, 88, 89, 90, 91, 93, 94, 95, 96, 97, 98, 99, 110, 120, 121, 122, 123, 124, 125, 126, 34, 92, 10, 34, 92]
def AnyTextOk (g : List PV → M PV) : Prop := ∀ {c : Nat} {st : Store} {l : Int}, IsP c st → 0 ≤ l → l ≤ 50 → Wp (g [.cell c, .int l]) st fun r st' => ∃ s, r = .str s ∧ s.length ≤ 9 + l.toNat ∧ l.toNat ≤ s.length ∧ s.all okC = true ∧ IsP c st'
theorem anyText_ok {R : Rg} {f : Nat} (hT : TakeOk (R.fn f)) {c : Nat} {st : Store} {l : Int} (hp : IsP c st) (l0 : 0 ≤ l) (l1 : l ≤ 50) : Wp (evSs R (h_law_any_text f) [some (.cell c), some (.int l), none, none]) st (fin fun r st' => ∃ s, r = .str s ∧ s.length ≤ 9 + l.toNat ∧ l.toNat ≤ s.length ∧ s.all okC = true ∧ IsP c st') := by
  unfold h_law_any_text
  trivial
  refine wp_lc ?_
  trivial
  refine (hT hp (by omega) (by decide)).mono ?_
  rintro r st1 ⟨i, rfl, i0, i1, hp1⟩
  obtain ⟨k, hk, k0, k9⟩ : ∃ k : Int, L2.atI [PV.int 0, PV.int 1, PV.int 3, PV.int 9] i = some (.int k) ∧ 0 ≤ k ∧ k ≤ 9 := by
    obtain rfl | rfl | rfl | rfl : i = 0 ∨ i = 1 ∨ i = 2 ∨ i = 3 := by omega
    · exact ⟨0, atI_0, by omega, by omega⟩
    · exact ⟨1, atI_1, by omega, by omega⟩
    · exact ⟨3, atI_2, by omega, by omega⟩
    · exact ⟨9, atI_3, by omega, by omega⟩
  trivial
  refine ⟨_, hk, ?_⟩
  trivial
  have itr : ∀ st, iterS .range1 [.int (l + k)] st = some ((List.range (l + k).toNat).map fun (k : Nat) => PV.int k) := fun st => iter_range1 (by omega) (by omega)
  refine ⟨_, itr _, fun i acc st => ∃ t : List Nat, acc = t.map (fun c => .str [c]) ∧ t.length = i ∧ t.all okC = true ∧ IsP c st, ⟨[], rfl, rfl, rfl, hp1⟩, ?_, ?_⟩
  · rintro j x acc st3 hx ⟨t, rfl, rfl, h3, hp3⟩
    have hj : t.length < (l + k).toNat := by
      have := (List.getElem?_eq_some_iff.mp hx).1
      simpa using this
    refine ⟨itr _, ?_⟩
    refine (hT hp3 (by omega) (by decide)).mono ?_
    rintro r st4 ⟨a, rfl, a0, a1, hp4⟩
    trivial
    obtain ⟨d, hd, e⟩ := atI_mem (xs := everyC) a0 (by simpa [everyC] using a1)
    refine ⟨d, e, ?_⟩
    refine ⟨by omega, t ++ [d], by simp, by simp, ?_, hp4⟩
    rw [List.all_append, h3]
    have : ∀ d ∈ everyC, okC d = true := by decide
    simp [this d hd]
  · rintro acc st3 ⟨t, rfl, h2, h3, hp3⟩
    rw [List.length_map, List.length_range] at h2
    refine ⟨itr _, ?_⟩
    trivial
    refine ⟨_, txs_map t, ?_, ?_⟩
    · rw [sum_chars]
      omega
    · rw [join_chars]
      exact ⟨by omega, by omega, h3, hp3⟩
/-! ### things drawn -/
def Thing2Ok (d : Nat) (g : List PV → M PV) : Prop := ∀ {c : Nat} {st : Store}, IsP c st → Wp (g [.cell c, .int d]) st fun r st' => sh d r = true ∧ IsP c st'
theorem thing2_ok {R : Rg} {fk fa ft : Nat} (hT : TakeOk (R.fn fk)) (hA : AnyTextOk (R.fn fa)) {d : Nat} (hd : d ≤ 3) (ih : ∀ e, d = e + 1 → Thing2Ok e (R.fn ft)) {c : Nat} {st : Store} (hp : IsP c st) :
    Wp (evSs R (h_law_thing_2 fk fa ft) [some (.cell c), some (.int d), none, none]) st (fin fun r st' => sh d r = true ∧ IsP c st') := by
  unfold h_law_thing_2
  trivial
  have w0 : ∃ m : Int, (m = 2 ∧ d = 0 ∨ m = 3 ∧ 0 < d) ∧ ∀ P : PV → Prop, P (.int m) → (if (0 : Int) < d then P (.int 3) else P (.int 2)) := by
    by_cases h : (0 : Int) < d
    · exact ⟨3, .inr ⟨rfl, by omega⟩, fun P q => by rw [if_pos h]; exact q⟩
    · exact ⟨2, .inl ⟨rfl, by omega⟩, fun P q => by rw [if_neg h]; exact q⟩
  obtain ⟨m, hm, hw⟩ := w0
  refine hw (fun v => Wp (R.fn fk [.cell c, v]) st _) ?_
  refine (hT hp (by omega) (by rcases hm with ⟨rfl, _⟩ | ⟨rfl, _⟩ <;> decide)).mono ?_
  rintro r st1 ⟨w, rfl, w0, w1, hp1⟩
  trivial
  have rst : ∀ st1, IsP c st1 → (if w = 0 then Wp (R.fn fa [.cell c, .int 0]) st1 fun r st' => sh d r = true ∧ IsP c st'
      else if w = 1 then Wp (R.fn fk [.cell c, .int 4]) st1 fun y st2 => Wp (idxM (.lst [.int 1, .int 3, .int 1000, .int 10000000000000000000000000000000000000000]) y) st2 fun x st1 => Wp (R.fn fk [.cell c, x]) st1 fun r st' => sh d r = true ∧ IsP c st'
      else Wp (ev R (.lc (.call ft [.var 0, .bin .sub (.var 1) (.cst (.int 1))]) (.name 3) .range1 [.call fk [.var 0, .cst (.int 4)]] [] [3]) [some (.cell c), some (.int d), some (.int w), none]) st1 fun x st1 => Wp (bi .tuple [x]) st1 fun r st' => sh d r = true ∧ IsP c st') := by
    intro st1 hp1
    split
    · refine (hA hp1 (by omega) (by omega)).mono ?_
      rintro r st2 ⟨s, rfl, s1, s2, s3, hp2⟩
      refine ⟨?_, hp2⟩
      rw [sh_str, s3, Bool.and_true]
      exact decide_eq_true (by simp at s1; omega)
    · split
      · refine (hT hp1 (by omega) (by decide)).mono ?_
        rintro r st2 ⟨a, rfl, a0, a1, hp2⟩
        obtain ⟨k, hk, k0, k1⟩ : ∃ k : Int, L2.atI [PV.int 1, PV.int 3, PV.int 1000, PV.int 10000000000000000000000000000000000000000] a = some (.int k) ∧ 0 < k ∧ k ≤ 10 ^ 40 := by
          obtain rfl | rfl | rfl | rfl : a = 0 ∨ a = 1 ∨ a = 2 ∨ a = 3 := by omega
          · exact ⟨1, atI_0, by omega, by omega⟩
          · exact ⟨3, atI_1, by omega, by omega⟩
          · exact ⟨1000, atI_2, by omega, by omega⟩
          · exact ⟨10 ^ 40, atI_3, by omega, by omega⟩
        trivial
        refine ⟨_, hk, (hT hp2 k0 ?_).mono ?_⟩
        · have hz : k.natAbs ≠ 0 := by omega
          have e1 : (10 ^ 40 : Nat) < 2 ^ 140 := by decide
          have h1 : k.natAbs < 2 ^ 140 := by
            have e3 : k.natAbs ≤ 10 ^ 40 := by omega
            exact Nat.lt_of_le_of_lt e3 e1
          have := (Nat.log2_lt hz).mpr h1
          omega
        · rintro r st3 ⟨b, rfl, b0, b1, hp3⟩
          refine ⟨?_, hp3⟩
          rw [sh_int, Bool.and_eq_true, decide_eq_true_eq, decide_eq_true_eq]
          exact ⟨b0, by omega⟩
      · obtain ⟨e, rfl⟩ : ∃ e, d = e + 1 := ⟨d - 1, by omega⟩
        refine wp_lc ?_
        trivial
        refine (hT hp1 (by omega) (by decide)).mono ?_
        rintro r st2 ⟨a, rfl, a0, a1, hp2⟩
        have itr : ∀ st, iterS .range1 [.int a] st = some ((List.range a.toNat).map fun (k : Nat) => PV.int k) := fun st => iter_range1 (by omega) (by omega)
        refine ⟨_, itr _, fun i acc st => acc.length = i ∧ shs e acc = true ∧ IsP c st, ⟨rfl, by simp [shs], hp2⟩, ?_, ?_⟩
        · rintro i x acc st3 hx ⟨rfl, a2, hp3⟩
          have hi : acc.length < a.toNat := by
            have := (List.getElem?_eq_some_iff.mp hx).1
            simpa using this
          refine ⟨itr _, ?_⟩
          have ee : ((e + 1 : Nat) : Int) - 1 = (e : Int) := by omega
          rw [ee]
          refine (ih e rfl hp3).mono ?_
          rintro r st4 ⟨r1, hp4⟩
          refine ⟨by omega, by simp, ?_, hp4⟩
          rw [shs_all] at a2 ⊢
          intro x hx
          rcases List.mem_append.mp hx with hx | hx
          · exact a2 x hx
          · rw [List.mem_singleton.mp hx]
            exact r1
        · rintro acc st3 ⟨a1, a2, hp3⟩
          rw [List.length_map, List.length_range] at a1
          refine ⟨itr _, ?_⟩
          trivial
          refine ⟨?_, hp3⟩
          simp only [sh, a2, Bool.and_true]
          exact decide_eq_true (by omega)
  by_cases h3 : (d : Int) = 3
  · rw [if_pos h3]
    refine (hT hp1 (by omega) (by decide)).mono ?_
    rintro r st2 ⟨a, rfl, a0, a1, hp2⟩
    trivial
    split
    · refine (hT hp2 (by omega) (by decide)).mono ?_
      rintro r st3 ⟨b, rfl, b0, b1, hp3⟩
      trivial
      refine ⟨⟨by omega, by omega, by omega⟩, ?_, hp3⟩
      obtain rfl : d = 2 + 1 := by omega
      simp only [sh, Bool.and_eq_true, decide_eq_true_eq]
      refine ⟨by simp; omega, ?_⟩
      rw [shs_all]
      intro x hx
      obtain ⟨k, hk, rfl⟩ := List.mem_map.mp hx
      have := List.mem_range.mp hk
      rw [sh_int, Bool.and_eq_true, decide_eq_true_eq, decide_eq_true_eq]
      exact ⟨by omega, by omega⟩
    · exact rst _ hp2
  · rw [if_neg h3, if_neg h3]
    exact rst _ hp1
theorem figs_nat (n : Nat) : figs (n : Int) = (Nat.toDigits 10 n).map Char.toNat := by
  unfold figs
  rw [show toString (n : Int) = Nat.repr n from rfl]
  simp [Nat.repr]
theorem figs_okC {i : Int} (h : 0 ≤ i) : (figs i).all okC = true := by
  obtain ⟨n, rfl⟩ : ∃ n : Nat, i = n := ⟨i.toNat, by omega⟩
  rw [figs_nat, List.all_map, List.all_eq_true]
  intro ch hch
  have r := Nat.isDigit_of_mem_toDigits (by decide) (by decide) hch
  have hr : ch.toNat ≤ 57 := by
    unfold Char.isDigit at r
    simp only [Bool.and_eq_true, decide_eq_true_eq] at r
    exact r.2
  simp only [Function.comp, okC, decide_eq_true_eq]
  omega
theorem join_okC {sep : Tx} (hs : sep.all okC = true) : ∀ ys : List Tx, (∀ t ∈ ys, t.all okC = true) → (joinTx sep ys).all okC = true
  | [], _ => by simp [joinTx, TL.joinL]
  | [p], h => by simpa [joinTx, TL.joinL] using h p (by simp)
  | p :: q :: r, h => by
    have ih := join_okC hs (q :: r) fun t ht => h t (List.mem_cons_of_mem _ ht)
    have hp := h p (by simp)
    unfold joinTx at ih ⊢
    rw [TL.joinL, List.all_append, List.all_append, hp, hs, ih]
    rfl
mutual
theorem show_okC : ∀ (n : Nat) (p : PV), sh n p = true → (showT p).all okC = true
  | n, .str s, h => by
    rw [sh_str, Bool.and_eq_true] at h
    have he : ∀ c, okC c = true → (esc c).all okC = true := by
      intro c hc
      unfold esc
      split
      · decide
      · split
        · decide
        · split
          · decide
          · simp [hc]
    simp only [showT, quo, List.all_append, List.all_flatten, List.all_map, Bool.and_eq_true]
    refine ⟨⟨by decide, ?_⟩, by decide⟩
    rw [List.all_eq_true] at h ⊢
    exact fun c hc => he c (h.2 c hc)
  | n, .int i, h => by
    rw [sh_int, Bool.and_eq_true, decide_eq_true_eq] at h
    simp only [showT]
    exact figs_okC h.1
  | 0, .tup xs, h => by simp [sh] at h
  | n + 1, .tup xs, h => by
    simp only [sh, Bool.and_eq_true] at h
    have ih := shows_okC n xs h.2
    simp only [showT, List.all_append, Bool.and_eq_true]
    exact ⟨⟨by decide, join_okC (by decide) _ ih⟩, by decide⟩
  | n, .non, h => by cases n <;> simp [sh] at h
  | n, .bl _, h => by cases n <;> simp [sh] at h
  | n, .lst _, h => by cases n <;> simp [sh] at h
  | n, .dct _ _, h => by cases n <;> simp [sh] at h
  | n, .cell _, h => by cases n <;> simp [sh] at h
theorem shows_okC : ∀ (n : Nat) (xs : List PV), shs n xs = true → ∀ t ∈ showTs xs, t.all okC = true
  | n, [], _, t, ht => by simp [showTs] at ht
  | n, x :: r, h, t, ht => by
    simp only [shs, Bool.and_eq_true] at h
    simp only [showTs, List.mem_cons] at ht
    rcases ht with rfl | ht
    · exact show_okC n x h.1
    · exact shows_okC n r h.2 t ht
end
end Lt

namespace K76
open PySem PySem.Spec PyProof.Rows L2 Lt
def topS (i : Nat) : Stmt := PySem.Challenge.pw_readtell_k76_things_shown.main.body.getD i (.Pass ⟨0, 0, 0, 0⟩)
/-- escaped_sign -/
def b0 : List LS := h_escaped_sign 0
def d0 : Df := ⟨1, 3, b0⟩
def n0 : List Str := ["sign", "told", "meant"]
def p0 : List Str := ["sign"]
/-- quoted_text -/
def b1 : List LS := h_quoted_text 1 0
def d1 : Df := ⟨1, 2, b1⟩
def n1 : List Str := ["text", "sign"]
def p1 : List Str := ["text"]
/-- show_thing -/
def b2 : List LS := h_show_thing 1 2
def d2 : Df := ⟨1, 2, b2⟩
def n2 : List Str := ["thing", "inner"]
def p2 : List Str := ["thing"]
/-- _law_pot -/
def b3 : List LS := h_law_pot_2
def d3 : Df := ⟨2, 3, b3⟩
def n3 : List Str := ["_law_cell", "_law_seed_here", "_law_number"]
def p3 : List Str := ["_law_cell", "_law_seed_here"]
/-- _law_take -/
def b4 : List LS := h_law_take
def d4 : Df := ⟨2, 4, b4⟩
def n4 : List Str := ["_law_pot_here", "_law_many", "_law_twice", "_law_value"]
def p4 : List Str := ["_law_pot_here", "_law_many"]
/-- _law_seed -/
def b5 : List LS := h_law_seed
def d5 : Df := ⟨1, 3, b5⟩
def n5 : List Str := ["_law_script", "_law_seed_here", "_law_cell"]
def p5 : List Str := ["_law_script"]
/-- _law_any_text -/
def b6 : List LS := h_law_any_text 4
def d6 : Df := ⟨2, 4, b6⟩
def n6 : List Str := ["_law_pot_here", "_law_least", "_law_every", "_law_k"]
def p6 : List Str := ["_law_pot_here", "_law_least"]
/-- _law_thing -/
def b7 : List LS := h_law_thing_2 4 6 7
def d7 : Df := ⟨2, 4, b7⟩
def n7 : List Str := ["_law_pot_here", "_law_deep", "_law_way", "_law_k"]
def p7 : List Str := ["_law_pot_here", "_law_deep"]
/-- _law_quoted -/
def b8 : List LS := h_law_quoted
def d8 : Df := ⟨1, 3, b8⟩
def n8 : List Str := ["_law_text", "_law_told", "_law_sign"]
def p8 : List Str := ["_law_text"]
/-- _law_show_thing -/
def b9 : List LS := h_law_show_thing 9 8
def d9 : Df := ⟨1, 2, b9⟩
def n9 : List Str := ["_law_thing_here", "_law_one"]
def p9 : List Str := ["_law_thing_here"]
/-- law -/
def b10 : List LS := [.set (.name 1) (.call 5 [.var 0]),
    .set (.name 2) (.slc (.bin .add (.var 0) (.lst [.cst (.int 0), .cst (.int 1), .cst (.int 2), .cst (.int 3)])) false (.cst .non) true (.cst (.int 4))),
    .for_ (.tup [.name 3, .name 4]) .enum [.bin .add (.var 2) (.slc (.var 0) true (.cst (.int 4)) true (.cst (.int 16)))] [.set (.name 5) (.call 3 [.var 4, .bin .add (.var 1) (.bin .mul (.cst (.int 31)) (.var 3))]), .set (.name 6) (.bin .add (.lc (.call 7 [.var 5, .cst (.int 3)]) (.name 9) .range1 [.cst (.int 6)] [] [9]) (.lst [.cst (.str []), .cst (.int 0), .tup [], .tup [.tup []], .cst (.str [34]), .cst (.str [92, 110]), .tup [.cst (.str []), .tup [.cst (.int 0), .cst (.str [10])]]])), .for_ (.name 7) .seq [.bin .add (.var 6) (.slc (.var 6) false (.cst .non) true (.cst (.int 2)))] [.set (.name 8) (.call 2 [.var 7]), .ife (.or [.not (.isi (.var 8) .str), .cmp .ne (.var 8) (.call 9 [.var 7])]) [.ret (.cst (.bl false))] []]],
    .ret (.cst (.bl true))]
def d10 : Df := ⟨1, 10, b10⟩
def n10 : List Str := ["_law_script", "_law_seed_here", "_law_cells", "_law_k", "_law_cell", "_law_pot_here", "_law_things", "_law_thing_here", "_law_told", "_law_turn"]
def p10 : List Str := ["_law_script"]
def T : Tab := ⟨[("TURNS", .tup [.tup [.str [92, 34], .str [34]], .tup [.str [92, 92], .str [92]], .tup [.str [92, 110], .str [10]]]), ("QUOTE", .str [34])], [("escaped_sign", d0), ("quoted_text", d1), ("show_thing", d2), ("_law_pot", d3), ("_law_take", d4), ("_law_seed", d5), ("_law_any_text", d6), ("_law_thing", d7), ("_law_quoted", d8), ("_law_show_thing", d9), ("law", d10)], ["isinstance", "str", "tuple", "abs", "int", "range", "len", "list", "enumerate"]⟩
theorem sc0 : FnScope n0 p0 (defScope (topS 3)) := ⟨rfl, rfl, rfl, by decide +kernel, rfl, by decide +kernel, by decide +kernel⟩
theorem ck0 : chkSs T n0 (defScope (topS 3)) d0.body (defBody (topS 3)) = true := by decide +kernel
theorem sc1 : FnScope n1 p1 (defScope (topS 4)) := ⟨rfl, rfl, rfl, by decide +kernel, rfl, by decide +kernel, by decide +kernel⟩
theorem ck1 : chkSs T n1 (defScope (topS 4)) d1.body (defBody (topS 4)) = true := by decide +kernel
theorem sc2 : FnScope n2 p2 (defScope (topS 6)) := ⟨rfl, rfl, rfl, by decide +kernel, rfl, by decide +kernel, by decide +kernel⟩
theorem ck2 : chkSs T n2 (defScope (topS 6)) d2.body (defBody (topS 6)) = true := by decide +kernel
theorem sc3 : FnScope n3 p3 (defScope (topS 8)) := ⟨rfl, rfl, rfl, by decide +kernel, rfl, by decide +kernel, by decide +kernel⟩
theorem ck3 : chkSs T n3 (defScope (topS 8)) d3.body (defBody (topS 8)) = true := by decide +kernel
theorem sc4 : FnScope n4 p4 (defScope (topS 9)) := ⟨rfl, rfl, rfl, by decide +kernel, rfl, by decide +kernel, by decide +kernel⟩
theorem ck4 : chkSs T n4 (defScope (topS 9)) d4.body (defBody (topS 9)) = true := by decide +kernel
theorem sc5 : FnScope n5 p5 (defScope (topS 10)) := ⟨rfl, rfl, rfl, by decide +kernel, rfl, by decide +kernel, by decide +kernel⟩
theorem ck5 : chkSs T n5 (defScope (topS 10)) d5.body (defBody (topS 10)) = true := by decide +kernel
theorem sc6 : FnScope n6 p6 (defScope (topS 11)) := ⟨rfl, rfl, rfl, by decide +kernel, rfl, by decide +kernel, by decide +kernel⟩
theorem ck6 : chkSs T n6 (defScope (topS 11)) d6.body (defBody (topS 11)) = true := by decide +kernel
theorem sc7 : FnScope n7 p7 (defScope (topS 12)) := ⟨rfl, rfl, rfl, by decide +kernel, rfl, by decide +kernel, by decide +kernel⟩
theorem ck7 : chkSs T n7 (defScope (topS 12)) d7.body (defBody (topS 12)) = true := by decide +kernel
theorem sc8 : FnScope n8 p8 (defScope (topS 13)) := ⟨rfl, rfl, rfl, by decide +kernel, rfl, by decide +kernel, by decide +kernel⟩
theorem ck8 : chkSs T n8 (defScope (topS 13)) d8.body (defBody (topS 13)) = true := by decide +kernel
theorem sc9 : FnScope n9 p9 (defScope (topS 14)) := ⟨rfl, rfl, rfl, by decide +kernel, rfl, by decide +kernel, by decide +kernel⟩
theorem ck9 : chkSs T n9 (defScope (topS 14)) d9.body (defBody (topS 14)) = true := by decide +kernel
theorem sc10 : FnScope n10 p10 (defScope (topS 15)) := ⟨rfl, rfl, rfl, by decide +kernel, rfl, by decide +kernel, by decide +kernel⟩
theorem ck10 : chkSs T n10 (defScope (topS 15)) d10.body (defBody (topS 15)) = true := by decide +kernel
theorem r0 {fu k : Nat} {a0 : PV} {st : Store} {Q : PV → Store → Prop} : Wp ((T.rg fu (k + 1)).fn 0 [a0]) st Q ↔ Wp (evSs (T.rg fu k) b0 [some a0, none, none]) st (fin Q) := (wp_run (R := T.rg fu k) (d := d0) (ps := [a0])).trans ⟨fun h => h.2, fun h => ⟨rfl, h⟩⟩
theorem r1 {fu k : Nat} {a0 : PV} {st : Store} {Q : PV → Store → Prop} : Wp ((T.rg fu (k + 1)).fn 1 [a0]) st Q ↔ Wp (evSs (T.rg fu k) b1 [some a0, none]) st (fin Q) := (wp_run (R := T.rg fu k) (d := d1) (ps := [a0])).trans ⟨fun h => h.2, fun h => ⟨rfl, h⟩⟩
theorem r2 {fu k : Nat} {a0 : PV} {st : Store} {Q : PV → Store → Prop} : Wp ((T.rg fu (k + 1)).fn 2 [a0]) st Q ↔ Wp (evSs (T.rg fu k) b2 [some a0, none]) st (fin Q) := (wp_run (R := T.rg fu k) (d := d2) (ps := [a0])).trans ⟨fun h => h.2, fun h => ⟨rfl, h⟩⟩
theorem r3 {fu k : Nat} {a0 a1 : PV} {st : Store} {Q : PV → Store → Prop} : Wp ((T.rg fu (k + 1)).fn 3 [a0, a1]) st Q ↔ Wp (evSs (T.rg fu k) b3 [some a0, some a1, none]) st (fin Q) := (wp_run (R := T.rg fu k) (d := d3) (ps := [a0, a1])).trans ⟨fun h => h.2, fun h => ⟨rfl, h⟩⟩
theorem r4 {fu k : Nat} {a0 a1 : PV} {st : Store} {Q : PV → Store → Prop} : Wp ((T.rg fu (k + 1)).fn 4 [a0, a1]) st Q ↔ Wp (evSs (T.rg fu k) b4 [some a0, some a1, none, none]) st (fin Q) := (wp_run (R := T.rg fu k) (d := d4) (ps := [a0, a1])).trans ⟨fun h => h.2, fun h => ⟨rfl, h⟩⟩
theorem r5 {fu k : Nat} {a0 : PV} {st : Store} {Q : PV → Store → Prop} : Wp ((T.rg fu (k + 1)).fn 5 [a0]) st Q ↔ Wp (evSs (T.rg fu k) b5 [some a0, none, none]) st (fin Q) := (wp_run (R := T.rg fu k) (d := d5) (ps := [a0])).trans ⟨fun h => h.2, fun h => ⟨rfl, h⟩⟩
theorem r6 {fu k : Nat} {a0 a1 : PV} {st : Store} {Q : PV → Store → Prop} : Wp ((T.rg fu (k + 1)).fn 6 [a0, a1]) st Q ↔ Wp (evSs (T.rg fu k) b6 [some a0, some a1, none, none]) st (fin Q) := (wp_run (R := T.rg fu k) (d := d6) (ps := [a0, a1])).trans ⟨fun h => h.2, fun h => ⟨rfl, h⟩⟩
theorem r7 {fu k : Nat} {a0 a1 : PV} {st : Store} {Q : PV → Store → Prop} : Wp ((T.rg fu (k + 1)).fn 7 [a0, a1]) st Q ↔ Wp (evSs (T.rg fu k) b7 [some a0, some a1, none, none]) st (fin Q) := (wp_run (R := T.rg fu k) (d := d7) (ps := [a0, a1])).trans ⟨fun h => h.2, fun h => ⟨rfl, h⟩⟩
theorem r8 {fu k : Nat} {a0 : PV} {st : Store} {Q : PV → Store → Prop} : Wp ((T.rg fu (k + 1)).fn 8 [a0]) st Q ↔ Wp (evSs (T.rg fu k) b8 [some a0, none, none]) st (fin Q) := (wp_run (R := T.rg fu k) (d := d8) (ps := [a0])).trans ⟨fun h => h.2, fun h => ⟨rfl, h⟩⟩
theorem r9 {fu k : Nat} {a0 : PV} {st : Store} {Q : PV → Store → Prop} : Wp ((T.rg fu (k + 1)).fn 9 [a0]) st Q ↔ Wp (evSs (T.rg fu k) b9 [some a0, none]) st (fin Q) := (wp_run (R := T.rg fu k) (d := d9) (ps := [a0])).trans ⟨fun h => h.2, fun h => ⟨rfl, h⟩⟩
theorem r10 {fu k : Nat} {a0 : PV} {st : Store} {Q : PV → Store → Prop} : Wp ((T.rg fu (k + 1)).fn 10 [a0]) st Q ↔ Wp (evSs (T.rg fu k) b10 [some a0, none, none, none, none, none, none, none, none, none]) st (fin Q) := (wp_run (R := T.rg fu k) (d := d10) (ps := [a0])).trans ⟨fun h => h.2, fun h => ⟨rfl, h⟩⟩
theorem gl0 {fu k : Nat} : (T.rg fu k).gl 0 = some (.tup [.tup [.str [92, 34], .str [34]], .tup [.str [92, 92], .str [92]], .tup [.str [92, 110], .str [10]]]) := rfl
theorem gl1 {fu k : Nat} : (T.rg fu k).gl 1 = some (.str [34]) := rfl
theorem fuE {fu k : Nat} : (T.rg fu k).fu = fu := rfl
end K76

section
open Lt
local macro_rules | `(tactic| trivial) => `(tactic| try simp only [wp_pr, wp_no, wp_bd, wp_grd, wp_ofO, wp_var, wp_cst, wp_glob, wp_bin, wp_neg, wp_cmp, wp_chn, wp_and1, wp_and2, wp_or1, wp_or2, wp_and, wp_or, wp_not, wp_ife, wp_nil, wp_cons, wp_tup, wp_lst, wp_lstC, wp_pnil, wp_pcons, wp_dct, wp_dctC, wp_idx, wp_slc, wp_slcF, wp_slcT, wp_call, wp_bi, wp_me, wp_isi, wp_if0, wp_if1, wp_sp, wp_lrange1, wp_lrange2, wp_trange1, wp_trange2, wp_intB, wp_fl0, wp_fl1, asg_name, asg_tup, asgs_nil, asgs_cons, Option.bind_some, iter_lst, iter_tup, iter_str,
  wp_add, wp_addS, wp_addT, wp_addL, wp_addCL, wp_addLC, wp_sub, wp_mul, wp_mulS, wp_mulL, wp_mulT, wp_fdiv, wp_mod, wp_pow, wp_eq, wp_ne, wp_lt, wp_le, wp_gt, wp_ge, wp_ltS, wp_leS, wp_isN, wp_isnN, wp_isB, wp_isnB, wp_inS, wp_notinS, wp_inT, wp_notinT, wp_inL, wp_notinL, wp_trN, wp_trB, wp_trI, wp_trS, wp_trT, wp_trL, wp_idxS, wp_idxT, wp_idxL, wp_idxD,
  wp_slcS, wp_slcTu, wp_slcL, wp_lenS, wp_lenT, wp_lenD, wp_lenL, wp_abs, wp_intI, wp_strI, wp_ord, wp_all, wp_any, wp_tupL, wp_tupT, wp_tupC, wp_listT, wp_listL, wp_min2, wp_max2, wp_isiM, wp_recvS, wp_join, wp_joinT, wp_joinC, wp_upper, wp_starts,
  lsC_l, snC_l, seen_cell, seen_non, seen_bl, seen_int, seen_str, seen_tup, seen_lst, seen_dct, itemsL_cell, itemsL_lst, atC_l, atC_d, wp_idxC, lenC_l, lenC_d, wp_lenC, trC_l, trC_d, wp_trC, liC_l, wp_recvCe, wp_appendC, wp_pop1C, wp_pop0C, stC_l, stC_d, wp_setM, wp_extend, tyC_l, tyC_d, isTy_non, isTy_bl, isTy_int, isTy_str, isTy_tup, isTy_lst, isTy_dct, isTy_cell,
  nxt_nx, nxt_rt, nxt_bk, nxt_ct, fin_nx, fin_rt, lp_nx, lp_ct, lp_bk, lp_rt, wp_snil, wp_seq, wp_setN, wp_setI, wp_expr, wp_ret, wp_retN, wp_brk, wp_cnt, wp_pas, wp_if,
  List.getElem?_cons_zero, List.getElem?_cons_succ, List.set_cons_zero, List.set_cons_succ, List.length_cons, List.length_nil, Option.some.injEq, exists_eq_left', PV.int.injEq, PV.str.injEq, PV.bl.injEq, PV.lst.injEq, PV.tup.injEq, PV.cell.injEq, Nat.reduceAdd, Nat.reduceLT, Nat.reduceLeDiff, true_and, and_true, Bool.false_eq_true, Bool.true_eq_false, if_true, if_false, Bool.not_true, Bool.not_false, ME.ofStr, dkOf, exists_eq_left, dfind_nil, dfind_cons, okD_non, okD_bl, okD_int, okD_str, okD_lst, okD_tup, okDs_nil, okDs_cons, okDs_ints, eqv_non, eqv_bl, eqv_int, eqv_str, eqv_tup, eqv_lst, eqvs_nil, eqvs_cons, eqvs_n0, eqvs_0n, eqvs_intsN, atI_int, ex_map, atI_0, atI_1, atI_2, atI_3, atI_4, atI_5, atI_6, atI_7, atI_8, atI_9, ixN_0, ixN_1, ixN_2, beq_eq_false_iff_ne, ne_eq, not_true_eq_false, not_false_eq_true, Bool.or_eq_false_iff, Bool.and_eq_false_imp, decide_eq_false_iff_not, Bool.or_false, Bool.or_true, Bool.false_or, Bool.true_or, or_false, or_true, false_or, true_or, wipeE_nil, wipeE_cons, forall_const, true_implies, cpow_iff, keysOf_nil, keysOf_str, keysOf_int, dmerge_nil, dmerge_cons, Option.map_some, List.zip_cons_cons, List.zip_nil_left, Int.reduceLE, Int.reduceNeg, wp_optI, dput_nil, dput_cons, List.length_map, SL, Nat.zero_le, List.isEmpty_nil, List.isEmpty_cons,
  Sum.inr.injEq, Sum.inl.injEq, List.cons.injEq, Nat.reduceEqDiff, reduceCtorEq, and_false, false_and, and_self, beq_iff_eq, beq_self_eq_true, decide_eq_true_eq, Bool.not_eq_true', Bool.and_eq_true, Bool.or_eq_true, Bool.not_eq_eq_eq_not, Bool.true_and, Bool.false_and, Bool.and_true, Bool.and_false, List.map_cons, List.map_nil, List.nil_append, List.cons_append, List.eraseIdx_cons_zero, Int.reduceAdd, Int.reduceMul, Int.reduceEq, Int.reducePow, Int.reduceLT, Int.reduceToNat])
namespace K76
open Lt
theorem takeK {k : Nat} : TakeOk ((T.rg 1000000 (k + 1)).fn 4) := fun hp h1 h2 => r4.mpr (take_ok hp h1 h2)
theorem escK {k : Nat} : EscOk ((T.rg 1000000 (k + 1)).fn 0) := fun hc => r0.mpr (escaped_ok gl0 hc)
theorem quoK {k : Nat} : QuoOk ((T.rg 1000000 (k + 2)).fn 1) := fun h1 h2 => r1.mpr (quoted_ok gl1 escK h1 h2)
theorem lawQuoK {k : Nat} : QuoOk ((T.rg 1000000 (k + 1)).fn 8) := fun h1 h2 => r8.mpr (lawQuoted_ok h1 h2)
theorem showK : ∀ (n : Nat) {k : Nat} {p : PV} {st : Store}, n ≤ 4 → sh n p = true → Wp ((T.rg 1000000 (k + n + 3)).fn 2 [p]) st fun r st' => st' = st ∧ r = .str (showT p)
  | 0, k, p, st, hn, h => r2.mpr (show_ok quoK (fun m x e => by omega) hn h)
  | n + 1, k, p, st, hn, h => r2.mpr (show_ok (n := n + 1) quoK (fun m x e hx => by cases e; exact fun {st} => showK n (by omega) hx) hn h)
theorem lawShowK : ∀ (n : Nat) {k : Nat} {p : PV} {st : Store}, n ≤ 4 → sh n p = true → Wp ((T.rg 1000000 (k + n + 3)).fn 9 [p]) st fun r st' => st' = st ∧ r = .str (showT p)
  | 0, k, p, st, hn, h => r9.mpr (lawShow_ok lawQuoK (fun m x e => by omega) hn h)
  | n + 1, k, p, st, hn, h => r9.mpr (lawShow_ok (n := n + 1) lawQuoK (fun m x e hx => by cases e; exact fun {st} => lawShowK n (by omega) hx) hn h)
theorem anyK {k : Nat} : AnyTextOk ((T.rg 1000000 (k + 2)).fn 6) := fun hp h0 h1 => r6.mpr (anyText_ok takeK hp h0 h1)
theorem thingK : ∀ (d : Nat) {k : Nat}, d ≤ 3 → Thing2Ok d ((T.rg 1000000 (k + d + 3)).fn 7)
  | 0, k, hd => fun hp => r7.mpr (thing2_ok (d := 0) takeK anyK hd (fun e h => by omega) hp)
  | d + 1, k, hd => fun hp => r7.mpr (thing2_ok (d := d + 1) takeK anyK hd (fun e h => by cases h; exact thingK d (by omega)) hp)
theorem potK {k : Nat} {st : Store} {a b : Int} (b0 : 0 ≤ b) (b1 : b < 2 ^ 62) : Wp ((T.rg 1000000 (k + 1)).fn 3 [.int a, .int b]) st fun r st' => ∃ c, r = .cell c ∧ IsP c st' := r3.mpr (pot2_ok b0 b1)
theorem seedK {k : Nat} {st : Store} {ns : List Int} (hl : ns.length ≤ 63) : Wp ((T.rg 1000000 (k + 1)).fn 5 [.lst (ns.map .int)]) st fun r st' => st' = st ∧ ∃ i, r = .int i ∧ 0 ≤ i ∧ i < 2305843009213693951 := r5.mpr (seed_ok hl)
theorem H0 (ns : List Int) (hl : ns.length ≤ 63) (hb : ∀ z ∈ ns, PySem.Builtin.Int.intBits z ≤ 1048576) : ∃ st, (T.rg 1000000 30).fn 10 [.lst (ns.map .int)] [] = some (.bl true, st) := by
  suffices h : Wp ((T.rg 1000000 30).fn 10 [.lst (ns.map .int)]) [] fun r _ => r = .bl true by
    obtain ⟨a, st, e, rfl⟩ := h
    exact ⟨st, e⟩
  rw [r10]
  unfold b10
  trivial
  refine (seedK hl).mono ?_
  rintro r st ⟨rfl, s, rfl, s0, s1⟩
  trivial
  refine ⟨by omega, ?_⟩
  have e1 : (List.map PV.int ns ++ [PV.int 0, PV.int 1, PV.int 2, PV.int 3]) = (ns ++ [0, 1, 2, 3]).map PV.int := by simp
  rw [e1, cut_map]
  have l1 := cut_length (ns ++ [0, 1, 2, 3]) none (some 4)
  have l2 := cut_length ns (some 4) (some 16)
  generalize cut (ns ++ [0, 1, 2, 3]) none (some 4) = A at l1 ⊢
  have e2 : cut (List.map PV.int ns) (some 4) (some 16) = (cut ns (some 4) (some 16)).map PV.int := cut_map _ _ _ _
  generalize cut ns (some 4) (some 16) = B at l2 e2
  simp only [List.length_append, List.length_cons, List.length_nil] at l1
  refine wp_forE [.lst ((A ++ B).map .int)] [] _ (fun i env st => ∃ a b c d e f g, env = [some (.lst (ns.map .int)), some (.int s), some (.lst (A.map .int)), a, b, c, d, e, f, g]) ?_ iter_enum ⟨_, _, _, _, _, _, _, rfl⟩ ?_ ?_
  · trivial
    rw [e2]
    refine ⟨by simp only [List.length_map]; omega, by simp⟩
  · rintro i x env st hx ⟨a, b, c, d, e, f, g, rfl⟩
    obtain ⟨y, hy, rfl⟩ := zip_get hx
    rw [List.getElem?_map, Option.map_eq_some_iff] at hy
    obtain ⟨z, hz, rfl⟩ := hy
    have hi : i < (A ++ B).length := (List.getElem?_eq_some_iff.mp hz).1
    simp only [List.length_append] at hi
    refine ⟨iter_enum, ?_⟩
    trivial
    refine ⟨ok64 (by omega) (by omega), ?_⟩
    refine (potK (by omega) (by omega)).mono ?_
    rintro r st1 ⟨p, rfl, hp1⟩
    trivial
    refine wp_lcE [.int 6] st1 ((List.range 6).map fun (k : Nat) => PV.int k) (fun i acc st => acc.length = i ∧ shs 3 acc = true ∧ IsP p st) ?_ (iter_range1 (by omega) (by omega)) ⟨rfl, by simp [shs], hp1⟩ ?_ ?_
    · trivial
    · rintro j x acc st2 hx ⟨rfl, a2, hp2⟩
      have hj : acc.length < 6 := by simpa using (List.getElem?_eq_some_iff.mp hx).1
      refine ⟨iter_range1 (by omega) (by omega), _, rfl, ?_⟩
      trivial
      refine (thingK 3 (k := 23) (by omega) hp2).mono ?_
      rintro r st3 ⟨r1, hp3⟩
      refine ⟨by omega, by simp, ?_, hp3⟩
      rw [shs_all] at a2 ⊢
      intro x hx
      rcases List.mem_append.mp hx with hx | hx
      · exact a2 x hx
      · rw [List.mem_singleton.mp hx]
        exact r1
    · rintro acc st2 ⟨a1, a2, hp2⟩
      simp only [List.length_map, List.length_range] at a1
      refine ⟨iter_range1 (by omega) (by omega), ?_⟩
      trivial
      have hall : ∀ q ∈ acc ++ [PV.str [], PV.int 0, PV.tup [], PV.tup [PV.tup []], PV.str [34], PV.str [92, 110], PV.tup [PV.str [], PV.tup [PV.int 0, PV.str [10]]]], sh 3 q = true := by
        intro q hq
        rcases List.mem_append.mp hq with hq | hq
        · exact shs_all.mp a2 q hq
        · simp only [List.mem_cons, List.not_mem_nil, or_false] at hq
          rcases hq with rfl | rfl | rfl | rfl | rfl | rfl | rfl <;> decide
      have hlen : (acc ++ [PV.str [], PV.int 0, PV.tup [], PV.tup [PV.tup []], PV.str [34], PV.str [92, 110], PV.tup [PV.str [], PV.tup [PV.int 0, PV.str [10]]]]).length = 13 := by
        rw [List.length_append, a1]
        rfl
      generalize acc ++ [PV.str [], PV.int 0, PV.tup [], PV.tup [PV.tup []], PV.str [34], PV.str [92, 110], PV.tup [PV.str [], PV.tup [PV.int 0, PV.str [10]]]] = L at hall hlen ⊢
      refine ⟨by omega, ?_⟩
      have l3 := cut_length L none (some 2)
      refine wp_forE [.lst (L ++ cut L none (some 2))] st2 (L ++ cut L none (some 2)) (fun _ env st => ∃ a b, env = [some (PV.lst (List.map PV.int ns)), some (PV.int s), some (PV.lst (List.map PV.int A)), some (PV.int ↑i), some (PV.int z), some (PV.cell p), some (.lst L), a, b, g]) ?_ iter_lst ⟨_, _, rfl⟩ ?_ ?_
      · trivial
        omega
      · rintro j q env st3 hq ⟨a, b, rfl⟩
        have hs : sh 3 q = true := by
          rcases List.mem_append.mp (List.mem_of_getElem? hq) with h | h
          · exact hall q h
          · exact hall q (cut_mem h)
        refine ⟨iter_lst, _, rfl, ?_⟩
        trivial
        refine (showK 3 (k := 23) (by omega) hs).mono ?_
        rintro r st4 ⟨rfl, rfl⟩
        trivial
        refine (lawShowK 3 (k := 23) (by omega) hs).mono ?_
        rintro r st5 ⟨rfl, rfl⟩
        have ok := show_okC 3 q hs
        trivial
        rw [ok]
        trivial
        exact ⟨_, _, rfl, rfl⟩
      · rintro env st3 ⟨a, b, rfl⟩
        refine ⟨iter_lst, ?_⟩
        trivial
        exact ⟨_, _, _, _, _, _, _, rfl, rfl, rfl, rfl, rfl, rfl, rfl⟩
  · rintro env st ⟨a, b, c, d, e, f, g, rfl⟩
    refine ⟨iter_enum, ?_⟩
    trivial
end K76
end

namespace K76
open PySem PySem.Spec PyProof.Rows L2 Lt
theorem all_mk {l : PySem.W.OpenLaw} {w : World} {K : PySem.W.Frag} {h : Heap} {mg : Str → Option Value} {fa : Addr} (X : K.In h) (G : h.Ns mainGlobals mg) (hfa : mg "law" = some (.ref fa))
    {f0 : Addr} {od0 an0 : Option Addr} {sl0 : Array (Option Value)} {oc0 kV0 dc0 pm0 cd0 ct0 : Value}
    (a0 : PySem.W.nsIn K mainGlobals "escaped_sign" = some (some (.ref f0))) (l0 : K.lookup f0 = some ⟨oc0, od0, .func (PySem.W.fnOf "escaped_sign" "escaped_sign" (defArgs (topS 3)) (defBody (topS 3)) (defScope (topS 3)) .none kV0 dc0 pm0 an0 cd0 ct0), sl0⟩) (c0 : PySem.W.codeIn K cd0 "escaped_sign" = true) (k0 : PySem.W.keepIn K (.ref f0) = true)
    {f1 : Addr} {od1 an1 : Option Addr} {sl1 : Array (Option Value)} {oc1 kV1 dc1 pm1 cd1 ct1 : Value}
    (a1 : PySem.W.nsIn K mainGlobals "quoted_text" = some (some (.ref f1))) (l1 : K.lookup f1 = some ⟨oc1, od1, .func (PySem.W.fnOf "quoted_text" "quoted_text" (defArgs (topS 4)) (defBody (topS 4)) (defScope (topS 4)) .none kV1 dc1 pm1 an1 cd1 ct1), sl1⟩) (c1 : PySem.W.codeIn K cd1 "quoted_text" = true) (k1 : PySem.W.keepIn K (.ref f1) = true)
    {f2 : Addr} {od2 an2 : Option Addr} {sl2 : Array (Option Value)} {oc2 kV2 dc2 pm2 cd2 ct2 : Value}
    (a2 : PySem.W.nsIn K mainGlobals "show_thing" = some (some (.ref f2))) (l2 : K.lookup f2 = some ⟨oc2, od2, .func (PySem.W.fnOf "show_thing" "show_thing" (defArgs (topS 6)) (defBody (topS 6)) (defScope (topS 6)) .none kV2 dc2 pm2 an2 cd2 ct2), sl2⟩) (c2 : PySem.W.codeIn K cd2 "show_thing" = true) (k2 : PySem.W.keepIn K (.ref f2) = true)
    {f3 : Addr} {od3 an3 : Option Addr} {sl3 : Array (Option Value)} {oc3 kV3 dc3 pm3 cd3 ct3 : Value}
    (a3 : PySem.W.nsIn K mainGlobals "_law_pot" = some (some (.ref f3))) (l3 : K.lookup f3 = some ⟨oc3, od3, .func (PySem.W.fnOf "_law_pot" "_law_pot" (defArgs (topS 8)) (defBody (topS 8)) (defScope (topS 8)) .none kV3 dc3 pm3 an3 cd3 ct3), sl3⟩) (c3 : PySem.W.codeIn K cd3 "_law_pot" = true) (k3 : PySem.W.keepIn K (.ref f3) = true)
    {f4 : Addr} {od4 an4 : Option Addr} {sl4 : Array (Option Value)} {oc4 kV4 dc4 pm4 cd4 ct4 : Value}
    (a4 : PySem.W.nsIn K mainGlobals "_law_take" = some (some (.ref f4))) (l4 : K.lookup f4 = some ⟨oc4, od4, .func (PySem.W.fnOf "_law_take" "_law_take" (defArgs (topS 9)) (defBody (topS 9)) (defScope (topS 9)) .none kV4 dc4 pm4 an4 cd4 ct4), sl4⟩) (c4 : PySem.W.codeIn K cd4 "_law_take" = true) (k4 : PySem.W.keepIn K (.ref f4) = true)
    {f5 : Addr} {od5 an5 : Option Addr} {sl5 : Array (Option Value)} {oc5 kV5 dc5 pm5 cd5 ct5 : Value}
    (a5 : PySem.W.nsIn K mainGlobals "_law_seed" = some (some (.ref f5))) (l5 : K.lookup f5 = some ⟨oc5, od5, .func (PySem.W.fnOf "_law_seed" "_law_seed" (defArgs (topS 10)) (defBody (topS 10)) (defScope (topS 10)) .none kV5 dc5 pm5 an5 cd5 ct5), sl5⟩) (c5 : PySem.W.codeIn K cd5 "_law_seed" = true) (k5 : PySem.W.keepIn K (.ref f5) = true)
    {f6 : Addr} {od6 an6 : Option Addr} {sl6 : Array (Option Value)} {oc6 kV6 dc6 pm6 cd6 ct6 : Value}
    (a6 : PySem.W.nsIn K mainGlobals "_law_any_text" = some (some (.ref f6))) (l6 : K.lookup f6 = some ⟨oc6, od6, .func (PySem.W.fnOf "_law_any_text" "_law_any_text" (defArgs (topS 11)) (defBody (topS 11)) (defScope (topS 11)) .none kV6 dc6 pm6 an6 cd6 ct6), sl6⟩) (c6 : PySem.W.codeIn K cd6 "_law_any_text" = true) (k6 : PySem.W.keepIn K (.ref f6) = true)
    {f7 : Addr} {od7 an7 : Option Addr} {sl7 : Array (Option Value)} {oc7 kV7 dc7 pm7 cd7 ct7 : Value}
    (a7 : PySem.W.nsIn K mainGlobals "_law_thing" = some (some (.ref f7))) (l7 : K.lookup f7 = some ⟨oc7, od7, .func (PySem.W.fnOf "_law_thing" "_law_thing" (defArgs (topS 12)) (defBody (topS 12)) (defScope (topS 12)) .none kV7 dc7 pm7 an7 cd7 ct7), sl7⟩) (c7 : PySem.W.codeIn K cd7 "_law_thing" = true) (k7 : PySem.W.keepIn K (.ref f7) = true)
    {f8 : Addr} {od8 an8 : Option Addr} {sl8 : Array (Option Value)} {oc8 kV8 dc8 pm8 cd8 ct8 : Value}
    (a8 : PySem.W.nsIn K mainGlobals "_law_quoted" = some (some (.ref f8))) (l8 : K.lookup f8 = some ⟨oc8, od8, .func (PySem.W.fnOf "_law_quoted" "_law_quoted" (defArgs (topS 13)) (defBody (topS 13)) (defScope (topS 13)) .none kV8 dc8 pm8 an8 cd8 ct8), sl8⟩) (c8 : PySem.W.codeIn K cd8 "_law_quoted" = true) (k8 : PySem.W.keepIn K (.ref f8) = true)
    {f9 : Addr} {od9 an9 : Option Addr} {sl9 : Array (Option Value)} {oc9 kV9 dc9 pm9 cd9 ct9 : Value}
    (a9 : PySem.W.nsIn K mainGlobals "_law_show_thing" = some (some (.ref f9))) (l9 : K.lookup f9 = some ⟨oc9, od9, .func (PySem.W.fnOf "_law_show_thing" "_law_show_thing" (defArgs (topS 14)) (defBody (topS 14)) (defScope (topS 14)) .none kV9 dc9 pm9 an9 cd9 ct9), sl9⟩) (c9 : PySem.W.codeIn K cd9 "_law_show_thing" = true) (k9 : PySem.W.keepIn K (.ref f9) = true)
    {f10 : Addr} {od10 an10 : Option Addr} {sl10 : Array (Option Value)} {oc10 kV10 dc10 pm10 cd10 ct10 : Value}
    (a10 : PySem.W.nsIn K mainGlobals "law" = some (some (.ref f10))) (l10 : K.lookup f10 = some ⟨oc10, od10, .func (PySem.W.fnOf "law" "law" (defArgs (topS 15)) (defBody (topS 15)) (defScope (topS 15)) .none kV10 dc10 pm10 an10 cd10 ct10), sl10⟩) (c10 : PySem.W.codeIn K cd10 "law" = true) (k10 : PySem.W.keepIn K (.ref f10) = true)
    {ga0_0 : Addr} {gn0_0 : Nat} {gd0_0 : Option Addr} {gs0_0 : Array (Option Value)} {ga0_1 : Addr} {gn0_1 : Nat} {gd0_1 : Option Addr} {gs0_1 : Array (Option Value)} {tk0_2 : Tok} {tk0_3 : Tok} {ga0_4 : Addr} {gn0_4 : Nat} {gd0_4 : Option Addr} {gs0_4 : Array (Option Value)} {tk0_5 : Tok} {tk0_6 : Tok} {ga0_7 : Addr} {gn0_7 : Nat} {gd0_7 : Option Addr} {gs0_7 : Array (Option Value)} {tk0_8 : Tok} {tk0_9 : Tok} (yg0 : PySem.W.nsIn K mainGlobals "TURNS" = some (some (.ref ga0_0))) (ygl0_0 : K.lookup ga0_0 = some ⟨.type "tuple", gd0_0, .seq #[.ref ga0_1, .ref ga0_4, .ref ga0_7] gn0_0, gs0_0⟩) (ygl0_1 : K.lookup ga0_1 = some ⟨.type "tuple", gd0_1, .seq #[.str "\x5c\x22" tk0_2, .str "\x22" tk0_3] gn0_1, gs0_1⟩) (ygl0_4 : K.lookup ga0_4 = some ⟨.type "tuple", gd0_4, .seq #[.str "\x5c\x5c" tk0_5, .str "\x5c" tk0_6] gn0_4, gs0_4⟩) (ygl0_7 : K.lookup ga0_7 = some ⟨.type "tuple", gd0_7, .seq #[.str "\x5cn" tk0_8, .str "\x0a" tk0_9] gn0_7, gs0_7⟩)
    {tk1 : Tok} (yg1 : PySem.W.nsIn K mainGlobals "QUOTE" = some (some (.str "\x22" tk1)))
    (z0 : PySem.W.nsIn K mainGlobals "isinstance" = some none)
    (z1 : PySem.W.nsIn K mainGlobals "str" = some none)
    (z2 : PySem.W.nsIn K mainGlobals "tuple" = some none)
    (z3 : PySem.W.nsIn K mainGlobals "abs" = some none)
    (z4 : PySem.W.nsIn K mainGlobals "int" = some none)
    (z5 : PySem.W.nsIn K mainGlobals "range" = some none)
    (z6 : PySem.W.nsIn K mainGlobals "len" = some none)
    (z7 : PySem.W.nsIn K mainGlobals "list" = some none)
    (z8 : PySem.W.nsIn K mainGlobals "enumerate" = some none) :
    ∃ fd : FuncData, (∀ (s : Shared) (v : Value), BindsTo s fd ⟨[v], []⟩ [("_law_script", v)]) ∧ ∀ base : Heap, K.In base → base.Ns mainGlobals mg → FnOk l.prog w K mg base CX0 30 fa fd ["_law_script"] (spF K 1 ((T.rg 1000000 30).fn 10)) := by
  have e := hfa.symm.trans (PySem.W.mg_of X G a10)
  cases e
  have F0 := fun_mk (st := topS 3) l0 c0 k0
  have b0 := F0.binds (ps := p0) fun _ _ _ _ _ _ us hl => match us, hl with | [_], _ => rfl
  have F1 := fun_mk (st := topS 4) l1 c1 k1
  have b1 := F1.binds (ps := p1) fun _ _ _ _ _ _ us hl => match us, hl with | [_], _ => rfl
  have F2 := fun_mk (st := topS 6) l2 c2 k2
  have b2 := F2.binds (ps := p2) fun _ _ _ _ _ _ us hl => match us, hl with | [_], _ => rfl
  have F3 := fun_mk (st := topS 8) l3 c3 k3
  have b3 := F3.binds (ps := p3) fun _ _ _ _ _ _ us hl => match us, hl with | [_, _], _ => rfl
  have F4 := fun_mk (st := topS 9) l4 c4 k4
  have b4 := F4.binds (ps := p4) fun _ _ _ _ _ _ us hl => match us, hl with | [_, _], _ => rfl
  have F5 := fun_mk (st := topS 10) l5 c5 k5
  have b5 := F5.binds (ps := p5) fun _ _ _ _ _ _ us hl => match us, hl with | [_], _ => rfl
  have F6 := fun_mk (st := topS 11) l6 c6 k6
  have b6 := F6.binds (ps := p6) fun _ _ _ _ _ _ us hl => match us, hl with | [_, _], _ => rfl
  have F7 := fun_mk (st := topS 12) l7 c7 k7
  have b7 := F7.binds (ps := p7) fun _ _ _ _ _ _ us hl => match us, hl with | [_, _], _ => rfl
  have F8 := fun_mk (st := topS 13) l8 c8 k8
  have b8 := F8.binds (ps := p8) fun _ _ _ _ _ _ us hl => match us, hl with | [_], _ => rfl
  have F9 := fun_mk (st := topS 14) l9 c9 k9
  have b9 := F9.binds (ps := p9) fun _ _ _ _ _ _ us hl => match us, hl with | [_], _ => rfl
  have F10 := fun_mk (st := topS 15) l10 c10 k10
  have b10 := F10.binds (ps := p10) fun _ _ _ _ _ _ us hl => match us, hl with | [_], _ => rfl
  have FF : Facts T K mg := by
    refine ⟨?_, ?_, ?_⟩
    · exact facts_cons ⟨_, _, _, n0, p0, PySem.W.mg_of X G a0, F0, b0, rfl, rfl, sc0, ck0⟩ (facts_cons ⟨_, _, _, n1, p1, PySem.W.mg_of X G a1, F1, b1, rfl, rfl, sc1, ck1⟩ (facts_cons ⟨_, _, _, n2, p2, PySem.W.mg_of X G a2, F2, b2, rfl, rfl, sc2, ck2⟩ (facts_cons ⟨_, _, _, n3, p3, PySem.W.mg_of X G a3, F3, b3, rfl, rfl, sc3, ck3⟩ (facts_cons ⟨_, _, _, n4, p4, PySem.W.mg_of X G a4, F4, b4, rfl, rfl, sc4, ck4⟩ (facts_cons ⟨_, _, _, n5, p5, PySem.W.mg_of X G a5, F5, b5, rfl, rfl, sc5, ck5⟩ (facts_cons ⟨_, _, _, n6, p6, PySem.W.mg_of X G a6, F6, b6, rfl, rfl, sc6, ck6⟩ (facts_cons ⟨_, _, _, n7, p7, PySem.W.mg_of X G a7, F7, b7, rfl, rfl, sc7, ck7⟩ (facts_cons ⟨_, _, _, n8, p8, PySem.W.mg_of X G a8, F8, b8, rfl, rfl, sc8, ck8⟩ (facts_cons ⟨_, _, _, n9, p9, PySem.W.mg_of X G a9, F9, b9, rfl, rfl, sc9, ck9⟩ (facts_cons ⟨_, _, _, n10, p10, PySem.W.mg_of X G a10, F10, b10, rfl, rfl, sc10, ck10⟩ (facts_nil)))))))))))
    · exact facts_cons ⟨⟨_, .ref ga0_0, PySem.W.mg_of X G yg0, rfl, fun _ _ _ => (by simp only [Rep]; exact ⟨ga0_0, [.ref ga0_1, .ref ga0_4, .ref ga0_7], rfl, .inr ⟨_, _, _, ygl0_0, rfl, rfl, small_arr (by simp), .cons rfl (.cons rfl (.cons rfl (.nil)))⟩, .cons (by simp only [Rep]; exact ⟨ga0_1, [.str "\x5c\x22", .str "\x22"], rfl, .inr ⟨_, _, _, ygl0_1, rfl, rfl, small_arr (by simp), .cons ⟨_, rfl⟩ (.cons ⟨_, rfl⟩ (.nil))⟩, .cons (by simp only [Rep]; rfl) (.cons (by simp only [Rep]; rfl) (.nil))⟩) (.cons (by simp only [Rep]; exact ⟨ga0_4, [.str "\x5c\x5c", .str "\x5c"], rfl, .inr ⟨_, _, _, ygl0_4, rfl, rfl, small_arr (by simp), .cons ⟨_, rfl⟩ (.cons ⟨_, rfl⟩ (.nil))⟩, .cons (by simp only [Rep]; rfl) (.cons (by simp only [Rep]; rfl) (.nil))⟩) (.cons (by simp only [Rep]; exact ⟨ga0_7, [.str "\x5cn", .str "\x0a"], rfl, .inr ⟨_, _, _, ygl0_7, rfl, rfl, small_arr (by simp), .cons ⟨_, rfl⟩ (.cons ⟨_, rfl⟩ (.nil))⟩, .cons (by simp only [Rep]; rfl) (.cons (by simp only [Rep]; rfl) (.nil))⟩) (.nil)))⟩)⟩⟩ (facts_cons ⟨⟨_, .str "\x22", PySem.W.mg_of X G yg1, ⟨_, rfl⟩, fun _ _ _ => by simp only [Rep]; rfl⟩⟩ (facts_nil))
    · exact facts_cons (PySem.W.mg_none_of X G z0) (facts_cons (PySem.W.mg_none_of X G z1) (facts_cons (PySem.W.mg_none_of X G z2) (facts_cons (PySem.W.mg_none_of X G z3) (facts_cons (PySem.W.mg_none_of X G z4) (facts_cons (PySem.W.mg_none_of X G z5) (facts_cons (PySem.W.mg_none_of X G z6) (facts_cons (PySem.W.mg_none_of X G z7) (facts_cons (PySem.W.mg_none_of X G z8) (facts_nil)))))))))
  refine ⟨PySem.W.fnOf "law" "law" (defArgs (topS 15)) (defBody (topS 15)) (defScope (topS 15)) .none kV10 dc10 pm10 an10 cd10 ct10, fun s v => .of_eq rfl, fun base _ _ => ?_⟩
  exact law_ok (P := l.prog) (w := w) (base := base) (fu := 1000000) FF 29 (d := d10) rfl F10 rfl rfl sc10 ck10
end K76
open PySem PySem.W PyProof.Rows
set_option maxHeartbeats 0 in
theorem PySem.Challenge.cw_readtell_k76_things_shown_holds : PySem.Challenge.rw_readtell_k76_things_shown.Holds := by
  w_on; o_law; k_head; (case hw => w_witness2)
  k_fill
  refine L2.walk_ofB (l := PySem.Challenge.rw_readtell_k76_things_shown) (n := 63) (k := 30) (x := "_law_script") (CX := fun _ => L2.CX0) (sp := fun w => Lt.spF _ 1 ((K76.T.rg 1000000 30).fn 10)) rfl (by decide) rfl ⟨rfl, by decide, by decide⟩ (fun w h Y => PySem.W.kIn_of Y) ?F (fun _ _ a ns hl hb _ hS => Lt.sp_law hS (K76.H0 ns hl hb)) (fun _ _ _ _ _ h => h)
  case F =>
    intro w mg fa h KX G hmg
    refine' K76.all_mk KX G hmg ?a0 ?l0 ?c0 ?k0 ?a1 ?l1 ?c1 ?k1 ?a2 ?l2 ?c2 ?k2 ?a3 ?l3 ?c3 ?k3 ?a4 ?l4 ?c4 ?k4 ?a5 ?l5 ?c5 ?k5 ?a6 ?l6 ?c6 ?k6 ?a7 ?l7 ?c7 ?k7 ?a8 ?l8 ?c8 ?k8 ?a9 ?l9 ?c9 ?k9 ?a10 ?l10 ?c10 ?k10 ?yg0 ?ygl0_0 ?ygl0_1 ?ygl0_4 ?ygl0_7 ?yg1 ?z0 ?z1 ?z2 ?z3 ?z4 ?z5 ?z6 ?z7 ?z8
    (case a0 => k_is); (case l0 => k_is); (case c0 => k_is); (case k0 => k_is); (case a1 => k_is); (case l1 => k_is); (case c1 => k_is); (case k1 => k_is); (case a2 => k_is); (case l2 => k_is); (case c2 => k_is); (case k2 => k_is); (case a3 => k_is); (case l3 => k_is); (case c3 => k_is); (case k3 => k_is); (case a4 => k_is); (case l4 => k_is); (case c4 => k_is); (case k4 => k_is); (case a5 => k_is); (case l5 => k_is); (case c5 => k_is); (case k5 => k_is); (case a6 => k_is); (case l6 => k_is); (case c6 => k_is); (case k6 => k_is); (case a7 => k_is); (case l7 => k_is); (case c7 => k_is); (case k7 => k_is); (case a8 => k_is); (case l8 => k_is); (case c8 => k_is); (case k8 => k_is); (case a9 => k_is); (case l9 => k_is); (case c9 => k_is); (case k9 => k_is); (case a10 => k_is); (case l10 => k_is); (case c10 => k_is); (case k10 => k_is); (case yg0 => k_is); (case ygl0_0 => k_is); (case ygl0_1 => k_is); (case ygl0_4 => k_is); (case ygl0_7 => k_is); (case yg1 => k_is); (case z0 => k_is); (case z1 => k_is); (case z2 => k_is); (case z3 => k_is); (case z4 => k_is); (case z5 => k_is); (case z6 => k_is); (case z7 => k_is); (case z8 => k_is)
