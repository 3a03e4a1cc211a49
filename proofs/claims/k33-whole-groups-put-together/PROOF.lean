import PyProof.Rows.All
import Wide.All
import OpenK.AllK
import Wide.FinOn
import HandS.ForMost
import HandS.Exc
import HandS.ExcOwn
import HandS.TryOnly
import HandS.TryMany
import HandS.CallSlots
import HandS.WordsExc
import HandS.Flow
import HandS.Property
import HandS.Defaults
import HandS.MakeKw
import HandS.ClsMeth
import HandS.SortInts
import HandS.SortKw
import HandS.IsInst
import HandS.FStr
import HandS.DictComp
import HandS.Zip
import HandS.Wide
import HandS.RaiseMore
import HandS.TupAny
import HandS.Deep
import HandS.HeadEnd
import HandS.Head2
import HandS.HeadHook2
import KE.DataEq
import KE.KDictCopyH
import HandS.Codes
import HandS.SortRule
import PyProof.EqAt
import PyProof.SeqIndex
import KE.GoesEnum
import KE.KDictZip
import HandS.Star
import KE.KSortKeySt
import HandS.Style
import PySem.Challenge.RW_seenseats_k33_whole_groups_put_together
namespace Sv
abbrev Tx := List Nat
inductive D where
  | non | bl (b : Bool) | int (i : Int) | str (s : Tx)
  | tup (xs : List D) | lst (xs : List D) | dct (kvs : List (D × D))
  | obj (c : Nat) (fs : List (Nat × D)) | cel (i : Nat) | glo (g : Nat) | scr (ns : List Int)
  deriving Repr, Inhabited
inductive Cell where
  | lst (xs : List D) | dct (kvs : List (D × D)) | ins (c : Nat) (fs : List (Nat × D)) | dead
  deriving Repr, Inhabited
abbrev W := List Cell
inductive R (α : Type) where
  | ok (a : α) (w : W) | exc (e : D) (w : W) | bad
  deriving Repr
@[reducible] def R.nx {α : Type} (r : R α) : R α := match r with
  | .ok a w => .ok a w | _ => .bad
@[reducible] def R.bind {α β : Type} (r : R α) (f : α → W → R β) : R β := match r with
  | .ok a w => f a w | .exc e w => .exc e w | .bad => .bad
inductive BOp | add | sub | mul | fdiv | mod | pow deriving DecidableEq, Repr
inductive COp | eq | ne | lt | le | gt | ge | is | isn | in | nin deriving DecidableEq, Repr
inductive BT | int | bool | str | tuple | list | dict | valueError | lookupError | arithmeticError deriving DecidableEq, Repr
inductive BI | len | abs | max | min | sum | all | any | int | str | bool | list | tuple | repr | sorted | divmod | dict | set deriving DecidableEq, Repr
inductive BM | split | join | append | get | upper | index | keys | values | items | pop | extend | count | replace deriving DecidableEq, Repr
mutual
inductive E where
  | loc (i : Nat) | glob (g : Nat) | non | bl (b : Bool) | int (i : Int) | str (s : Tx)
  | bin (op : BOp) (a b : E) | catm (a b : E) | neg (a : E) | not (a : E) | and (a b : E) | or (a b : E)
  | cmp (op : COp) (a b : E) | cmp2 (op op' : COp) (a b c : E) | cmp3 (op op' op2 : COp) (a b c d : E) | ite (c a b : E)
  | tup (es : Es) | lst (m : Bool) (es : Es) | dct (m : Bool) (kvs : Es)
  | sub (o i : E) | slc (o lo hi : E) | attr (o : E) (f : Nat)
  | call (g : Nat) (es : Es) (kws : List Nat) (ks : Es) | make (c : Nat) (es : Es) (kws : List Nat) (ks : Es)
  | bi (b : BI) (es : Es) | bm (m : BM) (o : E) (es : Es) | meth (o : E) (m : Nat) (es : Es) (kws : List Nat) (ks : Es)
  | cmeth (c m : Nat) (es : Es) (kws : List Nat) (ks : Es)
  | isi (a : E) (ts : List (Sum BT Nat)) (one : Bool)
  | sortk (a : E) (g : Nat) (rev : Option Bool) | sortr (a : E) (rev : Bool)
  | comp (m : Bool) (own : List Nat) (e : E) (t : T) (it : It) (ifs : Es)
  | comp2 (own : List Nat) (e : E) (t : T) (it : It) (ifs : Es) (own1 : List Nat) (t1 : T) (it1 : It) (ifs1 : Es)
  | dcomp (own : List Nat) (k v : E) (t : T) (it : It) (ifs : Es)
  | lsts (m : Bool) (ss : List Bool) (es : Es) | tups (ss : List Bool) (es : Es)
  | lzip (es : Es) | rev (a : E)
  | fst (es : Es) | fmt (e : E) | bad
inductive Es where
  | nil | cons (e : E) (r : Es)
inductive T where
  | loc (i : Nat) | tup (ts : Ts) | sub (o i : E) | att (o : E) (f : Nat)
inductive Ts where
  | nil | cons (t : T) (r : Ts)
inductive It where
  | e (e : E) | range (es : Es) | enum (e : E) | zip (es : Es) | items (e : E) | vals (e : E) | keys (e : E)
end
mutual
inductive S where
  | asg (t : T) (e : E) | aug (i : Nat) (op : BOp) (e : E) | expr (e : E) | ret (e : E) | retn
  | ite (c : E) (a b : Ss) | for (t : T) (it : It) (b : Ss) | whl (c : E) (b : Ss)
  | try (b : Ss) (hs : Hs) | raise (e : E) | pass | brk | cnt | cls (i : Nat) | bad
inductive Ss where
  | nil | cons (s : S) (r : Ss)
inductive Hs where
  | nil | cons (cs : List Nat) (x : Option Nat) (b : Ss) (r : Hs)
end
def Es.len : Es → Nat
  | .nil => 0 | .cons _ r => r.len + 1
def Es.ofL : List E → Es
  | [] => .nil | e :: r => .cons e (Es.ofL r)
def Ss.ofL : List S → Ss
  | [] => .nil | e :: r => .cons e (Ss.ofL r)
def Ts.ofL : List T → Ts
  | [] => .nil | e :: r => .cons e (Ts.ofL r)

mutual
def D.noRef : D → Bool
  | .cel _ => false | .tup xs => D.noRefL xs | .lst xs => D.noRefL xs | .dct kvs => D.noRefP kvs | .obj _ fs => D.noRefF fs | _ => true
def D.noRefL : List D → Bool
  | [] => true | x :: r => x.noRef && D.noRefL r
def D.noRefP : List (D × D) → Bool
  | [] => true | (k, v) :: r => k.noRef && v.noRef && D.noRefP r
def D.noRefF : List (Nat × D) → Bool
  | [] => true | (_, v) :: r => v.noRef && D.noRefF r
end
mutual
def D.isData : D → Bool
  | .non => true | .bl _ => true | .int _ => true | .str _ => true | .tup xs => D.isDataL xs | .lst xs => D.isDataL xs | _ => false
def D.isDataL : List D → Bool
  | [] => true | x :: r => x.isData && D.isDataL r
end
mutual
def D.dep : D → Nat
  | .tup xs => D.depL xs + 1 | .lst xs => D.depL xs + 1 | .dct _ => 1 | _ => 0
def D.depL : List D → Nat
  | [] => 0 | x :: r => max x.dep (D.depL r)
end
mutual
def D.eqv : D → D → Bool
  | .non, .non => true
  | .bl a, .bl b => a == b
  | .bl a, .int j => (if a then 1 else 0) == j
  | .int i, .bl b => i == (if b then 1 else 0)
  | .int i, .int j => i == j
  | .str a, .str b => decide (a = b)
  | .tup a, .tup b => D.eqvL a b
  | .lst a, .lst b => D.eqvL a b
  | _, _ => false
def D.eqvL : List D → List D → Bool
  | [], [] => true
  | x :: r, y :: s => D.eqv x y && D.eqvL r s
  | _, _ => false
end
def D.dataOk (d : D) : Bool := d.isData && decide (d.dep ≤ 60)
def D.eq (a b : D) : Option Bool := if a.dataOk && b.dataOk then some (D.eqv a b) else none
def D.truth : D → Option Bool
  | .non => some false | .bl b => some b | .int i => some (i != 0) | .str s => if s.length ≤ 16000000 then some (!s.isEmpty) else none
  | .tup xs => some (!xs.isEmpty) | .lst xs => some (!xs.isEmpty) | _ => none
def R.lift {α : Type} (o : Option α) (w : W) : R α := match o with
  | some a => .ok a w | none => .bad
def mulOk (i j : Int) : Bool := decide (i.natAbs < 2 ^ 64) || decide (j.natAbs < 2 ^ 64) || (decide (i.natAbs < 2 ^ 9000) && decide (j.natAbs < 2 ^ 9000))
def binop (op : BOp) (x y : D) : Option D := match op, x, y with
  | .add, .int i, .int j => some (.int (i + j))
  | .sub, .int i, .int j => some (.int (i - j))
  | .mul, .int i, .int j => if mulOk i j then some (.int (i * j)) else none
  | .fdiv, .int i, .int j => if 0 < j ∧ j < 2 ^ 8000 then some (.int (i / j)) else none
  | .mod, .int i, .int j => if 0 < j then some (.int (i % j)) else none
  | .pow, .int i, .int j => if 0 ≤ j ∧ j ≤ 1000 ∧ i.natAbs < 2 ^ 64 then some (.int (i ^ j.toNat)) else none
  | .add, .str a, .str b => if a.length + b.length ≤ 16000000 then some (.str (a ++ b)) else none
  | .add, .lst a, .lst b => if a.length + b.length ≤ 16000000 then some (.lst (a ++ b)) else none
  | _, _, _ => none
def augF (op : BOp) (x y : D) : Option D := match op, x, y with
  | .add, .int i, .int j => some (.int (i + j))
  | .sub, .int i, .int j => some (.int (i - j))
  | _, _, _ => none
def ltTx : Tx → Tx → Bool
  | _, [] => false
  | [], _ :: _ => true
  | a :: r, b :: s => if a < b then true else if b < a then false else ltTx r s
def inL (x : D) (ys : List D) : Option Bool := if x.dataOk && (D.tup ys).dataOk then some (ys.any fun y => D.eqv y x) else none
def cmpop (op : COp) (x y : D) : Option Bool := match op, x, y with
  | .eq, x, y => D.eq x y
  | .ne, x, y => (D.eq x y).map (!·)
  | .lt, .int i, .int j => some (decide (i < j))
  | .le, .int i, .int j => some (decide (i ≤ j))
  | .gt, .int i, .int j => some (decide (j < i))
  | .ge, .int i, .int j => some (decide (j ≤ i))
  | .is, .non, .non => some true
  | .is, x, .non => match x with | .non => some true | _ => some false
  | .isn, x, .non => match x with | .non => some false | _ => some true
  | .in, .str [c], .str s => some (decide (c ∈ s))
  | .in, x, .tup ys => inL x ys
  | .in, x, .lst ys => inL x ys
  | .nin, .str [c], .str s => some (!decide (c ∈ s))
  | .nin, x, .tup ys => (inL x ys).map (!·)
  | .nin, x, .lst ys => (inL x ys).map (!·)
  | _, _, _ => none
def at? {α : Type} (xs : List α) (i : Int) : Option α := if 0 ≤ i then xs[i.toNat]? else if 0 ≤ i + xs.length then xs[(i + xs.length).toNat]? else none
def cutIx (n : Nat) : D → Nat → Option Nat
  | .non, d => some d
  | .int i, _ => some (if 0 ≤ i then min i.toNat n else (i + n).toNat)
  | _, _ => none
def cut {α : Type} (xs : List α) (lo hi : D) : Option (List α) := match cutIx xs.length lo 0, cutIx xs.length hi xs.length with
  | some a, some b => some ((xs.take b).drop a)
  | _, _ => none
def intsD : List D → Option (List Int)
  | [] => some []
  | .int i :: r => (intsD r).map (i :: ·)
  | _ => none
def boolsD : List D → Option (List Bool)
  | [] => some []
  | .bl i :: r => (boolsD r).map (i :: ·)
  | _ => none
def pairsD : List D → Option (List (Int × Int))
  | [] => some []
  | .tup [.int i, .int j] :: r => (pairsD r).map ((i, j) :: ·)
  | _ => none
def lexLe (p q : Int × Int) : Bool := decide (p.1 < q.1) || (decide (p.1 = q.1) && decide (p.2 ≤ q.2))
def pairD (p : Int × Int) : D := .tup [.int p.1, .int p.2]
def strsD : List D → Option (List Tx)
  | [] => some []
  | .str i :: r => (strsD r).map (i :: ·)
  | _ => none
def splitC (c : Nat) : Tx → List Tx
  | [] => [[]]
  | x :: r => if x = c then [] :: splitC c r else match splitC c r with
    | [] => [[x]]
    | w :: ws => (x :: w) :: ws
def joinT (sep : Tx) : List Tx → Tx
  | [] => []
  | [a] => a
  | a :: r => a ++ sep ++ joinT sep r
def digitsN : Nat → Nat → Tx
  | 0, _ => []
  | f + 1, n => if n < 10 then [48 + n] else digitsN f (n / 10) ++ [48 + n % 10]
def natTx (n : Nat) : Tx := digitsN (n + 1) n
def intTx (i : Int) : Tx := if i < 0 then 45 :: natTx i.natAbs else natTx i.natAbs
def figs : Nat → Tx → Option Nat
  | acc, [] => some acc
  | acc, c :: r => if 48 ≤ c ∧ c ≤ 57 then figs (acc * 10 + (c - 48)) r else none
def intOf (s : Tx) : Option Int := if s.length = 0 ∨ 640 < s.length then none else (figs 0 s).map fun (n : Nat) => (n : Int)

structure Fn where
  np : Nat
  dfl : List D := []
  nloc : Nat
  keep : Bool := false
  body : Ss
structure Cls where
  init : Option Nat := none
  meths : List (Nat × Nat) := []
  props : List (Nat × Nat) := []
  cmeths : List (Nat × Nat) := []
  up : List Nat := []
  upB : List BT := []
  frz : Bool := true
structure Prog where
  fn : Nat → Option Fn
  cls : Nat → Option Cls
  cst : Nat → Option D
  rep : D → Tx
abbrev Env := List (Option D)
abbrev CallT := Nat → List D → W → R D
inductive O where
  | next (env : Env) (w : W) | ret (d : D) (w : W) | brk (env : Env) (w : W) | cnt (env : Env) (w : W) | exc (e : D) (env : Env) (w : W) | bad
@[reducible] def R.to {α : Type} (r : R α) (env : Env) (f : α → W → O) : O := match r with
  | .ok a w => f a w | .exc e w => .exc e env w | .bad => .bad
@[reducible] def O.seq (o : O) (f : Env → W → O) : O := match o with
  | .next env w => f env w | o => o
def view (w : W) : D → Option D
  | .cel i => match w[i]? with
    | some (.lst xs) => some (.lst xs) | some (.dct kvs) => some (.dct kvs) | some (.ins c fs) => some (.obj c fs) | _ => none
  | d => some d
def putF {α : Type} (f : Nat) (v : α) : List (Nat × α) → List (Nat × α)
  | [] => [(f, v)]
  | (g, u) :: r => if g = f then (g, v) :: r else (g, u) :: putF f v r
def getK (k : D) : List (D × D) → Option D
  | [] => none
  | (a, v) :: r => if D.eqv a k then some v else getK k r
def putK (k v : D) : List (D × D) → Option (List (D × D))
  | [] => some [(k, v)]
  | (a, u) :: r => if D.eqv a k then some ((a, v) :: r) else (putK k v r).map ((a, u) :: ·)
def putM (k v : D) (kvs : List (D × D)) : List (D × D) := if kvs.any (fun p => D.eqv p.1 k) then kvs.map (fun p => if D.eqv p.1 k then (p.1, v) else p) else kvs ++ [(k, v)]
def D.keyA : D → Bool
  | .int _ => true | .str _ => true | _ => false
def D.keyOk : D → Bool
  | .int _ => true | .str _ => true | .tup xs => xs.all D.keyA | _ => false
def newL (m : Bool) (xs : List D) (w : W) : R D := if 16000000 < xs.length then .bad else if m then (if D.noRefL xs then .ok (.cel w.length) (w ++ [.lst xs]) else .bad) else .ok (.lst xs) w
def newK (m : Bool) (kvs : List (D × D)) (w : W) : R D := if m then (if D.noRefP kvs then .ok (.cel w.length) (w ++ [.dct kvs]) else .bad) else .ok (.dct kvs) w
def mkK : List D → List D → List (D × D) → Option (List (D × D))
  | [], [], acc => some acc
  | k :: ks, v :: vs, acc => if k.keyOk then match putK k v acc with
    | some acc => mkK ks vs acc | none => none
    else none
  | _, _, _ => none
def items : D → Option (List D)
  | .lst xs => some xs | .tup xs => some xs | .str s => some (s.map fun c => .str [c]) | .scr ns => some (ns.map .int) | .dct kvs => some (kvs.map (·.1)) | _ => none
def rangeD (lo : Int) (n : Nat) : List D := (List.range n).map fun (i : Nat) => .int (lo + (i : Int))
def rangeOf : List D → Option (List D)
  | [.int b] => if -2 ^ 60 < b ∧ b < 2 ^ 60 then some (rangeD 0 b.toNat) else none
  | [.int a, .int b] => if -2 ^ 60 < a ∧ a < 2 ^ 60 ∧ -2 ^ 60 < b ∧ b < 2 ^ 60 then some (rangeD a (b - a).toNat) else none
  | _ => none
def enumD : Nat → List D → List D
  | _, [] => [] | n, x :: r => .tup [.int n, x] :: enumD (n + 1) r
def zipD : List D → List D → List D
  | x :: r, y :: s => .tup [x, y] :: zipD r s | _, _ => []
def zipD3 : List D → List D → List D → List D
  | x :: r, y :: s, z :: t => .tup [x, y, z] :: zipD3 r s t | _, _, _ => []
def zipOf : List D → Option (List D)
  | [.lst xs, .lst ys] => some (zipD xs ys)
  | [.tup xs, .tup ys] => some (zipD xs ys)
  | _ => none
def isT (G : Prog) (d : D) : Sum BT Nat → Option Bool
  | .inl t => match d, t with
    | .cel _, _ => none
    | .glo _, _ => none
    | .scr _, _ => none
    | .int _, .int => some true | .bl _, .int => some true | .bl _, .bool => some true | .str _, .str => some true
    | .tup _, .tuple => some true | .lst _, .list => some true | .dct _, .dict => some true
    | .obj c _, t => (G.cls c).map fun k => k.upB.contains t
    | _, _ => some false
  | .inr g => if (G.cls g).isNone then none else match d with
    | .obj c _ => (G.cls c).map fun k => k.up.contains g
    | .cel _ => none
    | .glo _ => none
    | .scr _ => none
    | _ => some false
def isTs (G : Prog) (d : D) : List (Sum BT Nat) → Option Bool
  | [] => some false
  | t :: r => match isT G d t with
    | none => none | some true => some true | some false => isTs G d r
def fillDfl : List (Option D) → List (Option D) → Option (List D)
  | [], _ => some []
  | some d :: r, ds => (fillDfl r ds.tail).map (d :: ·)
  | none :: r, some d :: ds => (fillDfl r ds).map (d :: ·)
  | none :: _, _ => none
def setAll : List (Option D) → List Nat → List D → Option (List (Option D))
  | a, [], [] => some a
  | a, k :: ks, v :: vs => match a[k]? with
    | some none => setAll (a.set k (some v)) ks vs
    | _ => none
  | _, _, _ => none
def argsOf (np : Nat) (dfl : List D) (vs : List D) (kws : List Nat) (ks : List D) : Option (List D) :=
  if np < vs.length then none else match setAll (vs.map some ++ List.replicate (np - vs.length) none) kws ks with
    | some a => fillDfl a (List.replicate (np - dfl.length) none ++ dfl.map some) | none => none
def shut (keep : Bool) (n : Nat) (d : D) (w : W) : Option W := if keep then some w else if w.length = n then some w else if d.noRef then some (w.take n) else none
def R.shut (keep : Bool) (n : Nat) : R D → R D
  | .ok d w => match Sv.shut keep n d w with | some w' => .ok d w' | none => .bad
  | .exc d w => match Sv.shut false n d w with | some w' => .exc d w' | none => .bad
  | .bad => .bad
def callF (G : Prog) (cl : CallT) (g : Nat) (vs : List D) (kws : List Nat) (ks : List D) (w : W) : R D := match G.fn g with
  | none => .bad
  | some f => match argsOf f.np f.dfl vs kws ks with
    | none => .bad
    | some ds => cl g ds w
def makeC (G : Prog) (cl : CallT) (c : Nat) (vs : List D) (kws : List Nat) (ks : List D) (w : W) : R D := match G.cls c with
  | none => .bad
  | some k => match k.init with
    | none => if vs.isEmpty && ks.isEmpty && k.frz then .ok (.obj c []) w else .bad
    | some g => (callF G cl g (.cel w.length :: vs) kws ks (w ++ [.ins c []])).bind fun d w' => match d with
      | .non => if k.frz then (match w'[w.length]? with
        | some (.ins c' fs) => if c' = c then .ok (.obj c fs) (w'.take w.length) else .bad
        | _ => .bad) else .ok (.cel w.length) w'
      | _ => .bad
def methF (G : Prog) (cl : CallT) (d : D) (m : Nat) (vs : List D) (kws : List Nat) (ks : List D) (w : W) : R D := match view w d with
  | some (.obj c fs) => match G.cls c with
    | none => .bad
    | some k => if (fs.lookup m).isNone then (match k.meths.lookup m with
      | none => .bad
      | some g => callF G cl g (d :: vs) kws ks w) else .bad
  | _ => .bad
def attrF (G : Prog) (cl : CallT) (d : D) (f : Nat) (w : W) : R D := match view w d with
  | some (.obj c fs) => match G.cls c with
    | none => .bad
    | some k => match k.props.lookup f with
      | some g => (callF G cl g [d] [] [] w).nx
      | none => if (k.meths.lookup f).isNone then (match fs.lookup f with | some v => .ok v w | none => .bad) else .bad
  | _ => .bad
def cmpF (G : Prog) (cl : CallT) (op : COp) (x y : D) (w : W) : R D := R.lift ((cmpop op x y).map .bl) w
def subF (w : W) (o i : D) : Option D := match view w o, i with
  | some (.lst xs), .int i => at? xs i
  | some (.scr xs), .int i => (at? xs i).map .int
  | some (.tup xs), .int i => at? xs i
  | some (.str s), .int i => if s.length ≤ 16000000 then (at? s i).map fun c => .str [c] else none
  | some (.dct kvs), k => if k.keyOk then getK k kvs else none
  | _, _ => none
def slcF (o lo hi : D) (w : W) : R D := match o with
  | .lst xs => R.lift ((cut xs lo hi).map .lst) w
  | .scr xs => R.lift ((cut xs lo hi).map fun l => .lst (l.map .int)) w
  | .tup xs => R.lift ((cut xs lo hi).map .tup) w
  | .str xs => if xs.length ≤ 16000000 then R.lift ((cut xs lo hi).map .str) w else .bad
  | _ => .bad
def intR (d : D) (w : W) : R D := match d with | .int i => .ok (.int i) w | _ => .bad
def maxI : List Int → Option Int
  | [] => none | a :: r => some (r.foldl (fun m x => if x > m then x else m) a)
def minI : List Int → Option Int
  | [] => none | a :: r => some (r.foldl (fun m x => if x < m then x else m) a)
def lenF (w : W) (d : D) : Option Int := match view w d with
  | some (.lst xs) => some xs.length | some (.scr xs) => some xs.length | some (.tup xs) => some xs.length | some (.str xs) => if xs.length ≤ 16000000 then some xs.length else none | some (.dct xs) => some xs.length | _ => none
mutual
def D.repSz : D → Option Nat
  | .non => some 4 | .bl _ => some 5
  | .int i => if i.natAbs < 2 ^ 1900 then some 700 else none
  | .str s => if s.all (fun c => decide (c < 1114112)) then some (10 * s.length + 2) else none
  | .tup xs => (D.repSzL xs).map (· + 3) | .lst xs => (D.repSzL xs).map (· + 3)
  | _ => none
def D.repSzL : List D → Option Nat
  | [] => some 0
  | x :: r => match D.repSz x, D.repSzL r with
    | some a, some b => some (a + b + 2) | _, _ => none
end
def repOk (d : D) : Bool := (match d.repSz with | some n => decide (n ≤ 16000000) | none => false) && decide (d.dep ≤ 60)
def loopF (f : D → Env → W → O) : List D → Env → W → O
  | [], env, w => .next env w
  | d :: r, env, w => match f d env w with
    | .next env w => loopF f r env w
    | .cnt env w => loopF f r env w
    | .brk env w => .next env w
    | .ret d w => .ret d w
    | .exc e env w => .exc e env w
    | .bad => .bad
def loopW (t : Env → W → R Bool) (f : Env → W → O) : Nat → Env → W → O
  | 0, _, _ => .bad
  | n + 1, env, w => (t env w).to env fun b w => if b then match f env w with
    | .next env w => loopW t f n env w
    | .cnt env w => loopW t f n env w
    | .brk env w => .next env w
    | .ret d w => .ret d w
    | .exc e env w => .exc e env w
    | .bad => .bad
    else .next env w
def appC (j : Nat) (y : D) (w : W) : Option W := match w[j]? with
  | some (.lst acc) => if y.noRef && decide (acc.length < 16000000) then some (w.set j (.lst (acc ++ [y]))) else none
  | _ => none
def appK (j : Nat) (k y : D) (w : W) : Option W := match w[j]? with
  | some (.dct kvs) => if k.keyA && y.noRef && decide (kvs.length < 16000000) then some (w.set j (.dct (putM k y kvs))) else none
  | _ => none
def mapC (f : D → W → R Unit) : List D → W → R Unit
  | [], w => .ok () w
  | d :: r, w => (f d w).nx.bind fun _ w => mapC f r w
def R.ofO (o : Option W) : R Unit := match o with | some w => .ok () w | none => .bad
def endC (m : Bool) (n : Nat) (w : W) : R D := match w[n]? with
  | some (.lst xs) => newL m xs (w.take n) | _ => .bad
def endK (n : Nat) (w : W) : R D := match w[n]? with
  | some (.dct xs) => .ok (.dct xs) (w.take n) | _ => .bad
def wipeE (env : Env) : List Nat → Env
  | [] => env | v :: vs => (wipeE env vs).set v none
def locF (env : Env) (i : Nat) : Option D := match env[i]? with | some (some d) => some d | _ => none
def globF (G : Prog) (g : Nat) : Option D := match G.cst g with
  | some d => some d
  | none => if (G.fn g).isSome || (G.cls g).isSome then some (.glo g) else none
def biF (G : Prog) (b : BI) (ds : List D) (w : W) : R D := match b, ds with
  | .len, [d] => R.lift ((lenF w d).map .int) w
  | .abs, [.int i] => .ok (.int (if i < 0 then -i else i)) w
  | .max, [.int i, .int j] => .ok (.int (if j > i then j else i)) w
  | .min, [.int i, .int j] => .ok (.int (if j < i then j else i)) w
  | .max, [.lst xs] => R.lift (((intsD xs).bind maxI).map .int) w
  | .min, [.lst xs] => R.lift (((intsD xs).bind minI).map .int) w
  | .sum, [.lst xs] => R.lift ((intsD xs).map fun l => .int l.sum) w
  | .all, [.lst xs] => R.lift ((boolsD xs).map fun l => .bl (l.all id)) w
  | .any, [.lst xs] => R.lift ((boolsD xs).map fun l => .bl (l.any id)) w
  | .int, [.int i] => .ok (.int i) w
  | .int, [.bl b] => .ok (.int (if b then 1 else 0)) w
  | .int, [.str s] => R.lift ((intOf s).map .int) w
  | .bool, [.int i] => .ok (.bl (i != 0)) w
  | .bool, [.bl b] => .ok (.bl b) w
  | .str, [.int i] => if i.natAbs < 2 ^ 1900 then .ok (.str (intTx i)) w else .bad
  | .str, [.str s] => .ok (.str s) w
  | .list, [.lst xs] => newL false xs w
  | .list, [.tup xs] => newL false xs w
  | .tuple, [.lst xs] => .ok (.tup xs) w
  | .tuple, [.tup xs] => .ok (.tup xs) w
  | .repr, [d] => if repOk d then .ok (.str (G.rep d)) w else .bad
  | .sorted, [.lst xs] => match intsD xs with
    | some l => .ok (.lst ((l.mergeSort (· ≤ ·)).map .int)) w
    | none => match pairsD xs with
      | some l => .ok (.lst ((l.mergeSort lexLe).map pairD)) w
      | none => .bad
  | .divmod, [.int i, .int j] => if 0 < j ∧ j < 2 ^ 30 then .ok (.tup [.int (i / j), .int (i % j)]) w else .bad
  | _, _ => .bad
def idxI (y : Int) : List Int → Nat → Nat → Option Nat
  | [], _, _ => none
  | x :: r, i, j => if i ≤ j ∧ x = y then some j else idxI y r i (j + 1)
def revF : D → Option D
  | .lst xs => some (.lst xs.reverse) | _ => none
def bmF (m : BM) (o : D) (ds : List D) (w : W) : R D := match m, o, ds with
  | .split, .str s, [.str [c]] => if s.length ≤ 16000000 ∧ c < 256 then .ok (.lst ((splitC c s).map .str)) w else .bad
  | .join, .str s, [.lst xs] => match strsD xs with
    | some ts => if (ts.map List.length).sum + ts.length * s.length ≤ 16000000 then .ok (.str (joinT s ts)) w else .bad
    | none => .bad
  | .append, .cel i, [d] => match w[i]? with
    | some (.lst xs) => if d.noRef && decide (xs.length < 16000000) then .ok .non (w.set i (.lst (xs ++ [d]))) else .bad
    | _ => .bad
  | .index, .lst xs, [.int y] => match intsD xs with
    | some l => (match idxI y l 0 0 with | some j => .ok (.int (j : Int)) w | none => .bad)
    | none => .bad
  | .index, .lst xs, [.int y, .int i] => match intsD xs with
    | some l => if 0 ≤ i then (match idxI y l i.toNat 0 with | some j => .ok (.int (j : Int)) w | none => .bad) else .bad
    | none => .bad
  | _, _, _ => .bad
def bmTy (m : BM) (o : D) (w : W) : Bool := match m, o with
  | .split, .str _ => true
  | .join, .str _ => true
  | .index, .lst _ => true
  | .append, .cel i => match w[i]? with | some (.lst _) => true | _ => false
  | _, _ => false
def fmtF : D → Option D
  | .str s => if s.length ≤ 16000000 then some (.str s) else none
  | .int i => if i.natAbs < 2 ^ 1900 then some (.str (intTx i)) else none
  | _ => none
def catS : List D → Option Tx
  | [] => some []
  | .str s :: r => (catS r).map (s ++ ·)
  | _ => none
def setSub (w : W) (o i d : D) : Option W := match o with
  | .cel c => match w[c]?, i with
    | some (.lst xs), .int i => if 0 ≤ i ∧ i.toNat < xs.length ∧ d.noRef then some (w.set c (.lst (xs.set i.toNat d))) else none
    | some (.dct kvs), k => if k.keyA && d.noRef && decide (kvs.length < 16000000) then some (w.set c (.dct (putM k d kvs))) else none
    | _, _ => none
  | _ => none
def setAtt (G : Prog) (w : W) (o : D) (f : Nat) (d : D) : Option W := match o with
  | .cel c => match w[c]? with
    | some (.ins k fs) => match G.cls k with
      | some q => if d.noRef && (q.props.lookup f).isNone && (q.meths.lookup f).isNone && decide (fs.length < 1000) then some (w.set c (.ins k (putF f d fs))) else none
      | none => none
    | _ => none
  | _ => none
def unpack : D → Option (List D)
  | .tup xs => some xs | .lst xs => some xs | _ => none
def asgN : T → D → Env → Option Env
  | .loc i, d, env => if i < env.length then some (env.set i (some d)) else none
  | .tup ts, d, env => match unpack d with
    | some ds => asgNs ts ds env
    | none => none
  | _, _, _ => none
where asgNs : Ts → List D → Env → Option Env
  | .nil, [], env => some env
  | .cons t r, d :: ds, env => match asgN t d env with
    | some env => asgNs r ds env
    | none => none
  | _, _, _ => none
def seqOf : D → Option (List D)
  | .lst xs => some xs | .tup xs => some xs | _ => none
def sortZ {α : Type} (rev : Bool) (ps : List (Int × α)) : List (Int × α) := if rev then ps.mergeSort (fun p q => decide (q.1 ≤ p.1)) else ps.mergeSort (fun p q => decide (p.1 ≤ q.1))
def keyL : List D → Option (List Int)
  | [] => some []
  | .tup (_ :: .int k :: _) :: r => (keyL r).map (k :: ·)
  | _ => none
def sortKF (rev : Bool) : D → Option D
  | .lst xs => (keyL xs).map fun kz => .lst ((sortZ rev (kz.zip xs)).map (·.2))
  | _ => none
def pairsOf : List D → Option (List D × List D)
  | [] => some ([], [])
  | k :: v :: r => (pairsOf r).map fun p => (k :: p.1, v :: p.2)
  | _ => none
def mkA : List D → List (D × D) → Option (List (D × D))
  | [], acc => some acc
  | k :: v :: r, acc => if k.keyA && v.noRef then mkA r (putM k v acc) else none
  | _, _ => none
def dispF (m : Bool) (n : Nat) (ds : List D) (w : W) : R D := match w[n]? with
  | some (.dct []) => if ds.length ≤ 30 then (match mkA ds [] with
    | some kvs => if m then .ok (.cel n) (w.set n (.dct kvs)) else endK n (w.set n (.dct kvs))
    | none => .bad) else .bad
  | _ => .bad
def catF (x y : D) (w : W) : R D := match x, y with
  | .lst a, .lst b => newL true (a ++ b) w
  | _, _ => .bad
abbrev whileFuel : Nat := 2 ^ 64
mutual
def ev (G : Prog) (cl : CallT) : E → Env → W → R D
  | .loc i, env, w => R.lift (locF env i) w
  | .glob g, _, w => R.lift (globF G g) w
  | .non, _, w => .ok .non w
  | .bl b, _, w => .ok (.bl b) w
  | .int i, _, w => .ok (.int i) w
  | .str s, _, w => .ok (.str s) w
  | .bin op a b, env, w => (ev G cl a env w).bind fun x w => (ev G cl b env w).bind fun y w => R.lift (binop op x y) w
  | .catm a b, env, w => (ev G cl a env w).bind fun x w => (ev G cl b env w).bind fun y w => catF x y w
  | .neg a, env, w => (ev G cl a env w).bind fun x w => match x with | .int i => .ok (.int (-i)) w | _ => .bad
  | .not a, env, w => (ev G cl a env w).bind fun x w => (R.lift x.truth w).bind fun b w => .ok (.bl (!b)) w
  | .and a b, env, w => (ev G cl a env w).bind fun x w => (R.lift x.truth w).bind fun t w => if t then ev G cl b env w else .ok x w
  | .or a b, env, w => (ev G cl a env w).bind fun x w => (R.lift x.truth w).bind fun t w => if t then .ok x w else ev G cl b env w
  | .cmp op a b, env, w => (ev G cl a env w).bind fun x w => (ev G cl b env w).bind fun y w => cmpF G cl op x y w
  | .cmp2 op op' a b c, env, w => (ev G cl a env w).bind fun x w => (ev G cl b env w).bind fun y w => match cmpop op x y with
    | some true => (ev G cl c env w).bind fun z w => R.lift ((cmpop op' y z).map .bl) w
    | some false => .ok (.bl false) w
    | none => .bad
  | .cmp3 op op' op2 a b c d, env, w => (ev G cl a env w).bind fun x w => (ev G cl b env w).bind fun y w => match cmpop op x y with
    | some true => (ev G cl c env w).bind fun z w => match cmpop op' y z with
      | some true => (ev G cl d env w).bind fun u w => R.lift ((cmpop op2 z u).map .bl) w
      | some false => .ok (.bl false) w
      | none => .bad
    | some false => .ok (.bl false) w
    | none => .bad
  | .ite c a b, env, w => (ev G cl c env w).bind fun x w => (R.lift x.truth w).bind fun t w => if t then ev G cl a env w else ev G cl b env w
  | .tup es, env, w => (evs G cl es env w).bind fun ds w => .ok (.tup ds) w
  | .lst m es, env, w => (evs G cl es env w).bind fun ds w => newL m ds w
  | .dct m es, env, w => (evs G cl es env (w ++ [.dct []])).bind fun ds w2 => dispF m w.length ds w2
  | .sub o i, env, w => (ev G cl o env w).bind fun o w => (ev G cl i env w).bind fun i w => R.lift (subF w o i) w
  | .slc o lo hi, env, w => (ev G cl o env w).bind fun o w => (match lo with | .non => (.ok .non w : R D) | _ => (ev G cl lo env w).bind intR).bind fun lo w => (match hi with | .non => (.ok .non w : R D) | _ => (ev G cl hi env w).bind intR).bind fun hi w => slcF o lo hi w
  | .attr o f, env, w => (ev G cl o env w).bind fun o w => attrF G cl o f w
  | .call g es kws ks, env, w => (evs G cl es env w).bind fun vs w => (evs G cl ks env w).bind fun ks w => callF G cl g vs kws ks w
  | .make c es kws ks, env, w => (evs G cl es env w).bind fun vs w => (evs G cl ks env w).bind fun ks w => makeC G cl c vs kws ks w
  | .bi b es, env, w => (evs G cl es env w).bind fun ds w => biF G b ds w
  | .bm m o es, env, w => (ev G cl o env w).bind fun o w => if bmTy m o w then (evs G cl es env w).bind fun ds w => bmF m o ds w else .bad
  | .meth o m es kws ks, env, w => (ev G cl o env w).bind fun o w => (evs G cl es env w).bind fun vs w => (evs G cl ks env w).bind fun ks w => methF G cl o m vs kws ks w
  | .isi a ts _, env, w => (ev G cl a env w).bind fun x w => R.lift ((isTs G x ts).map .bl) w
  | .comp m own e t it ifs, env, w => (evI G cl it env w).bind fun xs w0 => (mapC (fun d w => (asgN t d (wipeE env own)).elim .bad fun env => (evIf G cl ifs env w).bind fun b w => if b then (ev G cl e env w).bind fun y w => R.ofO (appC w0.length y w) else .ok () w) xs (w0 ++ [.lst []])).bind fun _ w => endC m w0.length w
  | .dcomp own k v t it ifs, env, w => (evI G cl it env w).bind fun xs w0 => (mapC (fun d w => (asgN t d (wipeE env own)).elim .bad fun env => (evIf G cl ifs env w).bind fun b w => if b then (ev G cl k env w).bind fun y w => (ev G cl v env w).bind fun z w => R.ofO (appK w0.length y z w) else .ok () w) xs (w0 ++ [.dct []])).bind fun _ w => endK w0.length w
  | .comp2 own e t it ifs own1 t1 it1 ifs1, env, w => (evI G cl it env w).bind fun xs w0 => (mapC (fun d w => (asgN t d (wipeE env own)).elim .bad fun env => (evIf G cl ifs env w).bind fun b w => if b then
      (evI G cl it1 env w).bind fun xs1 w => mapC (fun d1 w => (asgN t1 d1 (wipeE env own1)).elim .bad fun env => (evIf G cl ifs1 env w).bind fun b w => if b then (ev G cl e env w).bind fun y w => R.ofO (appC w0.length y w) else .ok () w) xs1 w
      else .ok () w) xs (w0 ++ [.lst []])).bind fun _ w => endC false w0.length w
  | .fst es, env, w => evJ G cl es [] env w
  | .fmt e, env, w => (ev G cl e env w).bind fun d w => R.lift (fmtF d) w
  | .rev a, env, w => (ev G cl a env w).bind fun d w => R.lift (revF d) w
  | .sortk a _ (some rev), env, w => (ev G cl a env w).bind fun d w => R.lift (sortKF rev d) w
  | .sortk _ _ none, _, _ => .bad
  | .sortr _ _, _, _ => .bad
  | .cmeth c m es kws ks, env, w => (evs G cl es env w).bind fun vs w => (evs G cl ks env w).bind fun ks w => match G.cls c with
    | some k => match k.cmeths.lookup m with
      | some g => callF G cl g (.glo c :: vs) kws ks w | none => .bad
    | none => .bad
  | .lsts m ss es, env, w => (evsp G cl ss es env w).bind fun ds w => newL m ds w
  | .tups ss es, env, w => (evsp G cl ss es env w).bind fun ds w => if ds.length ≤ 100000 then .ok (.tup ds) w else .bad
  | .lzip es, env, w => (evs G cl es env w).bind fun ds w => match ds with | [.tup a, .tup b] => newL false (zipD a b) w | _ => .bad
  | .bad, _, _ => .bad
def evs (G : Prog) (cl : CallT) : Es → Env → W → R (List D)
  | .nil, _, w => .ok [] w
  | .cons e r, env, w => (ev G cl e env w).bind fun x w => (evs G cl r env w).bind fun xs w => .ok (x :: xs) w
def evsp (G : Prog) (cl : CallT) : List Bool → Es → Env → W → R (List D)
  | [], .nil, _, w => .ok [] w
  | false :: ss, .cons e r, env, w => (ev G cl e env w).bind fun x w => (evsp G cl ss r env w).bind fun ys w => .ok (x :: ys) w
  | true :: ss, .cons e r, env, w => (ev G cl e env w).bind fun x w => match seqOf x with
    | some xs => (evsp G cl ss r env w).bind fun ys w => .ok (xs ++ ys) w
    | none => .bad
  | _, _, _, _ => .bad
def evJ (G : Prog) (cl : CallT) : Es → Tx → Env → W → R D
  | .nil, acc, _, w => .ok (.str acc) w
  | .cons e r, acc, env, w => (ev G cl e env w).bind fun x w => match x with
    | .str y => if acc.length + y.length ≤ 16000000 then evJ G cl r (acc ++ y) env w else .bad
    | _ => .bad
def evIf (G : Prog) (cl : CallT) : Es → Env → W → R Bool
  | .nil, _, w => .ok true w
  | .cons e .nil, env, w => (ev G cl e env w).bind fun x w => R.lift x.truth w
  | _, _, _ => .bad
def evI (G : Prog) (cl : CallT) : It → Env → W → R (List D)
  | .e e, env, w => (ev G cl e env w).bind fun d w => R.lift (items d) w
  | .range es, env, w => (evs G cl es env w).bind fun ds w => R.lift (rangeOf ds) w
  | .enum e, env, w => (ev G cl e env w).bind fun d w => R.lift ((match d with | .str _ => none | .dct _ => none | d => items d).map (enumD 0)) w
  | .zip es, env, w => (evs G cl es env w).bind fun ds w => R.lift (zipOf ds) w
  | .items e, env, w => (ev G cl e env w).bind fun d w => match d with | .dct kvs => .ok (kvs.map fun p => .tup [p.1, p.2]) w | _ => .bad
  | .vals e, env, w => (ev G cl e env w).bind fun d w => match d with | .dct kvs => .ok (kvs.map (·.2)) w | _ => .bad
  | .keys e, env, w => (ev G cl e env w).bind fun d w => match d with | .dct kvs => .ok (kvs.map (·.1)) w | _ => .bad
end
@[reducible] def evT (G : Prog) (cl : CallT) (e : E) (env : Env) (w : W) : R Bool := (ev G cl e env w).bind fun x w => R.lift x.truth w
mutual
def asg (G : Prog) (cl : CallT) : T → D → Env → W → O
  | .loc i, d, env, w => if i < env.length then .next (env.set i (some d)) w else .bad
  | .tup ts, d, env, w => match unpack d with
    | some ds => asgs G cl ts ds env w
    | none => .bad
  | .sub o i, d, env, w => (ev G cl o env w).to env fun o w => (ev G cl i env w).to env fun i w => match setSub w o i d with
    | some w => .next env w | none => .bad
  | .att o f, d, env, w => (ev G cl o env w).to env fun o w => match setAtt G w o f d with
    | some w => .next env w | none => .bad
def asgs (G : Prog) (cl : CallT) : Ts → List D → Env → W → O
  | .nil, [], env, w => .next env w
  | .cons t r, d :: ds, env, w => (asg G cl t d env w).seq fun env w => asgs G cl r ds env w
  | _, _, _, _ => .bad
end
def catches (G : Prog) (cs : List Nat) (e : D) : Bool := match e with
  | .obj c _ => match G.cls c with | some k => cs.any fun x => k.up.contains x | none => false
  | _ => false
def sealF (i : Nat) (env : Env) (w : W) : O := match locF env i with
  | some (.cel c) => match w[c]? with
    | some (.lst xs) => .next (env.set i (some (.lst xs))) (w.set c .dead)
    | some (.dct xs) => .next (env.set i (some (.dct xs))) (w.set c .dead)
    | _ => .bad
  | _ => .bad
mutual
def exec (G : Prog) (cl : CallT) : S → Env → W → O
  | .asg t e, env, w => (ev G cl e env w).to env fun d w => asg G cl t d env w
  | .aug i op e, env, w => match locF env i with
    | some x => (ev G cl e env w).to env fun y w => match augF op x y with
      | some z => .next (env.set i (some z)) w | none => .bad
    | none => .bad
  | .expr e, env, w => (ev G cl e env w).to env fun _ w => .next env w
  | .ret e, env, w => (ev G cl e env w).to env fun d w => .ret d w
  | .retn, _, w => .ret .non w
  | .ite c a b, env, w => (evT G cl c env w).to env fun t w => if t then execs G cl a env w else execs G cl b env w
  | .for t it b, env, w => (evI G cl it env w).to env fun xs w => loopF (fun d env w => (asgN t d env).elim .bad fun env => execs G cl b env w) xs env w
  | .whl c b, env, w => loopW (fun env w => evT G cl c env w) (fun env w => execs G cl b env w) whileFuel env w
  | .try b _, env, w => match execs G cl b env w with
    | .exc _ _ _ => .bad
    | o => o
  | .raise e, env, w => (ev G cl e env w).to env fun d w => match d with
    | .obj c fs => if D.noRefF fs then .exc (.obj c fs) env w else .bad
    | _ => .bad
  | .pass, env, w => .next env w
  | .brk, env, w => .brk env w
  | .cnt, env, w => .cnt env w
  | .cls i, env, w => sealF i env w
  | .bad, _, _ => .bad
def execs (G : Prog) (cl : CallT) : Ss → Env → W → O
  | .nil, env, w => .next env w
  | .cons s r, env, w => (exec G cl s env w).seq fun env w => execs G cl r env w
def execH (G : Prog) (cl : CallT) : Hs → D → Env → W → O
  | .nil, e, env, w => .exc e env w
  | .cons cs x b r, e, env, w => if catches G cs e then match x with
      | none => execs G cl b env w
      | some i => (execs G cl b (env.set i (some e)) w).seq fun env w => .next (env.set i none) w
    else execH G cl r e env w
end
def body (G : Prog) (cl : CallT) (f : Fn) (ds : List D) (w : W) : R D :=
  if ds.length = f.np ∧ f.np ≤ f.nloc then match execs G cl f.body (ds.map some ++ List.replicate (f.nloc - f.np) none) w with
    | .next _ w' => R.shut f.keep w.length (.ok .non w')
    | .ret d w' => R.shut f.keep w.length (.ok d w')
    | .exc e _ w' => R.shut f.keep w.length (.exc e w')
    | _ => .bad
  else .bad
def run (G : Prog) : Nat → CallT
  | 0, _, _, _ => .bad
  | k + 1, g, ds, w => match G.fn g with
    | some f => body G (run G k) f ds w
    | none => .bad
end Sv

set_option Elab.async false
set_option linter.all false
set_option maxRecDepth 100000
set_option maxHeartbeats 4000000
namespace Sv
open PySem L2

def toStr (s : Tx) : Str := ⟨s.toArray⟩
theorem toStr_inj {a b : Tx} (h : toStr a = toStr b) : a = b := by
  have := congrArg (fun x : Str => x.cps.toList) h
  simpa [toStr] using this
structure Cn where
  K : PySem.W.Frag
  nm : Nat → Str
  gv : Nat → Option V
  cA : Nat → Option Addr
def keyD : D → Option Key
  | .int i => some (.inl i)
  | .str s => some (.inr (toStr s))
  | _ => none
mutual
inductive Rep (C : Cn) (F : Hp) (ρ : List Addr) : D → V → Prop
  | non : Rep C F ρ .non .non
  | bl (b : Bool) : Rep C F ρ (.bl b) (.bl b)
  | int (i : Int) : Rep C F ρ (.int i) (.int i)
  | str (s : Tx) : Rep C F ρ (.str s) (.str (toStr s))
  | tup {a : Addr} {xs : List D} {vs : List V} : SqT C.K F a vs → Reps C F ρ xs vs → Rep C F ρ (.tup xs) (.ref a)
  | lst {a : Addr} {xs : List D} {vs : List V} : F a = some (.lst vs) → Reps C F ρ xs vs → Rep C F ρ (.lst xs) (.ref a)
  | scr {a : Addr} {ns : List Int} : SqL C.K F a (ns.map V.int) → Rep C F ρ (.scr ns) (.ref a)
  | dct {a : Addr} {od : Obj} {kvs : List (D × D)} {es : List (Key × V)} : F a = some (.frz od (.dK es)) → RepK C F ρ kvs es → Rep C F ρ (.dct kvs) (.ref a)
  | obj {c : Nat} {A a dx : Addr} {fs : List (Nat × D)} {es : List (Str × V)} : C.cA c = some A → F a = some (.ins A dx es) → RepF C F ρ fs es → Rep C F ρ (.obj c fs) (.ref a)
  | cel {i : Nat} {a : Addr} : ρ[i]? = some a → Rep C F ρ (.cel i) (.ref a)
  | glo {g : Nat} {v : V} : C.gv g = some v → Rep C F ρ (.glo g) v
inductive Reps (C : Cn) (F : Hp) (ρ : List Addr) : List D → List V → Prop
  | nil : Reps C F ρ [] []
  | cons {d : D} {v : V} {ds : List D} {vs : List V} : Rep C F ρ d v → Reps C F ρ ds vs → Reps C F ρ (d :: ds) (v :: vs)
inductive RepF (C : Cn) (F : Hp) (ρ : List Addr) : List (Nat × D) → List (Str × V) → Prop
  | nil : RepF C F ρ [] []
  | cons {f : Nat} {d : D} {v : V} {ds : List (Nat × D)} {vs : List (Str × V)} : Rep C F ρ d v → RepF C F ρ ds vs → RepF C F ρ ((f, d) :: ds) ((C.nm f, v) :: vs)
inductive RepK (C : Cn) (F : Hp) (ρ : List Addr) : List (D × D) → List (Key × V) → Prop
  | nil : RepK C F ρ [] []
  | cons {k d : D} {y : Key} {v : V} {ds : List (D × D)} {vs : List (Key × V)} : keyD k = some y → Rep C F ρ d v → RepK C F ρ ds vs → RepK C F ρ ((k, d) :: ds) ((y, v) :: vs)
end
structure Ext (F : Hp) (ρ : List Addr) (F' : Hp) (ρ' : List Addr) : Prop where
  f : ∀ a o, F a = some o → F' a = some o
  r : ρ <+: ρ'
theorem Ext.refl {F : Hp} {ρ : List Addr} : Ext F ρ F ρ := ⟨fun _ _ h => h, List.prefix_refl _⟩
theorem Ext.trans {F F1 F2 : Hp} {ρ r1 r2 : List Addr} (a : Ext F ρ F1 r1) (b : Ext F1 r1 F2 r2) : Ext F ρ F2 r2 := ⟨fun x o h => b.f x o (a.f x o h), a.r.trans b.r⟩
theorem Ext.ix {F F' : Hp} {ρ ρ' : List Addr} (e : Ext F ρ F' ρ') {i : Nat} {a : Addr} (h : ρ[i]? = some a) : ρ'[i]? = some a := by
  obtain ⟨t, rfl⟩ := e.r
  rw [List.getElem?_append_left (List.getElem?_eq_some_iff.mp h).1]; exact h
theorem sqT_up {K : PySem.W.Frag} {F F' : Hp} (e : ∀ a o, F a = some o → F' a = some o) {a : Addr} {xs : List V} (h : SqT K F a xs) : SqT K F' a xs := by
  rcases h with (h | ⟨o, h⟩) | h
  · exact .inl (.inl (e _ _ h))
  · exact .inl (.inr ⟨o, e _ _ h⟩)
  · exact .inr h
theorem sqL_up {K : PySem.W.Frag} {F F' : Hp} (e : ∀ a o, F a = some o → F' a = some o) {a : Addr} {xs : List V} (h : SqL K F a xs) : SqL K F' a xs := Same.seq e h
mutual
theorem Rep.up {C : Cn} {F F' : Hp} {ρ ρ' : List Addr} (e : ∀ a o, F a = some o → F' a = some o) (r : ∀ (i : Nat) a, ρ[i]? = some a → ρ'[i]? = some a) : ∀ {d : D} {v : V}, Rep C F ρ d v → Rep C F' ρ' d v
  | _, _, .non => .non
  | _, _, .bl b => .bl b
  | _, _, .int i => .int i
  | _, _, .str s => .str s
  | _, _, .tup h q => .tup (sqT_up e h) (Reps.up e r q)
  | _, _, .lst h q => .lst (e _ _ h) (Reps.up e r q)
  | _, _, .scr h => .scr (sqL_up e h)
  | _, _, .dct h q => .dct (e _ _ h) (RepK.up e r q)
  | _, _, .obj c h q => .obj c (e _ _ h) (RepF.up e r q)
  | _, _, .cel h => .cel (r _ _ h)
  | _, _, .glo h => .glo h
theorem Reps.up {C : Cn} {F F' : Hp} {ρ ρ' : List Addr} (e : ∀ a o, F a = some o → F' a = some o) (r : ∀ (i : Nat) a, ρ[i]? = some a → ρ'[i]? = some a) : ∀ {d : List D} {v : List V}, Reps C F ρ d v → Reps C F' ρ' d v
  | _, _, .nil => .nil
  | _, _, .cons h q => .cons (Rep.up e r h) (Reps.up e r q)
theorem RepF.up {C : Cn} {F F' : Hp} {ρ ρ' : List Addr} (e : ∀ a o, F a = some o → F' a = some o) (r : ∀ (i : Nat) a, ρ[i]? = some a → ρ'[i]? = some a) : ∀ {d : List (Nat × D)} {v : List (Str × V)}, RepF C F ρ d v → RepF C F' ρ' d v
  | _, _, .nil => .nil
  | _, _, .cons h q => .cons (Rep.up e r h) (RepF.up e r q)
theorem RepK.up {C : Cn} {F F' : Hp} {ρ ρ' : List Addr} (e : ∀ a o, F a = some o → F' a = some o) (r : ∀ (i : Nat) a, ρ[i]? = some a → ρ'[i]? = some a) : ∀ {d : List (D × D)} {v : List (Key × V)}, RepK C F ρ d v → RepK C F' ρ' d v
  | _, _, .nil => .nil
  | _, _, .cons k h q => .cons k (Rep.up e r h) (RepK.up e r q)
end
theorem Ext.rep {C : Cn} {F F' : Hp} {ρ ρ' : List Addr} (e : Ext F ρ F' ρ') {d : D} {v : V} (h : Rep C F ρ d v) : Rep C F' ρ' d v := h.up e.f fun _ _ => e.ix
theorem Ext.reps {C : Cn} {F F' : Hp} {ρ ρ' : List Addr} (e : Ext F ρ F' ρ') {d : List D} {v : List V} (h : Reps C F ρ d v) : Reps C F' ρ' d v := h.up e.f fun _ _ => e.ix
mutual
theorem Rep.noRef {C : Cn} {F : Hp} {ρ ρ' : List Addr} : ∀ {d : D} {v : V}, Rep C F ρ d v → d.noRef = true → Rep C F ρ' d v
  | _, _, .non, _ => .non
  | _, _, .bl b, _ => .bl b
  | _, _, .int i, _ => .int i
  | _, _, .str s, _ => .str s
  | _, _, .tup h q, n => .tup h (Reps.noRef q (by simpa [D.noRef] using n))
  | _, _, .lst h q, n => .lst h (Reps.noRef q (by simpa [D.noRef] using n))
  | _, _, .scr h, _ => .scr h
  | _, _, .dct h q, n => .dct h (RepK.noRef q (by simpa [D.noRef] using n))
  | _, _, .obj c h q, n => .obj c h (RepF.noRef q (by simpa [D.noRef] using n))
  | _, _, .cel h, n => by simp [D.noRef] at n
  | _, _, .glo h, _ => .glo h
theorem Reps.noRef {C : Cn} {F : Hp} {ρ ρ' : List Addr} : ∀ {d : List D} {v : List V}, Reps C F ρ d v → D.noRefL d = true → Reps C F ρ' d v
  | _, _, .nil, _ => .nil
  | _, _, .cons h q, n => by
    simp only [D.noRefL, Bool.and_eq_true] at n
    exact .cons (Rep.noRef h n.1) (Reps.noRef q n.2)
theorem RepF.noRef {C : Cn} {F : Hp} {ρ ρ' : List Addr} : ∀ {d : List (Nat × D)} {v : List (Str × V)}, RepF C F ρ d v → D.noRefF d = true → RepF C F ρ' d v
  | _, _, .nil, _ => .nil
  | _, _, .cons h q, n => by
    simp only [D.noRefF, Bool.and_eq_true] at n
    exact .cons (Rep.noRef h n.1) (RepF.noRef q n.2)
theorem RepK.noRef {C : Cn} {F : Hp} {ρ ρ' : List Addr} : ∀ {d : List (D × D)} {v : List (Key × V)}, RepK C F ρ d v → D.noRefP d = true → RepK C F ρ' d v
  | _, _, .nil, _ => .nil
  | _, _, .cons k h q, n => by
    simp only [D.noRefP, Bool.and_eq_true] at n
    exact .cons k (Rep.noRef h n.1.2) (RepK.noRef q n.2)
end
theorem Reps.length {C : Cn} {F : Hp} {ρ : List Addr} : ∀ {d : List D} {v : List V}, Reps C F ρ d v → d.length = v.length
  | _, _, .nil => rfl
  | _, _, .cons _ q => congrArg Nat.succ q.length
theorem Reps.get {C : Cn} {F : Hp} {ρ : List Addr} : ∀ {d : List D} {v : List V} {i : Nat} {x : D}, Reps C F ρ d v → d[i]? = some x → ∃ y, v[i]? = some y ∧ Rep C F ρ x y
  | _, _, _, _, .nil, e => by simp at e
  | _, _, 0, _, .cons h _, e => by simp at e; subst e; exact ⟨_, rfl, h⟩
  | _, _, i + 1, _, .cons _ q, e => by
    obtain ⟨y, h1, h2⟩ := Reps.get (i := i) q (by simpa using e)
    exact ⟨y, by simpa using h1, h2⟩
theorem Reps.append {C : Cn} {F : Hp} {ρ : List Addr} : ∀ {d e : List D} {v u : List V}, Reps C F ρ d v → Reps C F ρ e u → Reps C F ρ (d ++ e) (v ++ u)
  | _, _, _, _, .nil, s => s
  | _, _, _, _, .cons h q, s => .cons h (q.append s)
theorem Reps.take {C : Cn} {F : Hp} {ρ : List Addr} : ∀ {d : List D} {v : List V} (n : Nat), Reps C F ρ d v → Reps C F ρ (d.take n) (v.take n)
  | _, _, 0, _ => .nil
  | _, _, _ + 1, .nil => .nil
  | _, _, n + 1, .cons h q => .cons h (q.take n)
theorem Reps.drop {C : Cn} {F : Hp} {ρ : List Addr} : ∀ {d : List D} {v : List V} (n : Nat), Reps C F ρ d v → Reps C F ρ (d.drop n) (v.drop n)
  | _, _, 0, r => r
  | _, _, _ + 1, .nil => .nil
  | _, _, n + 1, .cons _ q => q.drop n
theorem Reps.set {C : Cn} {F : Hp} {ρ : List Addr} {x : D} {y : V} (r : Rep C F ρ x y) : ∀ {d : List D} {v : List V} (i : Nat), Reps C F ρ d v → Reps C F ρ (d.set i x) (v.set i y)
  | _, _, _, .nil => .nil
  | _, _, 0, .cons _ q => .cons r q
  | _, _, i + 1, .cons h q => .cons h (q.set r i)
theorem nodup_ixA {l : List Addr} (hN : l.Nodup) {i j : Nat} {x : Addr} (a : l[i]? = some x) (b : l[j]? = some x) : i = j := by
  obtain ⟨h1, e1⟩ := List.getElem?_eq_some_iff.mp a
  obtain ⟨h2, e2⟩ := List.getElem?_eq_some_iff.mp b
  exact (List.getElem_inj hN).mp (e1.trans e2.symm)
theorem take_get {α : Type} {l : List α} {n i : Nat} {x : α} (h : (l.take n)[i]? = some x) : l[i]? = some x := by
  rw [List.getElem?_take] at h
  split at h
  · exact h
  · cases h
inductive CelOk (C : Cn) (F : Hp) : Cell → HO → Prop
  | lst {xs : List D} {vs : List V} : Reps C F [] xs vs → CelOk C F (.lst xs) (.lst vs)
  | dct {kvs : List (D × D)} {es : List (Key × V)} : RepK C F [] kvs es → CelOk C F (.dct kvs) (.dK es)
  | ins {c : Nat} {A dx : Addr} {fs : List (Nat × D)} {es : List (Str × V)} : C.cA c = some A → RepF C F [] fs es → CelOk C F (.ins c fs) (.ins A dx es)
theorem CelOk.up {C : Cn} {F F' : Hp} (e : ∀ a o, F a = some o → F' a = some o) {c : Cell} {o : HO} (h : CelOk C F c o) : CelOk C F' c o := by
  cases h with
  | lst q => exact .lst (q.up e fun _ _ h => h)
  | dct q => exact .dct (q.up e fun _ _ h => h)
  | ins c q => exact .ins c (q.up e fun _ _ h => h)
structure WOk (C : Cn) (F : Hp) (ρ : List Addr) (w : W) (H : Hp) : Prop where
  frz : ∀ a o, F a = some o → H a = some o
  len : ρ.length = w.length
  nd : ρ.Nodup
  cel : ∀ (i : Nat) (a : Addr) (c : Cell), ρ[i]? = some a → w[i]? = some c → c ≠ .dead → F a = none ∧ ∃ o, H a = some o ∧ CelOk C F c o
  old : ∀ (i : Nat) (a : Addr), ρ[i]? = some a → ∃ o, H a = some o
section
variable {C : Cn} {F : Hp} {ρ : List Addr} {w : W} {H : Hp} {p : Addr} {o : HO}
theorem WOk.free (k : WOk C F ρ w H) (n : H p = none) : F p = none := by
  cases e : F p with
  | none => rfl
  | some o => rw [k.frz p o e] at n; cases n
theorem WOk.out (k : WOk C F ρ w H) (n : H p = none) : p ∉ ρ := fun h => by
  obtain ⟨i, hi⟩ := List.mem_iff_getElem?.mp h
  obtain ⟨o, e⟩ := k.old i p hi
  rw [n] at e; cases e
theorem WOk.new (k : WOk C F ρ w H) (n : H p = none) : WOk C (upd F p o) ρ w (upd H p o) := by
  refine ⟨fun a u e => ?_, k.len, k.nd, fun i a c h1 h2 h3 => ?_, fun i a h1 => ?_⟩
  · by_cases hp : a = p
    · subst hp; rw [upd_same] at e ⊢; exact e
    · rw [upd_ne hp] at e ⊢; exact k.frz a u e
  · obtain ⟨f, u, e, q⟩ := k.cel i a c h1 h2 h3
    have hp : a ≠ p := fun z => k.out n (z ▸ List.mem_iff_getElem?.mpr ⟨i, h1⟩)
    refine ⟨by rw [upd_ne hp]; exact f, u, by rw [upd_ne hp]; exact e, q.up fun b x y => ?_⟩
    rw [upd_ne (ne_of_none y (k.free n))]; exact y
  · obtain ⟨u, e⟩ := k.old i a h1
    exact ⟨u, by rw [upd_ne (ne_of_none e n)]; exact e⟩
theorem WOk.newExt (k : WOk C F ρ w H) (n : H p = none) : Ext F ρ (upd F p o) ρ := ⟨fun b x y => by rw [upd_ne (ne_of_none y (k.free n))]; exact y, List.prefix_refl _⟩
theorem WOk.cell {c : Cell} (k : WOk C F ρ w H) (n : H p = none) (q : CelOk C F c o) : WOk C F (ρ ++ [p]) (w ++ [c]) (upd H p o) := by
  have np := k.free n
  have out := k.out n
  refine ⟨fun a u e => ?_, by simp [k.len], ?_, fun i a c' h1 h2 h3 => ?_, fun i a h1 => ?_⟩
  · rw [upd_ne (ne_of_none e np)]; exact k.frz a u e
  · rw [List.nodup_append]
    exact ⟨k.nd, by simp, fun a ha b hb => by rw [List.mem_singleton] at hb; subst hb; exact fun z => out (z ▸ ha)⟩
  · by_cases hi : i < ρ.length
    · rw [List.getElem?_append_left hi] at h1
      rw [List.getElem?_append_left (k.len ▸ hi)] at h2
      obtain ⟨f, u, e, q'⟩ := k.cel i a c' h1 h2 h3
      exact ⟨f, u, by rw [upd_ne (ne_of_none e n)]; exact e, q'⟩
    · have hi' : ρ.length ≤ i := Nat.le_of_not_lt hi
      rw [List.getElem?_append_right hi'] at h1
      rw [List.getElem?_append_right (k.len ▸ hi')] at h2
      have z : i - ρ.length = 0 := by
        cases z : i - ρ.length with
        | zero => rfl
        | succ n => rw [z] at h1; simp at h1
      rw [z] at h1; rw [← k.len, z] at h2
      simp at h1 h2
      subst h1 h2
      exact ⟨np, o, upd_same, q⟩
  · by_cases hi : i < ρ.length
    · rw [List.getElem?_append_left hi] at h1
      obtain ⟨u, e⟩ := k.old i a h1
      exact ⟨u, by rw [upd_ne (ne_of_none e n)]; exact e⟩
    · rw [List.getElem?_append_right (Nat.le_of_not_lt hi)] at h1
      cases z : i - ρ.length with
      | zero => rw [z] at h1; simp at h1; subst h1; exact ⟨o, upd_same⟩
      | succ n => rw [z] at h1; simp at h1
theorem Ext.cell : Ext F ρ F (ρ ++ [p]) := ⟨fun _ _ h => h, List.prefix_append _ _⟩
theorem WOk.set {i : Nat} {a : Addr} {c c' : Cell} (k : WOk C F ρ w H) (h1 : ρ[i]? = some a) (h2 : w[i]? = some c) (h3 : c ≠ .dead) (q : CelOk C F c' o) : WOk C F ρ (w.set i c') (upd H a o) := by
  obtain ⟨fa, u0, e0, _⟩ := k.cel i a c h1 h2 h3
  refine ⟨fun b u e => ?_, by simp [k.len], k.nd, fun j b d g1 g2 g3 => ?_, fun j b g1 => ?_⟩
  · rw [upd_ne (ne_of_none e fa)]; exact k.frz b u e
  · by_cases hj : j = i
    · subst hj
      rw [h1] at g1; cases g1
      rw [List.getElem?_set_self (List.getElem?_eq_some_iff.mp h2).1] at g2
      cases g2
      exact ⟨fa, o, upd_same, q⟩
    · rw [List.getElem?_set_ne (Ne.symm hj)] at g2
      obtain ⟨f, u, e, q'⟩ := k.cel j b d g1 g2 g3
      have hb : b ≠ a := fun z => by
        subst z
        exact hj (nodup_ixA k.nd g1 h1)
      exact ⟨f, u, by rw [upd_ne hb]; exact e, q'⟩
  · by_cases hb : b = a
    · subst hb; exact ⟨o, upd_same⟩
    · obtain ⟨u, e⟩ := k.old j b g1
      exact ⟨u, by rw [upd_ne hb]; exact e⟩
theorem WOk.seal {i : Nat} {a : Addr} {c : Cell} (k : WOk C F ρ w H) (h1 : ρ[i]? = some a) (h2 : w[i]? = some c) (h3 : c ≠ .dead) : ∃ o, H a = some o ∧ CelOk C F c o ∧ F a = none ∧ WOk C (upd F a o) ρ (w.set i .dead) H ∧ Ext F ρ (upd F a o) ρ := by
  obtain ⟨fa, o, e, q⟩ := k.cel i a c h1 h2 h3
  have up : ∀ b x, F b = some x → upd F a o b = some x := fun b x y => by rw [upd_ne (ne_of_none y fa)]; exact y
  refine ⟨o, e, q, fa, ⟨fun b u z => ?_, by simp [k.len], k.nd, fun j b d g1 g2 g3 => ?_, k.old⟩, up, List.prefix_refl _⟩
  · by_cases hb : b = a
    · subst hb; rw [upd_same] at z; cases z; exact e
    · rw [upd_ne hb] at z; exact k.frz b u z
  · by_cases hj : j = i
    · subst hj
      rw [List.getElem?_set_self (List.getElem?_eq_some_iff.mp h2).1] at g2
      cases g2; exact absurd rfl g3
    · rw [List.getElem?_set_ne (Ne.symm hj)] at g2
      obtain ⟨f, u, e', q'⟩ := k.cel j b d g1 g2 g3
      have hb : b ≠ a := fun z => by
        subst z
        exact hj (nodup_ixA k.nd g1 h1)
      exact ⟨by rw [upd_ne hb]; exact f, u, e', q'.up up⟩
theorem WOk.sealD {i : Nat} {a : Addr} {kvs : List (D × D)} (k : WOk C F ρ w H) (h1 : ρ[i]? = some a) (h2 : w[i]? = some (.dct kvs)) : ∃ es, H a = some (.dK es) ∧ RepK C F [] kvs es ∧ F a = none ∧ ∀ od, WOk C (upd F a (.frz od (.dK es))) ρ (w.set i .dead) (upd H a (.frz od (.dK es))) ∧ Ext F ρ (upd F a (.frz od (.dK es))) ρ := by
  obtain ⟨fa, o, e, q⟩ := k.cel i a _ h1 h2 (by intro z; cases z)
  cases q with
  | @dct _ es q =>
    refine ⟨es, e, q, fa, fun od => ?_⟩
    have up : ∀ b x, F b = some x → upd F a (.frz od (.dK es)) b = some x := fun b x y => by rw [upd_ne (ne_of_none y fa)]; exact y
    refine ⟨⟨fun b u z => ?_, by simp [k.len], k.nd, fun j b d g1 g2 g3 => ?_, fun j b g1 => ?_⟩, up, List.prefix_refl _⟩
    · by_cases hb : b = a
      · subst hb; rw [upd_same] at z ⊢; exact z
      · rw [upd_ne hb] at z ⊢; exact k.frz b u z
    · by_cases hj : j = i
      · subst hj
        rw [List.getElem?_set_self (List.getElem?_eq_some_iff.mp h2).1] at g2
        cases g2; exact absurd rfl g3
      · rw [List.getElem?_set_ne (Ne.symm hj)] at g2
        obtain ⟨f, u, e', q'⟩ := k.cel j b d g1 g2 g3
        have hb : b ≠ a := fun z => by
          subst z
          exact hj (nodup_ixA k.nd g1 h1)
        exact ⟨by rw [upd_ne hb]; exact f, u, by rw [upd_ne hb]; exact e', q'.up up⟩
    · by_cases hb : b = a
      · subst hb; exact ⟨_, upd_same⟩
      · obtain ⟨u, e'⟩ := k.old j b g1
        exact ⟨u, by rw [upd_ne hb]; exact e'⟩
theorem WOk.take {n : Nat} (k : WOk C F ρ w H) : WOk C F (ρ.take n) (w.take n) H := by
  refine ⟨k.frz, by simp [k.len], k.nd.sublist (List.take_sublist _ _), fun i a c h1 h2 h3 => ?_, fun i a h1 => ?_⟩
  · exact k.cel i a c (take_get h1) (take_get h2) h3
  · exact k.old i a (take_get h1)
end

structure EnvOk (C : Cn) (F : Hp) (ρ : List Addr) (env : Env) (σ : St) : Prop where
  len : env.length = σ.length
  at_ : ∀ (i : Nat) (d : D), env[i]? = some (some d) → ∃ v, σ[i]? = some (some v) ∧ Rep C F ρ d v
theorem EnvOk.up {C : Cn} {F F' : Hp} {ρ ρ' : List Addr} {env : Env} {σ : St} (k : EnvOk C F ρ env σ) (e : Ext F ρ F' ρ') : EnvOk C F' ρ' env σ :=
  ⟨k.len, fun i d h => let ⟨v, h1, h2⟩ := k.at_ i d h; ⟨v, h1, e.rep h2⟩⟩
theorem EnvOk.set {C : Cn} {F : Hp} {ρ : List Addr} {env : Env} {σ : St} {i : Nat} {d : D} {v : V} (k : EnvOk C F ρ env σ) (r : Rep C F ρ d v) : EnvOk C F ρ (env.set i (some d)) (σ.set i (some v)) := by
  refine ⟨by simp [k.len], fun j x h => ?_⟩
  by_cases hj : j = i
  · subst hj
    by_cases hl : j < env.length
    · rw [List.getElem?_set_self hl] at h
      cases h
      exact ⟨v, List.getElem?_set_self (k.len ▸ hl), r⟩
    · rw [List.getElem?_eq_none (by simpa using hl)] at h; cases h
  · rw [List.getElem?_set_ne (Ne.symm hj)] at h
    obtain ⟨u, h1, h2⟩ := k.at_ j x h
    exact ⟨u, by rw [List.getElem?_set_ne (Ne.symm hj)]; exact h1, h2⟩
theorem EnvOk.gone {C : Cn} {F : Hp} {ρ : List Addr} {env : Env} {σ : St} {i : Nat} {o : Option V} (k : EnvOk C F ρ env σ) : EnvOk C F ρ (env.set i none) (σ.set i o) := by
  refine ⟨by simp [k.len], fun j x h => ?_⟩
  by_cases hj : j = i
  · subst hj
    by_cases hl : j < env.length
    · rw [List.getElem?_set_self hl] at h; cases h
    · rw [List.getElem?_eq_none (by simpa using hl)] at h; cases h
  · rw [List.getElem?_set_ne (Ne.symm hj)] at h
    obtain ⟨u, h1, h2⟩ := k.at_ j x h
    exact ⟨u, by rw [List.getElem?_set_ne (Ne.symm hj)]; exact h1, h2⟩
inductive ExcRep (C : Cn) (F : Hp) : D → Value → Option Addr → Prop
  | bare {c : Nat} {A : Addr} : C.cA c = some A → ExcRep C F (.obj c []) (.ref A) none
  | full {c : Nat} {A d : Addr} {fs : List (Nat × D)} {es : List (Str × V)} : C.cA c = some A → F d = some (.xd es) → RepF C F [] fs es → ExcRep C F (.obj c fs) (.ref A) (some d)
theorem ExcRep.up {C : Cn} {F F' : Hp} (e : ∀ a o, F a = some o → F' a = some o) {x : D} {cl : Value} {dd : Option Addr} (h : ExcRep C F x cl dd) : ExcRep C F' x cl dd := by
  cases h with
  | bare c => exact .bare c
  | full c h q => exact .full c (e _ _ h) (q.up e fun _ _ h => h)
section
variable {α β γ δ : Type}
def Res (C : Cn) (RR : Hp → List Addr → α → β → Prop) (Wd : WX) (F : Hp) (ρ : List Addr) (r : R α) (σ : St) (Q : β → Hp → Prop) : Prop := match r with
  | .ok d w => ∀ F' ρ' H' v, Ext F ρ F' ρ' → WOk C F' ρ' w H' → RR F' ρ' d v → Q v H'
  | .exc e w => ∀ F' ρ' H' cl dd, Ext F ρ F' ρ' → WOk C F' ρ' w H' → ExcRep C F' e cl dd → Wd cl dd σ H'
  | .bad => False
def TG' (C : Cn) (RR : Hp → List Addr → α → β → Prop) (Wd : WX) (f : Env → W → R α) : St → Hp → (β → Hp → Prop) → Prop := fun σ H Q =>
  ∃ F ρ env w, WOk C F ρ w H ∧ EnvOk C F ρ env σ ∧ Res C RR Wd F ρ (f env w) σ Q
abbrev TE' (C : Cn) (Wd : WX) (f : Env → W → R D) : TE := TG' C (Rep C) Wd f
abbrev TA' (C : Cn) (Wd : WX) (f : Env → W → R (List D)) : TA := TG' C (Reps C) Wd f
abbrev TT' (C : Cn) (Wd : WX) (f : Env → W → R Bool) : TT := TG' C (fun _ _ a b => a = b) Wd f
theorem Res.mono {C : Cn} {RR : Hp → List Addr → α → β → Prop} {Wd : WX} {F : Hp} {ρ : List Addr} {r : R α} {σ : St} {Q Q' : β → Hp → Prop} (h : Res C RR Wd F ρ r σ Q) (k : ∀ v H, Q v H → Q' v H) : Res C RR Wd F ρ r σ Q' := by
  cases r with
  | ok d w => exact fun F' ρ' H' v e o q => k _ _ (h F' ρ' H' v e o q)
  | exc e w => exact h
  | bad => exact h
theorem Res.up {C : Cn} {RR : Hp → List Addr → α → β → Prop} {Wd : WX} {F F1 : Hp} {ρ r1 : List Addr} {r : R α} {σ : St} {Q : β → Hp → Prop} (h : Res C RR Wd F ρ r σ Q) (e : Ext F ρ F1 r1) : Res C RR Wd F1 r1 r σ Q := by
  cases r with
  | ok d w => exact fun F' ρ' H' v e' o q => h F' ρ' H' v (e.trans e') o q
  | exc x w => exact fun F' ρ' H' cl dd e' o q => h F' ρ' H' cl dd (e.trans e') o q
  | bad => exact h
theorem Res.bind {C : Cn} {RR : Hp → List Addr → α → β → Prop} {RS : Hp → List Addr → γ → δ → Prop} {Wd : WX} {F : Hp} {ρ : List Addr} {r : R α} {g : α → W → R γ} {σ : St} {Q : δ → Hp → Prop} (h : Res C RS Wd F ρ (r.bind g) σ Q) :
    Res C RR Wd F ρ r σ fun v H1 => ∃ F1 r1 a w1, Ext F ρ F1 r1 ∧ WOk C F1 r1 w1 H1 ∧ RR F1 r1 a v ∧ Res C RS Wd F1 r1 (g a w1) σ Q := by
  cases r with
  | ok d w => exact fun F' ρ' H' v e o q => ⟨F', ρ', d, w, e, o, q, Res.up h e⟩
  | exc x w => exact h
  | bad => exact h
theorem Res.lift {C : Cn} {RR : Hp → List Addr → α → β → Prop} {Wd : WX} {F : Hp} {ρ : List Addr} {o : Option α} {w : W} {σ : St} {Q : β → Hp → Prop} (h : Res C RR Wd F ρ (R.lift o w) σ Q) : ∃ a, o = some a ∧ Res C RR Wd F ρ (.ok a w) σ Q := by
  cases o with
  | none => exact h.elim
  | some a => exact ⟨a, rfl, h⟩
theorem Res.here {C : Cn} {RR : Hp → List Addr → α → β → Prop} {Wd : WX} {F : Hp} {ρ : List Addr} {d : α} {w : W} {σ : St} {H : Hp} {v : β} {Q : β → Hp → Prop} (h : Res C RR Wd F ρ (.ok d w) σ Q) (k : WOk C F ρ w H) (r : RR F ρ d v) : Q v H := h F ρ H v .refl k r
end
theorem PE.imp {X : Cx} {e : Expr} {t t' : TE} (h : PE X e t) (k : ∀ σ H Q, t' σ H Q → t σ H Q) : PE X e t' := ⟨fun pins s σ H Q I q => h.run pins s σ H Q I (k σ H Q q)⟩
theorem PT.imp {X : Cx} {e : Expr} {t t' : TT} (h : PT X e t) (k : ∀ σ H Q, t' σ H Q → t σ H Q) : PT X e t' := ⟨fun pins s σ H Q I q => h.run pins s σ H Q I (k σ H Q q)⟩
theorem PA.imp {X : Cx} {e : List Expr} {t t' : TA} (h : PA X e t) (k : ∀ σ H Q, t' σ H Q → t σ H Q) : PA X e t' := ⟨fun pos pins s σ H Q I q => h.run pos pins s σ H Q I (k σ H Q q)⟩
theorem PS.imp {X : Cx} {e : Stmt} {t t' : TS} (h : PS X e t) (k : ∀ D σ H, t' D σ H → t D σ H) : PS X e t' := ⟨fun pins s σ H D I q => h.run pins s σ H D I (k D σ H q)⟩
theorem PSs.imp {X : Cx} {e : List Stmt} {t t' : TS} (h : PSs X e t) (k : ∀ D σ H, t' D σ H → t D σ H) : PSs X e t' := ⟨fun pins s σ H D I q => h.run pins s σ H D I (k D σ H q)⟩
end Sv

set_option Elab.async false
set_option linter.all false
set_option maxRecDepth 100000
set_option maxHeartbeats 4000000
namespace Sv
open PySem L2
def Aft (C : Cn) (F : Hp) (ρ : List Addr) (d : D) (w : W) (Q : VK) : Prop := ∀ F' ρ' H' v, Ext F ρ F' ρ' → WOk C F' ρ' w H' → Rep C F' ρ' d v → Q v H'
section
variable {C : Cn} {F : Hp} {ρ : List Addr} {w : W} {H : Hp} {Q : VK}
theorem Aft.here {d : D} {v : V} (h : Aft C F ρ d w Q) (k : WOk C F ρ w H) (r : Rep C F ρ d v) : Q v H := h F ρ H v .refl k r
theorem Aft.lst {xs : List D} {vs : List V} (h : Aft C F ρ (.lst xs) w Q) (k : WOk C F ρ w H) (r : Reps C F ρ xs vs) {p : Addr} (n : H p = none) : Q (.ref p) (upd H p (.lst vs)) :=
  h _ ρ _ _ (k.newExt n) (k.new n) (.lst upd_same ((k.newExt n).reps r))
theorem Aft.tup {xs : List D} {vs : List V} (h : Aft C F ρ (.tup xs) w Q) (k : WOk C F ρ w H) (r : Reps C F ρ xs vs) {p : Addr} (n : H p = none) : Q (.ref p) (upd H p (.tup vs)) :=
  h _ ρ _ _ (k.newExt n) (k.new n) (.tup (.of upd_same) ((k.newExt n).reps r))
theorem WOk.sqT (k : WOk C F ρ w H) {a : Addr} {xs : List V} (h : SqT C.K F a xs) : SqT C.K H a xs := sqT_up k.frz h
theorem WOk.sqL (k : WOk C F ρ w H) {a : Addr} {xs : List V} (h : SqL C.K F a xs) : SqL C.K H a xs := sqL_up k.frz h
end
mutual
def D.py : D → PyData
  | .non => .none | .bl b => .bool b | .int i => .int i | .str s => .str (toStr s)
  | .tup xs => .tuple (D.pyL xs) | .lst xs => .list (D.pyL xs) | _ => .none
def D.pyL : List D → List PyData
  | [] => [] | x :: r => D.py x :: D.pyL r
end
mutual
theorem Rep.dp {C : Cn} {F : Hp} {ρ : List Addr} {w : W} {H : Hp} (k : WOk C F ρ w H) : ∀ {d : D} {v : V}, Rep C F ρ d v → d.isData = true → Dp C.K H v d.py
  | _, _, .non, _ => by simp only [D.py]; exact .non
  | _, _, .bl b, _ => by simp only [D.py]; exact .bl b
  | _, _, .int i, _ => by simp only [D.py]; exact .int i
  | _, _, .str s, _ => by simp only [D.py]; exact .str _
  | _, _, .tup h q, n => by simp only [D.py]; exact .tup (k.sqT h) (Reps.dp k q (by simpa [D.isData] using n))
  | _, _, .lst h q, n => by simp only [D.py]; exact .lst (.of (k.frz _ _ h)) (Reps.dp k q (by simpa [D.isData] using n))
  | _, _, .scr _, n => by simp [D.isData] at n
  | _, _, .dct _ _, n => by simp [D.isData] at n
  | _, _, .obj _ _ _, n => by simp [D.isData] at n
  | _, _, .cel _, n => by simp [D.isData] at n
  | _, _, .glo _, n => by simp [D.isData] at n
theorem Reps.dp {C : Cn} {F : Hp} {ρ : List Addr} {w : W} {H : Hp} (k : WOk C F ρ w H) : ∀ {d : List D} {v : List V}, Reps C F ρ d v → D.isDataL d = true → DpAll C.K H v (D.pyL d)
  | _, _, .nil, _ => by simp only [D.pyL]; exact .nil
  | _, _, .cons h q, n => by
    simp only [D.isDataL, Bool.and_eq_true] at n
    simp only [D.pyL]
    exact .cons (Rep.dp k h n.1) (Reps.dp k q n.2)
end
mutual
theorem D.py_plain : ∀ d : D, (D.py d).plain = true
  | .non => by simp [D.py, PyData.plain]
  | .bl b => by simp [D.py, PyData.plain]
  | .int i => by simp [D.py, PyData.plain]
  | .str s => by simp [D.py, PyData.plain]
  | .tup xs => by simp only [D.py, PyData.plain]; exact D.pyL_plain xs
  | .lst xs => by simp only [D.py, PyData.plain]; exact D.pyL_plain xs
  | .dct _ => by simp [D.py, PyData.plain]
  | .obj _ _ => by simp [D.py, PyData.plain]
  | .cel _ => by simp [D.py, PyData.plain]
  | .glo _ => by simp [D.py, PyData.plain]
  | .scr _ => by simp [D.py, PyData.plain]
theorem D.pyL_plain : ∀ d : List D, PyData.plainAll (D.pyL d) = true
  | [] => by simp [D.pyL, PyData.plainAll]
  | x :: r => by simp only [D.pyL, PyData.plainAll, D.py_plain x, D.pyL_plain r, Bool.and_self]
end
mutual
theorem D.py_dep : ∀ d : D, (D.py d).depth ≤ d.dep
  | .non => by simp [D.py, PyData.depth]
  | .bl b => by simp [D.py, PyData.depth]
  | .int i => by simp [D.py, PyData.depth]
  | .str s => by simp [D.py, PyData.depth]
  | .tup xs => by simp only [D.py, PyData.depth, D.dep]; have := D.pyL_dep xs; omega
  | .lst xs => by simp only [D.py, PyData.depth, D.dep]; have := D.pyL_dep xs; omega
  | .dct _ => by simp [D.py, PyData.depth]
  | .obj _ _ => by simp [D.py, PyData.depth]
  | .cel _ => by simp [D.py, PyData.depth]
  | .glo _ => by simp [D.py, PyData.depth]
  | .scr _ => by simp [D.py, PyData.depth]
theorem D.pyL_dep : ∀ d : List D, PyData.depthAll (D.pyL d) ≤ D.depL d
  | [] => by simp [D.pyL, PyData.depthAll]
  | x :: r => by
    simp only [D.pyL, PyData.depthAll, D.depL]
    have h1 := D.py_dep x
    have h2 := D.pyL_dep r
    omega
end
theorem toStr_beq (a b : Tx) : (toStr a == toStr b) = decide (a = b) := by
  by_cases h : a = b
  · subst h; simp
  · rw [decide_eq_false h]
    exact beq_eq_false_iff_ne.mpr fun e => h (toStr_inj e)
mutual
theorem D.eqv_py : ∀ a b : D, a.isData = true → b.isData = true → PyData.eqv (D.py a) (D.py b) = D.eqv a b
  | .non, b, _, hb => by cases b <;> simp_all [D.py, PyData.eqv, D.eqv, D.isData]
  | .bl x, b, _, hb => by cases b <;> simp_all [D.py, PyData.eqv, D.eqv, D.isData]
  | .int x, b, _, hb => by cases b <;> simp_all [D.py, PyData.eqv, D.eqv, D.isData]
  | .str x, b, _, hb => by cases b <;> first | (simp only [D.py, PyData.eqv, D.eqv, toStr_beq]; done) | simp_all [D.py, PyData.eqv, D.eqv, D.isData]
  | .tup x, b, ha, hb => by
    cases b with
    | tup y => simp only [D.py, PyData.eqv, D.eqv]; exact D.eqvL_py x y (by simpa [D.isData] using ha) (by simpa [D.isData] using hb)
    | _ => simp_all [D.py, PyData.eqv, D.eqv, D.isData]
  | .lst x, b, ha, hb => by
    cases b with
    | lst y => simp only [D.py, PyData.eqv, D.eqv]; exact D.eqvL_py x y (by simpa [D.isData] using ha) (by simpa [D.isData] using hb)
    | _ => simp_all [D.py, PyData.eqv, D.eqv, D.isData]
  | .dct _, _, ha, _ => by simp [D.isData] at ha
  | .obj _ _, _, ha, _ => by simp [D.isData] at ha
  | .cel _, _, ha, _ => by simp [D.isData] at ha
  | .glo _, _, ha, _ => by simp [D.isData] at ha
  | .scr _, _, ha, _ => by simp [D.isData] at ha
theorem D.eqvL_py : ∀ a b : List D, D.isDataL a = true → D.isDataL b = true → PyData.eqvAll (D.pyL a) (D.pyL b) = D.eqvL a b
  | [], [], _, _ => by simp [D.pyL, PyData.eqvAll, D.eqvL]
  | [], _ :: _, _, _ => by simp [D.pyL, PyData.eqvAll, D.eqvL]
  | _ :: _, [], _, _ => by simp [D.pyL, PyData.eqvAll, D.eqvL]
  | x :: r, y :: s, ha, hb => by
    simp only [D.isDataL, Bool.and_eq_true] at ha hb
    simp only [D.pyL, PyData.eqvAll, D.eqvL, D.eqv_py x y ha.1 hb.1, D.eqvL_py r s ha.2 hb.2]
end
theorem D.any_py (x : D) (hx : x.isData = true) : ∀ ys : List D, D.isDataL ys = true → ((D.pyL ys).any fun y => PyData.eqv y x.py) = ys.any fun y => D.eqv y x
  | [], _ => by simp [D.pyL]
  | y :: r, h => by
    simp only [D.isDataL, Bool.and_eq_true] at h
    simp only [D.pyL, List.any_cons, D.eqv_py y x h.1 hx, D.any_py x hx r h.2]
theorem dataOk_isData {d : D} (h : d.dataOk = true) : d.isData = true ∧ d.dep ≤ 60 := by
  simp only [D.dataOk, Bool.and_eq_true, decide_eq_true_eq] at h
  exact h

def opPy : BOp → Operator
  | .add => .Add | .sub => .Sub | .mul => .Mult | .fdiv => .FloorDiv | .mod => .Mod | .pow => .Pow
def copPy : COp → CmpOp
  | .eq => .Eq | .ne => .NotEq | .lt => .Lt | .le => .LtE | .gt => .Gt | .ge => .GtE | .is => .Is | .isn => .IsNot | .in => .In | .nin => .NotIn
def rB (C : Cn) (op : BOp) : R2 := fun v1 v2 H Q => ∃ F ρ w x y d, WOk C F ρ w H ∧ Rep C F ρ x v1 ∧ Rep C F ρ y v2 ∧ binop op x y = some d ∧ Aft C F ρ d w Q
theorem log2_lt {n b : Nat} (h : n < 2 ^ b) (hb : 0 < b) : n.log2 < b := PySem.Flt.log2_lt_of hb h
theorem natAbs64 {i : Int} (h : i.natAbs < 2 ^ 64) : -(2 : Int) ^ 64 < i ∧ i < 2 ^ 64 := by omega
theorem op_catL {X : Cx} : OpR X (binaryOp .Add) (fun x y H Q => ∃ a b xs ys, x = .ref a ∧ y = .ref b ∧ H a = some (.lst xs) ∧ H b = some (.lst ys) ∧ xs.length + ys.length ≤ sizeLine ∧ ∀ p, H p = none → Q (.ref p) (upd H p (.lst (xs ++ ys)))) := op_cat
theorem toStr_append (a b : Tx) : toStr a ++ toStr b = toStr (a ++ b) := by
  show (⟨a.toArray ++ b.toArray⟩ : Str) = ⟨(a ++ b).toArray⟩
  simp
theorem toStr_length (a : Tx) : (toStr a).length = a.length := by
  show a.toArray.size = a.length
  simp
theorem small16 {n : Nat} (h : n ≤ 16000000) : n ≤ sizeLine := by rw [sizeLine_eq]; omega
theorem op_bin {X : Cx} {C : Cn} (op : BOp) : OpR X (binaryOp (opPy op)) (rB C op) := by
  intro pins s σ H x y v u Q I rx ry h
  obtain ⟨F, ρ, w, dx, dy, d, k, r1, r2, e, q⟩ := h
  have go : ∀ {o : Operator} {r : R2}, OpR X (binaryOp o) r → r x y H Q → wpAny (model X.prog X.w) X.A (binaryOp o v u) (EP X pins σ Q) X.xe s := fun ho hr => ho pins s σ H x y v u Q I rx ry hr
  cases op <;> cases r1 <;> (try (cases r2 <;> (try (simp only [binop] at e; done)))) <;> (try (simp [binop] at e; done))
  all_goals simp only [binop] at e
  case add.int.int i j => cases e; exact go op_add ⟨_, _, rfl, rfl, q.here k (.int _)⟩
  case sub.int.int i j => cases e; exact go op_sub ⟨_, _, rfl, rfl, q.here k (.int _)⟩
  case mul.int.int i j =>
    split at e
    · cases e
      rename_i hm
      simp only [mulOk, Bool.or_eq_true, Bool.and_eq_true, decide_eq_true_eq] at hm
      rcases hm with (hm | hm) | ⟨h1, h2⟩
      · exact go op_mul ⟨_, _, rfl, rfl, .inl (natAbs64 hm), q.here k (.int _)⟩
      · exact go op_mul ⟨_, _, rfl, rfl, .inr (natAbs64 hm), q.here k (.int _)⟩
      · refine go op_mulW ⟨_, _, rfl, rfl, ?_, q.here k (.int _)⟩
        have a := log2_lt h1 (by omega)
        have b := log2_lt h2 (by omega)
        show _ + _ < _
        omega
    · cases e
  case fdiv.int.int i j =>
    split at e
    · cases e
      rename_i hm
      refine go op_fdivW ⟨_, _, rfl, rfl, ⟨hm.1, ?_⟩, q.here k (.int _)⟩
      have h2 := hm.2
      have z : j.natAbs < 2 ^ 8000 := by
        have : (j.natAbs : Int) < ((2 ^ 8000 : Nat) : Int) := by
          rw [Int.natAbs_of_nonneg (Int.le_of_lt hm.1)]
          rw [Int.natCast_pow]
          exact hm.2
        exact Int.ofNat_lt.mp this
      have := log2_lt z (by omega)
      omega
    · cases e
  case mod.int.int i j =>
    split at e
    · cases e
      rename_i hm
      exact go op_mod ⟨_, _, rfl, rfl, hm, q.here k (.int _)⟩
    · cases e
  case pow.int.int i j =>
    split at e
    · cases e
      rename_i hm
      exact go op_pow ⟨_, _, rfl, rfl, ⟨hm.1, by omega, hm.2.2⟩, q.here k (.int _)⟩
    · cases e
  case add.str.str a b =>
    split at e
    · cases e
      rename_i hm
      refine go op_add_str ⟨_, _, rfl, rfl, by rw [toStr_length, toStr_length]; exact small16 hm, ?_⟩
      rw [toStr_append]
      exact q.here k (.str _)
    · cases e
  case add.lst.lst a xs vs h1 q1 b ys us h2 q2 =>
    split at e
    · cases e
      rename_i hm
      refine go op_catL ⟨_, _, _, _, rfl, rfl, k.frz _ _ h1, k.frz _ _ h2, by rw [← q1.length, ← q2.length]; exact small16 hm, fun p n => ?_⟩
      exact q.lst k (q1.append q2) n
    · cases e
end Sv

set_option Elab.async false
set_option linter.all false
set_option maxRecDepth 100000
set_option maxHeartbeats 4000000
namespace Sv
open PySem L2
def rCm (C : Cn) (op : COp) : R2 := fun v1 v2 H Q => ∃ F ρ w x y b, WOk C F ρ w H ∧ Rep C F ρ x v1 ∧ Rep C F ρ y v2 ∧ cmpop op x y = some b ∧ Aft C F ρ (.bl b) w Q
def isNonD : D → Bool | .non => true | _ => false
theorem rep_non {C : Cn} {F : Hp} {ρ : List Addr} {d : D} {v : V} (h : Rep C F ρ d v) (hg : ∀ g v, C.gv g = some v → v ≠ .non) : decide (v = .non) = isNonD d := by
  cases h with
  | glo z => exact decide_eq_false (hg _ _ z)
  | _ => simp [isNonD]
theorem in_sign {c : Nat} {s : Tx} : decide (c ∈ (toStr s).cps.toList) = decide (c ∈ s) := decide_eq_decide.mpr (by simp [toStr])
structure CnOk (C : Cn) : Prop where
  gv : ∀ g v, C.gv g = some v → v ≠ .non
theorem op_cm {X : Cx} {C : Cn} (hK : X.K = C.K) (hC : CnOk C) (hu : X.A.units + 100 < cLine) (op : COp) : OpR X (compareOp (copPy op)) (rCm C op) := by
  intro pins s σ H x y v u Q I rx ry h
  obtain ⟨F, ρ, w, dx, dy, b, k, r1, r2, e, q⟩ := h
  have go : ∀ {o : CmpOp} {r : R2}, OpR X (compareOp o) r → r x y H Q → wpAny (model X.prog X.w) X.A (compareOp o v u) (EP X pins σ Q) X.xe s := fun ho hr => ho pins s σ H x y v u Q I rx ry hr
  have data : ∀ {d : D} {v : V} {u : Value}, Rep C F ρ d v → RelV v u → d.isData = true → ∃ as, Reads s.heap u d.py as := fun r z n => Dp.reads I _ _ _ (hK ▸ r.dp k n) z
  have fin : ∀ {b' : Bool}, b' = b → EP X pins σ Q (.bool b') s := fun z => ⟨.bl b, H, I, by rw [z]; rfl, q.here k (.bl _)⟩
  cases op
  case eq =>
    have e : (if (dx.dataOk && dy.dataOk) = true then some (D.eqv dx dy) else none) = some b := e
    split at e
    · rename_i hd
      cases e
      rw [Bool.and_eq_true] at hd
      obtain ⟨a1, a2⟩ := dataOk_isData hd.1
      obtain ⟨b1, b2⟩ := dataOk_isData hd.2
      obtain ⟨as, ra⟩ := data r1 rx a1
      obtain ⟨bs, rb⟩ := data r2 ry b1
      have d1 := D.py_dep dx
      exact SeqAt.eq_plain ra rb (D.py_plain _) (D.py_plain _) (by have := Nat.min_le_left dx.py.depth dy.py.depth; omega) (fin (D.eqv_py _ _ a1 b1))
    · cases e
  case ne =>
    have e : (if (dx.dataOk && dy.dataOk) = true then some (D.eqv dx dy) else none).map (!·) = some b := e
    split at e
    · rename_i hd
      cases e
      rw [Bool.and_eq_true] at hd
      obtain ⟨a1, a2⟩ := dataOk_isData hd.1
      obtain ⟨b1, b2⟩ := dataOk_isData hd.2
      obtain ⟨as, ra⟩ := data r1 rx a1
      obtain ⟨bs, rb⟩ := data r2 ry b1
      have d1 := D.py_dep dx
      exact SeqAt.ne_plain ra rb (D.py_plain _) (D.py_plain _) (by have := Nat.min_le_left dx.py.depth dy.py.depth; omega) (fin (by rw [D.eqv_py _ _ a1 b1]))
    · cases e
  case lt => cases r1 <;> cases r2 <;> (try (simp [cmpop] at e; done)); simp only [cmpop] at e; cases e; exact go op_lt ⟨_, _, rfl, rfl, q.here k (.bl _)⟩
  case le => cases r1 <;> cases r2 <;> (try (simp [cmpop] at e; done)); simp only [cmpop] at e; cases e; exact go op_le ⟨_, _, rfl, rfl, q.here k (.bl _)⟩
  case gt => cases r1 <;> cases r2 <;> (try (simp [cmpop] at e; done)); simp only [cmpop] at e; cases e; exact go op_gt ⟨_, _, rfl, rfl, q.here k (.bl _)⟩
  case ge => cases r1 <;> cases r2 <;> (try (simp [cmpop] at e; done)); simp only [cmpop] at e; cases e; exact go op_ge ⟨_, _, rfl, rfl, q.here k (.bl _)⟩
  case is =>
    have hy : dy = .non := by cases dx <;> cases dy <;> first | rfl | (simp [cmpop] at e; done)
    subst hy
    cases r2
    have := rep_non r1 hC.gv
    refine go op_isN ⟨rfl, ?_⟩
    rw [this]
    have e2 : isNonD dx = b := by cases dx <;> simp [cmpop] at e <;> simp [isNonD, e]
    rw [e2]
    exact q.here k (.bl _)
  case isn =>
    have hy : dy = .non := by cases dx <;> cases dy <;> first | rfl | (simp [cmpop] at e; done)
    subst hy
    cases r2
    have := rep_non r1 hC.gv
    refine go op_notN ⟨rfl, ?_⟩
    rw [this]
    have e2 : (!isNonD dx) = b := by cases dx <;> simp [cmpop] at e <;> simp [isNonD, e]
    rw [e2]
    exact q.here k (.bl _)
  case «in» =>
    have seq : ∀ {ys : List D}, inL dx ys = some b → dx.isData = true ∧ dx.dep ≤ 60 ∧ D.isDataL ys = true ∧ (ys.any fun y => D.eqv y dx) = b := fun {ys} e => by
      unfold inL at e
      split at e
      · rename_i hd
        cases e
        rw [Bool.and_eq_true] at hd
        obtain ⟨a1, a2⟩ := dataOk_isData hd.1
        obtain ⟨b1, b2⟩ := dataOk_isData hd.2
        exact ⟨a1, a2, by simpa [D.isData] using b1, rfl⟩
      · cases e
    cases r2 with
    | tup h2 q2 =>
      rename_i ys vs
      have e : inL dx ys = some b := by cases dx <;> first | exact e | (rename_i t; cases t <;> first | exact e | (rename_i t; cases t <;> exact e))
      obtain ⟨a1, a2, a3, a4⟩ := seq e
      obtain ⟨as, ra⟩ := data r1 rx a1
      obtain ⟨bs, rb⟩ := data (Rep.tup h2 q2) ry (by simpa [D.isData] using a3)
      simp only [D.py] at rb
      have d1 := D.py_dep dx
      exact SeqAt.in_tuple_data rb ra (D.pyL_plain _) (D.py_plain _) (by have := Nat.min_le_right (PyData.depthAll (D.pyL ys)) dx.py.depth; omega) (fin (by rw [D.any_py _ a1 _ a3]; exact a4))
    | lst h2 q2 =>
      rename_i ys vs
      have e : inL dx ys = some b := by cases dx <;> first | exact e | (rename_i t; cases t <;> first | exact e | (rename_i t; cases t <;> exact e))
      obtain ⟨a1, a2, a3, a4⟩ := seq e
      obtain ⟨as, ra⟩ := data r1 rx a1
      obtain ⟨bs, rb⟩ := data (Rep.lst h2 q2) ry (by simpa [D.isData] using a3)
      simp only [D.py] at rb
      have d1 := D.py_dep dx
      exact SeqAt.in_list_data rb ra (D.pyL_plain _) (D.py_plain _) (by have := Nat.min_le_right (PyData.depthAll (D.pyL ys)) dx.py.depth; omega) (fin (by rw [D.any_py _ a1 _ a3]; exact a4))
    | str t =>
      cases r1 with
      | str c =>
        match c, e with
        | [c], e =>
          simp only [cmpop] at e
          cases e
          refine go op_in_sign ⟨c, toStr t, rfl, rfl, ?_⟩
          rw [in_sign]
          exact q.here k (.bl _)
      | _ => simp [cmpop] at e
    | _ => cases dx <;> first | (simp [cmpop] at e; done) | (rename_i t; cases t <;> first | (simp [cmpop] at e; done) | (rename_i t; cases t <;> simp [cmpop] at e))
  case nin =>
    have seq : ∀ {ys : List D}, (inL dx ys).map (!·) = some b → dx.isData = true ∧ dx.dep ≤ 60 ∧ D.isDataL ys = true ∧ (!(ys.any fun y => D.eqv y dx)) = b := fun {ys} e => by
      unfold inL at e
      split at e
      · rename_i hd
        cases e
        rw [Bool.and_eq_true] at hd
        obtain ⟨a1, a2⟩ := dataOk_isData hd.1
        obtain ⟨b1, b2⟩ := dataOk_isData hd.2
        exact ⟨a1, a2, by simpa [D.isData] using b1, rfl⟩
      · cases e
    cases r2 with
    | tup h2 q2 =>
      rename_i ys vs
      have e : (inL dx ys).map (!·) = some b := by cases dx <;> first | exact e | (rename_i t; cases t <;> first | exact e | (rename_i t; cases t <;> exact e))
      obtain ⟨a1, a2, a3, a4⟩ := seq e
      obtain ⟨as, ra⟩ := data r1 rx a1
      obtain ⟨bs, rb⟩ := data (Rep.tup h2 q2) ry (by simpa [D.isData] using a3)
      simp only [D.py] at rb
      have d1 := D.py_dep dx
      exact SeqAt.notIn_tuple_data rb ra (D.pyL_plain _) (D.py_plain _) (by have := Nat.min_le_right (PyData.depthAll (D.pyL ys)) dx.py.depth; omega) (fin (by rw [D.any_py _ a1 _ a3]; exact a4))
    | lst h2 q2 =>
      rename_i ys vs
      have e : (inL dx ys).map (!·) = some b := by cases dx <;> first | exact e | (rename_i t; cases t <;> first | exact e | (rename_i t; cases t <;> exact e))
      obtain ⟨a1, a2, a3, a4⟩ := seq e
      obtain ⟨as, ra⟩ := data r1 rx a1
      obtain ⟨bs, rb⟩ := data (Rep.lst h2 q2) ry (by simpa [D.isData] using a3)
      simp only [D.py] at rb
      have d1 := D.py_dep dx
      exact SeqAt.notIn_list_data rb ra (D.pyL_plain _) (D.py_plain _) (by have := Nat.min_le_right (PyData.depthAll (D.pyL ys)) dx.py.depth; omega) (fin (by rw [D.any_py _ a1 _ a3]; exact a4))
    | str t =>
      cases r1 with
      | str c =>
        match c, e with
        | [c], e =>
          simp only [cmpop] at e
          cases e
          refine go op_notIn_sign ⟨c, toStr t, rfl, rfl, ?_⟩
          rw [in_sign]
          exact q.here k (.bl _)
      | _ => simp [cmpop] at e
    | _ => cases dx <;> first | (simp [cmpop] at e; done) | (rename_i t; cases t <;> first | (simp [cmpop] at e; done) | (rename_i t; cases t <;> simp [cmpop] at e))
theorem tru_rep {C : Cn} {F : Hp} {ρ : List Addr} {w : W} {H : Hp} (k : WOk C F ρ w H) {d : D} {v : V} (r : Rep C F ρ d v) {b : Bool} (e : d.truth = some b) : TruV C.K v H b := by
  cases r with
  | non => simp only [D.truth] at e; cases e; exact rfl
  | bl x => simp only [D.truth] at e; cases e; exact rfl
  | int i => simp only [D.truth] at e; cases e; exact rfl
  | str s =>
    simp only [D.truth] at e
    split at e
    · rename_i hs
      cases e
      refine ⟨by rw [toStr_length]; exact small16 hs, ?_⟩
      rw [toStr_length]
      cases s with
      | nil => rfl
      | cons a r =>
        have : (((a :: r).length : Int) != 0) = true := bne_iff_ne.mpr (by simp only [List.length_cons]; omega)
        rw [this]; rfl
    · cases e
  | tup h q => simp only [D.truth] at e; cases e; exact .inr (.inl ⟨_, k.sqT h, by cases q <;> rfl⟩)
  | lst h q => simp only [D.truth] at e; cases e; exact .inl ⟨_, .of (k.frz _ _ h), by cases q <;> rfl⟩
  | _ => simp [D.truth] at e
theorem at_eq {α : Type} (xs : List α) (i : Int) {v : α} (h : at? xs i = some v) : atI xs i = some v := by
  unfold at? at h
  split at h
  · rename_i h0
    obtain ⟨n, rfl⟩ := Int.eq_ofNat_of_zero_le h0
    exact atI_nat h
  · split at h
    · rename_i h0 h1
      unfold atI ixN
      have hl : (i + xs.length).toNat < xs.length := (List.getElem?_eq_some_iff.mp h).1
      simp only [h0, if_false]
      first
        | (rw [if_pos (by omega)]; simpa using h)
        | (simp; exact h)
    · cases h
end Sv

set_option Elab.async false
set_option linter.all false
set_option maxRecDepth 100000
set_option maxHeartbeats 4000000
namespace Sv
open PySem L2
def rSub (C : Cn) : R2 := fun v1 v2 H Q => ∃ F ρ w x y d, WOk C F ρ w H ∧ Rep C F ρ x v1 ∧ Rep C F ρ y v2 ∧ subF w x y = some d ∧ Aft C F ρ d w Q
theorem ix_dict {X : Cx} (hu : X.A.units + 1 < cLine) : IxR X (fun x y H Q => ∃ a v, x = .ref a ∧ DGet H a y (some v) ∧ Q v H) := by
  intro value slice pins s σ H x y v u Q I rx ry h hs
  obtain ⟨a, z, rfl, g, q⟩ := h
  obtain rfl : v = Value.ref a := rx
  have hT := dict_typeIs I g
  unfold PyProof.Rows.subscriptTail
  refine wpAny_bind ?_
  rw [getitemInPython_of_ne hT.not_modules]
  refine wpAny_bind (wpAny_specialOf hT PySem.F.slot_dict_getitem.lookup ?_)
  have fin : wpAny (model X.prog X.w) X.A (subscripted slice false (.ref a) u) (fun r s₃ => wpAny (model X.prog X.w) X.A (letTemporaryGo value (.ref a) r >>= fun _ => pure r) (EP X pins σ Q) X.xe s₃) X.xe s := by
    rw [hs]
    exact wpAny_operating (d_getItem hu I g ry fun w' s3 I3 rw' => wpAny_bind (wpAny_letTemporaryGo (wpAny_pure ⟨z, H, I3, rw', q⟩)))
  first
    | exact wpAny_bind (wpAny_pure (wpAny_bind fin))
    | exact wpAny_pure (wpAny_bind fin)
    | exact fin
    | exact wpAny_bind fin
theorem RepK.val {C : Cn} {F : Hp} {ρ : List Addr} {k : D} {y : Key} (hk : keyD k = some y) : ∀ {kvs : List (D × D)} {es : List (Key × V)}, RepK C F ρ kvs es → (∀ d, getK k kvs = some d → ∃ v, valV es y = some v ∧ Rep C F ρ d v) ∧ (getK k kvs = none → valV es y = none)
  | _, _, .nil => ⟨fun d h => (by cases h), fun _ => rfl⟩
  | _, _, .cons (k := k') (d := d') (y := y') (v := v') (ds := ds) (vs := vs) h r q => by
    have e : D.eqv k' k = decide (y' = y) := by
      cases k' <;> simp only [keyD] at h <;> cases h <;> cases k <;> simp only [keyD] at hk <;> cases hk <;> simp only [D.eqv]
      · rw [Bool.eq_iff_iff]; simp
      · simp
      · simp
      · rw [Bool.eq_iff_iff]; simp only [decide_eq_true_eq]; exact ⟨fun z => by rw [z], fun z => toStr_inj (Sum.inr.inj z)⟩
    have ih := RepK.val hk q
    unfold getK
    rw [e]
    by_cases hy : y' = y
    · subst hy
      simp only [decide_true, if_true]
      exact ⟨fun d hd => (by cases hd; exact ⟨v', by simp [valV], r⟩), fun z => (by cases z)⟩
    · simp only [hy, decide_false, Bool.false_eq_true, if_false]
      have : valV ((y', v') :: vs) y = valV vs y := by
        unfold valV
        rw [List.find?_cons_of_neg (by simpa using hy)]
      rw [this]
      exact ih
theorem keyD_of {k : D} (h : k.keyOk = true) (ht : ∀ xs, k ≠ .tup xs) : ∃ y, keyD k = some y := by
  cases k with
  | int i => exact ⟨_, rfl⟩
  | str s => exact ⟨_, rfl⟩
  | tup xs => exact absurd rfl (ht xs)
  | _ => simp [D.keyOk] at h
theorem RepK.noTup {C : Cn} {F : Hp} {ρ : List Addr} {xs : List D} : ∀ {kvs : List (D × D)} {es : List (Key × V)}, RepK C F ρ kvs es → getK (.tup xs) kvs = none
  | _, _, .nil => rfl
  | _, _, .cons (k := k') h r q => by
    unfold getK
    have e : D.eqv k' (.tup xs) = false := by cases k' <;> simp only [keyD] at h <;> cases h <;> simp only [D.eqv]
    rw [e]
    simp only [Bool.false_eq_true, if_false]
    exact RepK.noTup q
theorem keyV {C : Cn} {F : Hp} {ρ : List Addr} {k : D} {v : V} {y : Key} (r : Rep C F ρ k v) (h : keyD k = some y) : v = kV y := by
  cases r <;> simp only [keyD] at h <;> cases h <;> rfl
theorem ix_sub {X : Cx} {C : Cn} (hK : X.K = C.K) (hu : X.A.units + 100 < cLine) : IxR X (rSub C) := by
  intro value slice pins s σ H x y v u Q I rx ry h hs
  obtain ⟨F, ρ, w, dx, dy, d, k, r1, r2, e, q⟩ := h
  have go : ∀ {r : R2}, IxR X r → r x y H Q → wpAny (model X.prog X.w) X.A (PyProof.Rows.subscriptTail value slice v u) (EP X pins σ Q) X.xe s := fun ho hr => ho value slice pins s σ H x y v u Q I rx ry hr hs
  have lst : ∀ {xs : List D} {vs : List V} {a : Addr} {i : Int}, Reps C F ρ xs vs → x = .ref a → y = .int i → H a = some (.lst vs) → at? xs i = some d → wpAny (model X.prog X.w) X.A (PyProof.Rows.subscriptTail value slice v u) (EP X pins σ Q) X.xe s := by
    intro xs vs a i rr ex ey ha hat
    have hat := at_eq _ _ hat
    unfold atI at hat
    obtain ⟨j, hj, hd⟩ := Option.bind_eq_some_iff.mp hat
    obtain ⟨z, hz, rz⟩ := rr.get hd
    refine go ix_list ⟨a, vs, i, z, ex, ey, .of ha, ?_, q.here k rz⟩
    unfold atI
    rw [← rr.length, hj]
    exact hz
  have dct : ∀ {kvs : List (D × D)} {es : List (Key × V)} {a : Addr}, RepK C F ρ kvs es → x = .ref a → Rd H a (.dK es) → (if dy.keyOk then getK dy kvs else none) = some d → wpAny (model X.prog X.w) X.A (PyProof.Rows.subscriptTail value slice v u) (EP X pins σ Q) X.xe s := by
    intro kvs es a rr ex ha e
    split at e
    · rename_i hko
      by_cases ht : ∃ xs, dy = .tup xs
      · obtain ⟨xs, rfl⟩ := ht
        rw [rr.noTup] at e; cases e
      · obtain ⟨ky, hky⟩ := keyD_of hko fun xs z => ht ⟨xs, z⟩
        obtain ⟨z, hz, rz⟩ := (rr.val hky).1 _ e
        refine go (ix_dict (by omega)) ⟨a, z, ex, ?_, q.here k rz⟩
        rw [keyV r2 hky, ← hz]
        exact .inl ⟨_, _, ha, rfl, rfl⟩
    · cases e
  cases r1 with
  | lst h1 q1 => cases r2 <;> simp only [subF, view] at e <;> first | (cases e; done) | exact lst q1 rfl rfl (k.frz _ _ h1) e
  | tup h1 q1 =>
    cases r2 <;> simp only [subF, view] at e <;> first | (cases e; done) | skip
    rename_i i
    have hat := at_eq _ _ e
    unfold atI at hat
    obtain ⟨j, hj, hd⟩ := Option.bind_eq_some_iff.mp hat
    obtain ⟨z, hz, rz⟩ := q1.get hd
    refine go ix_tup ⟨_, _, i, z, rfl, rfl, hK ▸ k.sqT h1, ?_, q.here k rz⟩
    unfold atI
    rw [← q1.length, hj]
    exact hz
  | scr h1 =>
    cases r2 <;> simp only [subF, view] at e <;> first | (cases e; done) | skip
    rename_i i
    obtain ⟨n, hn, rfl⟩ := Option.map_eq_some_iff.mp e
    have hat := at_eq _ _ hn
    refine go ix_list ⟨_, _, i, .int n, rfl, rfl, hK ▸ k.sqL h1, ?_, q.here k (.int _)⟩
    unfold atI at hat ⊢
    rw [List.length_map]
    obtain ⟨j, hj, hd⟩ := Option.bind_eq_some_iff.mp hat
    rw [hj]
    show (List.map V.int _)[j]? = _
    rw [List.getElem?_map, hd]; rfl
  | str t =>
    cases r2 <;> simp only [subF, view] at e <;> first | (cases e; done) | skip
    rename_i i
    split at e
    · rename_i hl
      obtain ⟨c, hc, rfl⟩ := Option.map_eq_some_iff.mp e
      have hat := at_eq _ _ hc
      exact go ix_str ⟨_, i, c, rfl, rfl, by rw [toStr_length]; exact small16 hl, by simpa [toStr] using hat, q.here k (.str [c])⟩
    · cases e
  | dct h1 q1 => exact dct q1 rfl (.inr ⟨_, k.frz _ _ h1⟩) (by cases dy <;> simpa only [subF, view] using e)
  | cel h1 =>
    rename_i ci a
    have hci : ci < w.length := k.len ▸ (List.getElem?_eq_some_iff.mp h1).1
    cases hw : w[ci]? with
    | none => rw [List.getElem?_eq_none_iff] at hw; omega
    | some c =>
      cases c with
      | dead => simp [subF, view, hw] at e
      | ins c fs => simp [subF, view, hw] at e
      | lst xs =>
        obtain ⟨_, o, ho, co⟩ := k.cel ci a _ h1 hw (by simp)
        cases co with
        | lst qq =>
          cases r2 <;> simp only [subF, view, hw] at e <;> first | (cases e; done) | exact lst (qq.up (fun _ _ h => h) (fun i a h => by simp at h)) rfl rfl ho e
      | dct kvs =>
        obtain ⟨_, o, ho, co⟩ := k.cel ci a _ h1 hw (by simp)
        cases co with
        | dct qq => exact dct (qq.up (fun _ _ h => h) (fun i a h => by simp at h)) rfl (.inl ho) (by cases dy <;> simpa only [subF, view, hw] using e)
  | _ => cases r2 <;> simp [subF, view] at e
end Sv

set_option Elab.async false
set_option linter.all false
set_option maxRecDepth 100000
set_option maxHeartbeats 4000000
namespace Sv
open PySem L2
def partD : D → Option Int
  | .int i => some i
  | _ => none
theorem cutIx_eq {n d : Nat} {x : D} {a : Nat} (h : cutIx n x d = some a) : HT.sIx n d (partD x) = a := by
  cases x <;> simp only [cutIx] at h <;> first | (cases h; done) | skip
  · cases h; rfl
  · cases h
    rename_i i
    show (if i < 0 then (i + n).toNat else min i.toNat n) = _
    by_cases h0 : 0 ≤ i
    · rw [if_neg (by omega), if_pos h0]
    · rw [if_pos (by omega), if_neg h0]
theorem cut_eq {α : Type} {xs ys : List α} {lo hi : D} (h : cut xs lo hi = some ys) : ∃ a b, cutIx xs.length lo 0 = some a ∧ cutIx xs.length hi xs.length = some b ∧ ys = (xs.drop a).take (b - a) := by
  unfold cut at h
  split at h
  · rename_i a b h1 h2
    cases h
    exact ⟨a, b, h1, h2, by rw [List.drop_take]⟩
  · cases h
def rSlc (C : Cn) : V → Option Int → Option Int → Hp → VK → Prop := fun v1 lo hi H Q => ∃ F ρ w x l h d, WOk C F ρ w H ∧ Rep C F ρ x v1 ∧ partD l = lo ∧ partD h = hi ∧ slcF x l h w = .ok d w ∧ Aft C F ρ d w Q
theorem liftOk {α : Type} {o : Option α} {w : W} {d : α} {w' : W} (h : R.lift o w = .ok d w') : o = some d ∧ w' = w := by
  cases o <;> cases h
  exact ⟨rfl, rfl⟩
theorem sl_cut {X : Cx} {C : Cn} (hK : X.K = C.K) : SlR X (rSlc C) := by
  intro pins s σ H x v vl vu lo hi sl Q I rx hs pl pu h
  obtain ⟨F, ρ, w, dx, l, hh, d, k, r1, rfl, rfl, e, q⟩ := h
  cases r1 with
  | lst h1 q1 =>
    rename_i a xs vs
    simp only [slcF] at e
    obtain ⟨e, _⟩ := liftOk e
    obtain ⟨ys, hc, rfl⟩ := Option.map_eq_some_iff.mp e
    obtain ⟨ia, ib, ha, hb, rfl⟩ := cut_eq hc
    refine sl_list pins s σ H _ v vl vu _ _ sl Q I rx hs pl pu ⟨a, vs, rfl, .of (k.frz _ _ h1), fun p n => ?_⟩
    have e1 := cutIx_eq ha
    have e2 := cutIx_eq hb
    have : cutV vs (partD l) (partD hh) = (vs.drop ia).take (ib - ia) := by
      unfold cutV
      rw [← q1.length, e1, e2]
    rw [this]
    exact q.lst k ((q1.drop ia).take (ib - ia)) n
  | scr h1 =>
    rename_i a ns
    simp only [slcF] at e
    obtain ⟨e, _⟩ := liftOk e
    obtain ⟨ys, hc, rfl⟩ := Option.map_eq_some_iff.mp e
    obtain ⟨ia, ib, ha, hb, rfl⟩ := cut_eq hc
    refine sl_list pins s σ H _ v vl vu _ _ sl Q I rx hs pl pu ⟨a, _, rfl, hK ▸ k.sqL h1, fun p n => ?_⟩
    have e1 := cutIx_eq ha
    have e2 := cutIx_eq hb
    have : cutV (ns.map V.int) (partD l) (partD hh) = ((ns.drop ia).take (ib - ia)).map V.int := by
      unfold cutV
      rw [List.length_map, e1, e2, List.map_take, List.map_drop]
    rw [this]
    exact q.lst k (go _) n
  | tup h1 q1 =>
    rename_i a xs vs
    simp only [slcF] at e
    obtain ⟨e, _⟩ := liftOk e
    obtain ⟨ys, hc, rfl⟩ := Option.map_eq_some_iff.mp e
    obtain ⟨ia, ib, ha, hb, rfl⟩ := cut_eq hc
    have e1 := cutIx_eq ha
    have e2 := cutIx_eq hb
    refine sl_tupA pins s σ H _ v vl vu _ _ sl Q I rx hs pl pu ⟨a, vs, rfl, hK ▸ k.sqT h1, fun hw => ?_, fun _ p n => ?_⟩
    · rw [← q1.length, e1, e2] at hw
      obtain ⟨w1, w2⟩ := hw
      subst w1 w2
      have : (xs.drop 0).take (xs.length - 0) = xs := by simp
      rw [this] at q
      exact q.here k (.tup h1 q1)
    · have : cutV vs (partD l) (partD hh) = (vs.drop ia).take (ib - ia) := by
        unfold cutV
        rw [← q1.length, e1, e2]
      rw [this]
      exact q.tup k ((q1.drop ia).take (ib - ia)) n
  | str t =>
    simp only [slcF] at e
    split at e
    · rename_i hl
      obtain ⟨e, _⟩ := liftOk e
      obtain ⟨ys, hc, rfl⟩ := Option.map_eq_some_iff.mp e
      obtain ⟨ia, ib, ha, hb, rfl⟩ := cut_eq hc
      have e1 := cutIx_eq ha
      have e2 := cutIx_eq hb
      refine sl_str pins s σ H _ v vl vu _ _ sl Q I rx hs pl pu ⟨_, rfl, by rw [toStr_length]; exact small16 hl, ?_⟩
      have : cutS (toStr t) (partD l) (partD hh) = toStr ((t.drop ia).take (ib - ia)) := by
        unfold cutS
        rw [toStr_length, e1, e2]
        simp [toStr]
      rw [this]
      exact q.here k (.str _)
    · cases e
  | _ => simp [slcF] at e
where go {C : Cn} {F : Hp} {ρ : List Addr} : ∀ ns : List Int, Reps C F ρ (ns.map D.int) (ns.map V.int)
  | [] => .nil
  | n :: r => .cons (.int n) (go r)
theorem Reps.ints {C : Cn} {F : Hp} {ρ : List Addr} (ns : List Int) : Reps C F ρ (ns.map D.int) (ns.map V.int) := sl_cut.go ns
theorem Reps.strs {C : Cn} {F : Hp} {ρ : List Addr} : ∀ ns : List Tx, Reps C F ρ (ns.map D.str) ((ns.map toStr).map V.str)
  | [] => .nil
  | n :: r => .cons (.str n) (Reps.strs r)
theorem Reps.intsOf {C : Cn} {F : Hp} {ρ : List Addr} : ∀ {ds : List D} {vs : List V} {ns : List Int}, Reps C F ρ ds vs → intsD ds = some ns → vs = ns.map V.int ∧ ds = ns.map D.int
  | _, _, ns, .nil, h => by simp only [intsD] at h; cases h; exact ⟨rfl, rfl⟩
  | _, _, ns, .cons (d := d) h q, e => by
    cases h <;> simp only [intsD] at e <;> first | (cases e; done) | skip
    obtain ⟨r, hr, rfl⟩ := Option.map_eq_some_iff.mp e
    obtain ⟨e1, e2⟩ := Reps.intsOf q hr
    subst e1 e2
    exact ⟨rfl, rfl⟩
theorem Reps.boolsOf {C : Cn} {F : Hp} {ρ : List Addr} : ∀ {ds : List D} {vs : List V} {ns : List Bool}, Reps C F ρ ds vs → boolsD ds = some ns → vs = ns.map V.bl ∧ ds = ns.map D.bl
  | _, _, ns, .nil, h => by simp only [boolsD] at h; cases h; exact ⟨rfl, rfl⟩
  | _, _, ns, .cons (d := d) h q, e => by
    cases h <;> simp only [boolsD] at e <;> first | (cases e; done) | skip
    obtain ⟨r, hr, rfl⟩ := Option.map_eq_some_iff.mp e
    obtain ⟨e1, e2⟩ := Reps.boolsOf q hr
    subst e1 e2
    exact ⟨rfl, rfl⟩
theorem Reps.strsOf {C : Cn} {F : Hp} {ρ : List Addr} : ∀ {ds : List D} {vs : List V} {ns : List Tx}, Reps C F ρ ds vs → strsD ds = some ns → vs = (ns.map toStr).map V.str ∧ ds = ns.map D.str
  | _, _, ns, .nil, h => by simp only [strsD] at h; cases h; exact ⟨rfl, rfl⟩
  | _, _, ns, .cons (d := d) h q, e => by
    cases h <;> simp only [strsD] at e <;> first | (cases e; done) | skip
    obtain ⟨r, hr, rfl⟩ := Option.map_eq_some_iff.mp e
    obtain ⟨e1, e2⟩ := Reps.strsOf q hr
    subst e1 e2
    exact ⟨rfl, rfl⟩
theorem digitsN_eq : ∀ (f n : Nat), n < f → digitsN f n = TL.numL n
  | 0, _, h => by omega
  | f + 1, n, h => by
    unfold digitsN
    by_cases h10 : n < 10
    · rw [if_pos h10, TL.numL_lt h10]
    · rw [if_neg h10, TL.numL_step (by omega), digitsN_eq f (n / 10) (by omega)]
theorem natTx_eq (n : Nat) : natTx n = TL.numL n := digitsN_eq _ _ (Nat.lt_succ_self n)
theorem intTx_eq (i : Int) : Str.ofString (toString i) = toStr (intTx i) := by
  unfold intTx
  by_cases h : i < 0
  · rw [if_pos h, natTx_eq]
    obtain ⟨n, rfl⟩ : ∃ n : Nat, i = -((n + 1 : Nat) : Int) := ⟨(i.natAbs - 1), by omega⟩
    have e : toString (-((n + 1 : Nat) : Int)) = "-" ++ Nat.repr (n + 1) := rfl
    have e2 : (-((n + 1 : Nat) : Int)).natAbs = n + 1 := by omega
    rw [e, e2]
    apply TL.ext_tl
    show (Str.ofString ("-" ++ Nat.repr (n + 1))).cps.toList = (toStr (45 :: TL.numL (n + 1))).cps.toList
    rw [PyProof.Rows.signs_ofString, String.toList_append, Nat.toList_repr, List.map_append]
    simp [toStr, TL.numL]
  · rw [if_neg h, natTx_eq]
    obtain ⟨n, rfl⟩ := Int.eq_ofNat_of_zero_le (Int.not_lt.mp h)
    exact SX.num_S n
theorem figs_val : ∀ (s : Tx) (acc n : Nat), figs acc s = some n → NumText.AllDigits s ∧ s.foldl (fun acc c => acc * 10 + (c - 48)) acc = n
  | [], acc, n, h => by simp only [figs] at h; cases h; exact ⟨fun c hc => by simp at hc, rfl⟩
  | c :: r, acc, n, h => by
    simp only [figs] at h
    split at h
    · rename_i hc
      obtain ⟨h1, h2⟩ := figs_val r _ _ h
      refine ⟨fun d hd => ?_, h2⟩
      rcases List.mem_cons.mp hd with rfl | hd
      · exact hc
      · exact h1 d hd
    · cases h
theorem intOf_eq {s : Tx} {i : Int} (h : intOf s = some i) : intText? (toStr s) = some i ∧ (toStr s).length ≤ 640 := by
  unfold intOf at h
  split at h
  · cases h
  · rename_i hl
    obtain ⟨n, hn, hi⟩ := Option.map_eq_some_iff.mp h
    subst hi
    obtain ⟨h1, h2⟩ := figs_val s 0 n hn
    have hs : (toStr s).cps.toList = s := by simp [toStr]
    refine ⟨?_, by rw [toStr_length]; omega⟩
    have := intText_digits (x := toStr s) (by rw [hs]; exact h1) (by rw [hs]; intro z; apply hl; left; rw [z]; rfl) (by rw [toStr_length]; omega)
    rw [this, hs]
    show some ((s.foldl (fun acc c => acc * 10 + (c - 48)) 0 : Nat) : Int) = _
    rw [h2]
end Sv

set_option Elab.async false
set_option linter.all false
set_option maxRecDepth 100000
set_option maxHeartbeats 4000000
namespace Sv
open PySem L2
section
variable {X : Cx}
def rSortedPT (K : PySem.W.Frag) : List V → Hp → VK → Prop := fun vs H Q => ∃ (a : Addr) (xs : List V) (k : V → Int × Int), vs = [V.ref a] ∧ SqL K H a xs ∧ (∀ x ∈ xs, ∃ t, x = V.ref t ∧ SqT K H t [.int (k x).1, .int (k x).2]) ∧
  ∀ ys p, SrtO.Srtd (ltP k) ys → SrtO.Stb (ltP k) ys xs → H p = none → Q (.ref p) (upd H p (.lst ys))
theorem cr_sortedPT : CallR X (.builtin "sorted") (rSortedPT X.K) := by
  intro pins s σ H vs us Q I r h
  obtain ⟨a, xs, k, rfl, hs, hx, q⟩ := h
  obtain ⟨its, rv, hl, hz⟩ := I.list hs
  obtain ⟨u, rfl, ru⟩ := vals1 r
  obtain rfl : u = Value.ref a := ru
  obtain ⟨e1, e2⟩ := refs_back rv fun x m => by
    obtain ⟨t, e, _⟩ := hx x m
    exact ⟨t, e⟩
  refine SrtO.sorted_pairsO (k := fun u => k (backV u)) hl.isList (by rw [← rv.length]; exact hz) (fun v hv => ?_) fun h' d out h1 h2 kp hd hn => ?_
  · obtain ⟨t, rfl⟩ := e2 v hv
    have hm : V.ref t ∈ xs := by rw [e1]; exact List.mem_map.mpr ⟨_, hv, rfl⟩
    obtain ⟨t', e, ht⟩ := hx _ hm
    cases e
    obtain ⟨its2, r2, ⟨o, ho, hc, n, hd⟩, _⟩ := I.tuple ht
    obtain ⟨u1, u2, rfl, ri, rj⟩ := vals2 r2
    obtain ⟨t1, rfl⟩ := ri
    obtain ⟨t2, rfl⟩ := rj
    exact ⟨t, o, t1, t2, n, rfl, ho, hc, hd⟩
  · have h3 : ∀ u ∈ out, ∃ a, u = Value.ref a := fun u hu => e2 u (h2.perm.mem_iff.mp hu)
    obtain ⟨n, hn⟩ := hn
    have hb : SrtO.Stb (ltP k) (out.map backV) xs := by
      rw [e1]
      exact SrtO.Stb.map (ltP_swo k) backV h2
    refine ⟨.ref d, upd H d (.lst (out.map backV)), I.laid (t' := s.toks) kp hd ⟨?_, out, n, vals_back h3, hn⟩, rfl, q _ d (SrtO.srtd_map h1) hb (I.hok.fresh hd)⟩
    rw [hb.len]
    exact hz
end
open Classical in
noncomputable def pairOfV (K : PySem.W.Frag) (F : Hp) (v : V) : Int × Int := if h : ∃ p : Int × Int, ∃ t, v = .ref t ∧ SqT K F t [.int p.1, .int p.2] then h.choose else (0, 0)
theorem pairOfV_at {K : PySem.W.Frag} {F : Hp} {v : V} (h : ∃ p : Int × Int, ∃ t, v = .ref t ∧ SqT K F t [.int p.1, .int p.2]) : ∃ t, v = .ref t ∧ SqT K F t [.int (pairOfV K F v).1, .int (pairOfV K F v).2] := by
  unfold pairOfV
  rw [dif_pos h]
  exact h.choose_spec
theorem pairsD_eq : ∀ {ds : List D} {ps : List (Int × Int)}, pairsD ds = some ps → ds = ps.map pairD
  | [], ps, h => by simp [pairsD] at h; subst h; rfl
  | d :: r, ps, h => by
    unfold pairsD at h
    split at h
    · rename_i e; cases e
    · rename_i i j r' e
      cases e
      obtain ⟨q, h1, rfl⟩ := Option.map_eq_some_iff.mp h
      rw [pairsD_eq h1]; rfl
    · cases h
theorem pairs_at {C : Cn} {F : Hp} {ρ : List Addr} (inj : ∀ t xs ys, SqT C.K F t xs → SqT C.K F t ys → xs = ys) : ∀ {ps : List (Int × Int)} {vs : List V}, Reps C F ρ (ps.map pairD) vs → vs.map (pairOfV C.K F) = ps ∧ ∀ x ∈ vs, ∃ t, x = .ref t ∧ SqT C.K F t [.int (pairOfV C.K F x).1, .int (pairOfV C.K F x).2]
  | [], _, .nil => ⟨rfl, fun x h => by simp at h⟩
  | p :: ps, _, .cons (v := v) rd rs => by
    obtain ⟨h1, h2⟩ := pairs_at inj rs
    have hv : ∃ t, v = .ref t ∧ SqT C.K F t [.int p.1, .int p.2] := by
      cases rd with
      | tup h q =>
        cases q with
        | cons a q => cases q with
          | cons b q => cases q; cases a; cases b; exact ⟨_, rfl, h⟩
    obtain ⟨t, e, hs⟩ := hv
    obtain ⟨t', e', hs'⟩ := pairOfV_at ⟨p, t, e, hs⟩
    subst e; cases e'
    have := inj _ _ _ hs hs'
    have e2 : pairOfV C.K F (.ref t) = p := by
      simp only [List.cons.injEq, V.int.injEq, and_true] at this
      exact (Prod.ext this.1 this.2).symm
    refine ⟨by rw [List.map_cons, h1, e2], fun x hx => ?_⟩
    rw [List.mem_cons] at hx
    rcases hx with rfl | hx
    · exact ⟨t, rfl, hs'⟩
    · exact h2 x hx
theorem reps_of_pairs {C : Cn} {F : Hp} {ρ : List Addr} {k : V → Int × Int} : ∀ {vs : List V}, (∀ x ∈ vs, ∃ t, x = .ref t ∧ SqT C.K F t [.int (k x).1, .int (k x).2]) → Reps C F ρ ((vs.map k).map pairD) vs
  | [], _ => .nil
  | v :: vs, h => by
    obtain ⟨t, e, hs⟩ := h v (by simp)
    refine .cons ?_ (reps_of_pairs fun x hx => h x (by simp [hx]))
    subst e
    exact .tup hs (.cons (.int _) (.cons (.int _) .nil))
theorem lexLe_iff {p q : Int × Int} : lexLe p q = true ↔ p.1 < q.1 ∨ (p.1 = q.1 ∧ p.2 ≤ q.2) := by simp [lexLe]
theorem lex_uniq {l m : List (Int × Int)} (p : m.Perm l) (h : m.Pairwise fun a b => lexLe a b = true) : m = l.mergeSort lexLe := by
  have s1 : (l.mergeSort lexLe).Pairwise (fun a b => lexLe a b = true) :=
    List.pairwise_mergeSort (le := lexLe) (fun a b c h1 h2 => by rw [lexLe_iff] at *; omega) (fun a b => by rw [Bool.or_eq_true, lexLe_iff, lexLe_iff]; omega) l
  exact List.Perm.eq_of_pairwise (fun a b _ _ h1 h2 => by rw [lexLe_iff] at *; exact Prod.ext (by omega) (by omega)) h s1 (p.trans (List.mergeSort_perm _ _).symm)
theorem pairs_sorted {C : Cn} {F : Hp} {ρ : List Addr} (inj : ∀ t xs ys, SqT C.K F t xs → SqT C.K F t ys → xs = ys) {ps : List (Int × Int)} {vs zs : List V} (r : Reps C F ρ (ps.map pairD) vs) (hs : SrtO.Srtd (ltP (pairOfV C.K F)) zs) (hb : SrtO.Stb (ltP (pairOfV C.K F)) zs vs) : Reps C F ρ ((ps.mergeSort lexLe).map pairD) zs := by
  obtain ⟨h1, h2⟩ := pairs_at inj r
  have hm : zs.map (pairOfV C.K F) = ps.mergeSort lexLe := by
    refine lex_uniq (h1 ▸ hb.perm.map _) ?_
    have := SrtO.srtd_map (lt := SrtO.lexB) hs
    refine List.Pairwise.imp (fun {a b} h => ?_) this
    rw [lexLe_iff]
    have := SrtO.lexB_no.mp h
    omega
  rw [← hm]
  exact reps_of_pairs fun x hx => h2 x (hb.perm.mem_iff.mp hx)
end Sv

set_option Elab.async false
set_option linter.all false
set_option maxRecDepth 100000
set_option maxHeartbeats 4000000
namespace Sv
open PySem L2
def biV : BI → Value
  | .len => .builtin "len" | .abs => .builtin "abs" | .max => .builtin "max" | .min => .builtin "min" | .sum => .builtin "sum" | .all => .builtin "all" | .any => .builtin "any"
  | .int => .type "int" | .str => .type "str" | .bool => .type "bool" | .list => .type "list" | .tuple => .type "tuple" | .repr => .builtin "repr" | .sorted => .builtin "sorted" | .divmod => .builtin "divmod"
  | .dict => .type "dict" | .set => .type "set"
def biS : BI → String
  | .len => "len" | .abs => "abs" | .max => "max" | .min => "min" | .sum => "sum" | .all => "all" | .any => "any"
  | .int => "int" | .str => "str" | .bool => "bool" | .list => "list" | .tuple => "tuple" | .repr => "repr" | .sorted => "sorted" | .divmod => "divmod" | .dict => "dict" | .set => "set"
def rBi (C : Cn) (G : Prog) (b : BI) : List V → Hp → VK → Prop := fun vs H Q => ∃ F ρ w ds d w', WOk C F ρ w H ∧ Reps C F ρ ds vs ∧ biF G b ds w = .ok d w' ∧ Aft C F ρ d w' Q
def GRep (G : Prog) : Prop := ∀ d, toStr (G.rep d) = (D.py d).shown
mutual
theorem repSz_ok : ∀ (d : D) (n : Nat), d.repSz = some n → (D.py d).showable = true ∧ (D.py d).shown.length ≤ n ∧ d.isData = true ∧ (D.py d).hasDict = false
  | .non, n, h => by simp only [D.repSz] at h; cases h; exact ⟨by simp [D.py, PyData.showable], by simp only [D.py, PyData.shown]; decide, rfl, by simp [D.py, PyData.hasDict]⟩
  | .bl b, n, h => by simp only [D.repSz] at h; cases h; exact ⟨by simp [D.py, PyData.showable], by simp only [D.py, PyData.shown]; cases b <;> decide, rfl, by simp [D.py, PyData.hasDict]⟩
  | .int i, n, h => by
    simp only [D.repSz] at h
    split at h
    · rename_i hi
      cases h
      have hl := log2_lt hi (by omega)
      refine ⟨by simp only [D.py, PyData.showable]; exact decide_eq_true (by omega), ?_, rfl, by simp [D.py, PyData.hasDict]⟩
      simp only [D.py, PyData.shown]
      have e : (Str.ofString (toString i)).length = (intTx i).length := by rw [intTx_eq, toStr_length]
      show (Str.ofString (toString i)).length ≤ 700
      rw [e]
      have hk : (TL.numL i.natAbs).length ≤ 600 := TL.numL_len (by omega) (Nat.lt_of_lt_of_le hi (by decide +kernel))
      unfold intTx
      split
      · rw [natTx_eq, List.length_cons]; omega
      · rw [natTx_eq]; omega
    · cases h
  | .str s, n, h => by
    simp only [D.repSz] at h
    split at h
    · rename_i hs
      cases h
      refine ⟨by simp [D.py, PyData.showable], ?_, rfl, by simp [D.py, PyData.hasDict]⟩
      simp only [D.py, PyData.shown]
      have := StrLaws.reprText_len (toStr s) (fun c hc => by
        have hc : c ∈ s := by simpa [toStr] using hc
        have := List.all_eq_true.mp hs c hc
        simp only [decide_eq_true_eq] at this
        omega)
      rw [toStr_length] at this
      exact this
    · cases h
  | .tup xs, n, h => by
    simp only [D.repSz] at h
    obtain ⟨m, hm, rfl⟩ := Option.map_eq_some_iff.mp h
    obtain ⟨h1, h2, h3, h4⟩ := repSzL_ok xs m hm
    refine ⟨by simp only [D.py, PyData.showable]; exact h1, ?_, by simp only [D.isData]; exact h3, by simp only [D.py, PyData.hasDict]; exact h4⟩
    simp only [D.py, PyData.shown]
    exact Nat.le_trans (tupLen _) (by omega)
  | .lst xs, n, h => by
    simp only [D.repSz] at h
    obtain ⟨m, hm, rfl⟩ := Option.map_eq_some_iff.mp h
    obtain ⟨h1, h2, h3, h4⟩ := repSzL_ok xs m hm
    refine ⟨by simp only [D.py, PyData.showable]; exact h1, ?_, by simp only [D.isData]; exact h3, by simp only [D.py, PyData.hasDict]; exact h4⟩
    simp only [D.py, PyData.shown]
    exact Nat.le_trans (lstLen _) (by omega)
  | .dct _, _, h => by simp [D.repSz] at h
  | .obj _ _, _, h => by simp [D.repSz] at h
  | .cel _, _, h => by simp [D.repSz] at h
  | .glo _, _, h => by simp [D.repSz] at h
  | .scr _, _, h => by simp [D.repSz] at h
theorem repSzL_ok : ∀ (d : List D) (n : Nat), D.repSzL d = some n → PyData.showableAll (D.pyL d) = true ∧ ((PyData.shownAll (D.pyL d)).map (·.length + 2)).sum ≤ n ∧ D.isDataL d = true ∧ PyData.hasDictAll (D.pyL d) = false
  | [], n, h => by simp only [D.repSzL] at h; cases h; exact ⟨by simp [D.pyL, PyData.showableAll], by simp [D.pyL, PyData.shownAll], rfl, by simp [D.pyL, PyData.hasDictAll]⟩
  | x :: r, n, h => by
    simp only [D.repSzL] at h
    split at h
    · rename_i a b ha hb
      cases h
      obtain ⟨h1, h2, h3, h4⟩ := repSz_ok x a ha
      obtain ⟨g1, g2, g3, g4⟩ := repSzL_ok r b hb
      refine ⟨by simp only [D.pyL, PyData.showableAll, h1, g1, Bool.and_self], ?_, by simp only [D.isDataL, h3, g3, Bool.and_self], by simp only [D.pyL, PyData.hasDictAll, h4, g4, Bool.or_self]⟩
      simp only [D.pyL, PyData.shownAll, List.map_cons, List.sum_cons]
      omega
    · cases h
theorem textFromLen : ∀ (ts : List Str) (k : Nat) (acc : Str), (textFrom k acc ts).length ≤ acc.length + (ts.map (·.length + 2)).sum
  | [], k, acc => by simp [textFrom]
  | t :: r, k, acc => by
    have := textFromLen r (k + 1) (acc ++ (if k > 0 then ", " else "" : String) ++ t)
    simp only [textFrom, List.map_cons, List.sum_cons]
    have e : (acc ++ (if k > 0 then ", " else "" : String) ++ t : Str).length ≤ acc.length + (t.length + 2) := by
      rw [strLen_append, strLen_append]
      split
      · have : (Str.ofString ", ").length = 2 := by decide
        show acc.length + (Str.ofString ", ").length + t.length ≤ _
        omega
      · have : (Str.ofString "").length = 0 := by decide
        show acc.length + (Str.ofString "").length + t.length ≤ _
        omega
    omega
theorem lstLen (ts : List Str) : (listText ts).length ≤ (ts.map (·.length + 2)).sum + 3 := by
  unfold listText
  rw [strLen_append]
  have := textFromLen ts 0 (Str.ofString "[")
  have e1 : (Str.ofString "[").length = 1 := by decide
  have e2 : (Str.ofString "]").length = 1 := by decide
  show (textFrom 0 (Str.ofString "[") ts).length + (Str.ofString "]").length ≤ _
  omega
theorem joinLen (sep : Str) : ∀ ts : List Str, (Str.join sep ts).length ≤ (ts.map (·.length + sep.length)).sum
  | [] => by simp [Str.join]; decide
  | [a] => by simp [Str.join]
  | a :: b :: r => by
    have := joinLen sep (b :: r)
    show (a ++ sep ++ Str.join sep (b :: r)).length ≤ _
    rw [strLen_append, strLen_append]
    simp only [List.map_cons, List.sum_cons] at this ⊢
    omega
theorem tupLen (ts : List Str) : (tupleText ts).length ≤ (ts.map (·.length + 2)).sum + 3 := by
  unfold tupleText
  rw [strLen_append, strLen_append]
  have := joinLen (Str.ofString ", ") ts
  have e0 : (Str.ofString ", ").length = 2 := by decide
  have e1 : (Str.ofString "(").length = 1 := by decide
  rw [e0] at this
  have e2 : ((if ts.length == 1 then ",)" else ")" : String) : Str).length ≤ 2 := by split <;> decide
  show (Str.ofString "(").length + (Str.join (Str.ofString ", ") ts).length + _ ≤ _
  omega
end

theorem foldMax (l : List Int) (a : Int) : (l.foldl (fun m x => if x > m then x else m) a) ∈ a :: l ∧ ∀ y ∈ a :: l, y ≤ l.foldl (fun m x => if x > m then x else m) a := by
  induction l generalizing a with
  | nil => exact ⟨by simp, fun y hy => by simp at hy; subst hy; exact Int.le_refl _⟩
  | cons b r ih =>
    obtain ⟨h1, h2⟩ := ih (if b > a then b else a)
    simp only [List.foldl_cons]
    have ha := h2 _ (List.mem_cons_self ..)
    refine ⟨?_, fun y hy => ?_⟩
    · rcases List.mem_cons.mp h1 with e | e
      · rw [e]; split <;> simp
      · simp [e]
    · simp only [List.mem_cons] at hy
      rcases hy with rfl | rfl | hy
      · refine Int.le_trans ?_ ha; split <;> omega
      · refine Int.le_trans ?_ ha; split <;> omega
      · exact h2 y (List.mem_cons_of_mem _ hy)
theorem foldMin (l : List Int) (a : Int) : (l.foldl (fun m x => if x < m then x else m) a) ∈ a :: l ∧ ∀ y ∈ a :: l, l.foldl (fun m x => if x < m then x else m) a ≤ y := by
  induction l generalizing a with
  | nil => exact ⟨by simp, fun y hy => by simp at hy; subst hy; exact Int.le_refl _⟩
  | cons b r ih =>
    obtain ⟨h1, h2⟩ := ih (if b < a then b else a)
    simp only [List.foldl_cons]
    have ha := h2 _ (List.mem_cons_self ..)
    refine ⟨?_, fun y hy => ?_⟩
    · rcases List.mem_cons.mp h1 with e | e
      · rw [e]; split <;> simp
      · simp [e]
    · simp only [List.mem_cons] at hy
      rcases hy with rfl | rfl | hy
      · refine Int.le_trans ha ?_; split <;> omega
      · refine Int.le_trans ha ?_; split <;> omega
      · exact h2 y (List.mem_cons_of_mem _ hy)
theorem RepK.length {C : Cn} {F : Hp} {ρ : List Addr} : ∀ {kvs : List (D × D)} {es : List (Key × V)}, RepK C F ρ kvs es → kvs.length = es.length
  | _, _, .nil => rfl
  | _, _, .cons _ _ q => congrArg Nat.succ (RepK.length q)
theorem reps1 {C : Cn} {F : Hp} {ρ : List Addr} {d : D} {vs : List V} (h : Reps C F ρ [d] vs) : ∃ v, vs = [v] ∧ Rep C F ρ d v := by
  cases h with | cons a b => cases b; exact ⟨_, rfl, a⟩
theorem reps2 {C : Cn} {F : Hp} {ρ : List Addr} {d e : D} {vs : List V} (h : Reps C F ρ [d, e] vs) : ∃ v u, vs = [v, u] ∧ Rep C F ρ d v ∧ Rep C F ρ e u := by
  cases h with | cons a b => cases b with | cons b c => cases c; exact ⟨_, _, rfl, a, b⟩
theorem sorted_uniq {l m : List Int} (p : m.Perm l) (h : m.Pairwise (· ≤ ·)) : m = l.mergeSort (· ≤ ·) := by
  have s1 : (l.mergeSort (fun a b => decide (a ≤ b))).Pairwise (fun a b => a ≤ b) := by
    have := List.pairwise_mergeSort (le := fun a b : Int => decide (a ≤ b)) (fun a b c h1 h2 => by simp at *; omega) (fun a b => by simp; omega) l
    exact this.imp fun h => by simpa using h
  exact List.Perm.eq_of_pairwise (fun a b _ _ h1 h2 => Int.le_antisymm h1 h2) h s1 (p.trans (List.mergeSort_perm _ _).symm)
theorem call_lenR {X : Cx} : CallR X (.builtin "len") (fun xs H Q => ∃ a kvs, xs = [V.ref a] ∧ Rd H a (.dK kvs) ∧ Q (.int kvs.length) H) := by
  intro pins s σ H xs us Q I r h
  obtain ⟨a, kvs, rfl, ha, q⟩ := h
  obtain ⟨u, rfl, ru⟩ := vals1 r
  cases ru
  exact d_len I ha fun t s' I' => ⟨.int kvs.length, H, I', ⟨t, rfl⟩, q⟩
theorem call_bi {X : Cx} {C : Cn} {G : Prog} (hK : X.K = C.K) (hG : GRep G) (hc : X.calm = true) (hg : X.A.guards = some []) (hu : X.A.units + 100 < cLine) (b : BI) : CallR X (biV b) (rBi C G b) := by
  intro pins s σ H xs us Q I rx h
  obtain ⟨F, ρ, w, ds, d, w', k, rr, e, q⟩ := h
  have go : ∀ {f : Value} {r : List V → Hp → VK → Prop}, CallR X f r → r xs H Q → wpAny (model X.prog X.w) X.A (call f us) (EP X pins σ Q) X.xe s := fun ho hr => ho pins s σ H xs us Q I rx hr
  have sq : ∀ {a : Addr} {vs : List V}, F a = some (.lst vs) → SqL X.K H a vs := fun h => .of (k.frz _ _ h)
  cases b
  case len =>
    match ds, e with
    | [x], e =>
      simp only [biF] at e
      obtain ⟨ee, ew⟩ := liftOk e
      subst ew
      obtain ⟨n, hn, rfl⟩ := Option.map_eq_some_iff.mp ee
      obtain ⟨v, rfl, r1⟩ := reps1 rr
      cases r1 with
      | lst h1 q1 => simp only [lenF, view] at hn; cases hn; exact go call_len ⟨_, _, rfl, .inl ⟨_, sq h1, rfl⟩, by rw [← q1.length]; exact q.here k (.int _)⟩
      | @scr a ns h1 => simp only [lenF, view] at hn; cases hn; exact go call_len ⟨_, ns.length, rfl, .inl ⟨_, hK ▸ k.sqL h1, by simp⟩, q.here k (.int _)⟩
      | tup h1 q1 => simp only [lenF, view] at hn; cases hn; exact go call_len ⟨_, _, rfl, .inr ⟨_, hK ▸ k.sqT h1, rfl⟩, by rw [← q1.length]; exact q.here k (.int _)⟩
      | str t =>
        simp only [lenF, view] at hn
        split at hn
        · rename_i hl
          cases hn
          refine go call_len ⟨_, t.length, rfl, ⟨by rw [toStr_length]; exact small16 hl, by rw [toStr_length]⟩, q.here k (.int _)⟩
        · cases hn
      | dct h1 q1 => simp only [lenF, view] at hn; cases hn; exact go call_lenR ⟨_, _, rfl, .inr ⟨_, k.frz _ _ h1⟩, by rw [← q1.length]; exact q.here k (.int _)⟩
      | @cel ci a h1 =>
        cases hw : w'[ci]? with
        | none => simp [lenF, view, hw] at hn
        | some c =>
          cases c with
          | dead => simp [lenF, view, hw] at hn
          | ins c fs => simp [lenF, view, hw] at hn
          | lst xs =>
            obtain ⟨_, o, ho, co⟩ := k.cel ci a _ h1 hw (by simp)
            cases co with
            | lst qq => simp only [lenF, view, hw] at hn; cases hn; exact go call_len ⟨_, _, rfl, .inl ⟨_, .of ho, rfl⟩, by rw [← qq.length]; exact q.here k (.int _)⟩
          | dct kvs =>
            obtain ⟨_, o, ho, co⟩ := k.cel ci a _ h1 hw (by simp)
            cases co with
            | dct qq => simp only [lenF, view, hw] at hn; cases hn; exact go call_lenR ⟨_, _, rfl, .inl ho, by rw [← qq.length]; exact q.here k (.int _)⟩
      | _ => simp [lenF, view] at hn
  case abs =>
    match ds, e with
    | [.int i], e => simp only [biF] at e; cases e; obtain ⟨v, rfl, r1⟩ := reps1 rr; cases r1; exact go call_abs ⟨i, rfl, q.here k (.int _)⟩
  case max =>
    match ds, e with
    | [.int i, .int j], e => simp only [biF] at e; cases e; obtain ⟨v, u, rfl, r1, r2⟩ := reps2 rr; cases r1; cases r2; exact go (call_max2 hc) ⟨i, j, rfl, q.here k (.int _)⟩
    | [.lst ys], e =>
      simp only [biF] at e
      obtain ⟨ee, ew⟩ := liftOk e
      subst ew
      obtain ⟨m, hm, rfl⟩ := Option.map_eq_some_iff.mp ee
      obtain ⟨ns, hns, hm⟩ := Option.bind_eq_some_iff.mp hm
      obtain ⟨v, rfl, r1⟩ := reps1 rr
      cases r1 with
      | lst h1 q1 =>
        obtain ⟨e1, _⟩ := q1.intsOf hns
        subst e1
        cases ns with
        | nil => simp [maxI] at hm
        | cons a r =>
          simp only [maxI] at hm
          cases hm
          obtain ⟨f1, f2⟩ := foldMax r a
          refine go (cr_max hc) ⟨_, _, rfl, sq h1, by simp, fun z h2 h3 => ?_⟩
          rw [show z = r.foldl (fun m x => if x > m then x else m) a from Int.le_antisymm (f2 z h2) (h3 _ f1)]
          exact q.here k (.int _)
  case min =>
    match ds, e with
    | [.int i, .int j], e => simp only [biF] at e; cases e; obtain ⟨v, u, rfl, r1, r2⟩ := reps2 rr; cases r1; cases r2; exact go (call_min2 hc) ⟨i, j, rfl, q.here k (.int _)⟩
    | [.lst ys], e =>
      simp only [biF] at e
      obtain ⟨ee, ew⟩ := liftOk e
      subst ew
      obtain ⟨m, hm, rfl⟩ := Option.map_eq_some_iff.mp ee
      obtain ⟨ns, hns, hm⟩ := Option.bind_eq_some_iff.mp hm
      obtain ⟨v, rfl, r1⟩ := reps1 rr
      cases r1 with
      | lst h1 q1 =>
        obtain ⟨e1, _⟩ := q1.intsOf hns
        subst e1
        cases ns with
        | nil => simp [minI] at hm
        | cons a r =>
          simp only [minI] at hm
          cases hm
          obtain ⟨f1, f2⟩ := foldMin r a
          refine go (cr_min hc) ⟨_, _, rfl, sq h1, by simp, fun z h2 h3 => ?_⟩
          rw [show z = r.foldl (fun m x => if x < m then x else m) a from Int.le_antisymm (h3 _ f1) (f2 z h2)]
          exact q.here k (.int _)
  case sum =>
    match ds, e with
    | [.lst ys], e =>
      simp only [biF] at e
      obtain ⟨ee, ew⟩ := liftOk e
      subst ew
      obtain ⟨ns, hns, rfl⟩ := Option.map_eq_some_iff.mp ee
      obtain ⟨v, rfl, r1⟩ := reps1 rr
      cases r1 with
      | lst h1 q1 =>
        obtain ⟨e1, _⟩ := q1.intsOf hns
        subst e1
        exact go (cr_sum hc) ⟨_, _, rfl, sq h1, q.here k (.int _)⟩
  case all =>
    match ds, e with
    | [.lst ys], e =>
      simp only [biF] at e
      obtain ⟨ee, ew⟩ := liftOk e
      subst ew
      obtain ⟨ns, hns, rfl⟩ := Option.map_eq_some_iff.mp ee
      obtain ⟨v, rfl, r1⟩ := reps1 rr
      cases r1 with
      | lst h1 q1 =>
        obtain ⟨e1, _⟩ := q1.boolsOf hns
        subst e1
        exact go (cr_all hc) ⟨_, _, rfl, sq h1, q.here k (.bl _)⟩
  case any =>
    match ds, e with
    | [.lst ys], e =>
      simp only [biF] at e
      obtain ⟨ee, ew⟩ := liftOk e
      subst ew
      obtain ⟨ns, hns, rfl⟩ := Option.map_eq_some_iff.mp ee
      obtain ⟨v, rfl, r1⟩ := reps1 rr
      cases r1 with
      | lst h1 q1 =>
        obtain ⟨e1, _⟩ := q1.boolsOf hns
        subst e1
        exact go (cr_any hc) ⟨_, _, rfl, sq h1, q.here k (.bl _)⟩
  case int =>
    match ds, e with
    | [.int i], e => simp only [biF] at e; cases e; obtain ⟨v, rfl, r1⟩ := reps1 rr; cases r1; exact go call_int1 (.inl ⟨i, rfl, q.here k (.int _)⟩)
    | [.bl i], e => simp only [biF] at e; cases e; obtain ⟨v, rfl, r1⟩ := reps1 rr; cases r1; exact go call_int1 (.inr ⟨i, rfl, q.here k (.int _)⟩)
    | [.str t], e =>
      simp only [biF] at e
      obtain ⟨ee, ew⟩ := liftOk e
      subst ew
      obtain ⟨n, hn, rfl⟩ := Option.map_eq_some_iff.mp ee
      obtain ⟨v, rfl, r1⟩ := reps1 rr
      cases r1
      obtain ⟨g1, g2⟩ := intOf_eq hn
      exact go call_int_str ⟨_, n, rfl, g1, g2, q.here k (.int _)⟩
  case bool =>
    match ds, e with
    | [.int i], e => simp only [biF] at e; cases e; obtain ⟨v, rfl, r1⟩ := reps1 rr; cases r1; exact go call_bool1 (.inl ⟨i, rfl, q.here k (.bl _)⟩)
    | [.bl i], e => simp only [biF] at e; cases e; obtain ⟨v, rfl, r1⟩ := reps1 rr; cases r1; exact go call_bool1 (.inr ⟨i, rfl, q.here k (.bl _)⟩)
  case str =>
    match ds, e with
    | [.int i], e =>
      simp only [biF] at e
      split at e
      · rename_i hi
        cases e
        obtain ⟨v, rfl, r1⟩ := reps1 rr
        cases r1
        have := log2_lt hi (by omega)
        refine go call_str_int ⟨i, rfl, by omega, ?_⟩
        rw [intTx_eq]
        exact q.here k (.str _)
      · cases e
    | [.str t], e => simp only [biF] at e; cases e; obtain ⟨v, rfl, r1⟩ := reps1 rr; cases r1; exact go SkE.call_str_str ⟨_, rfl, q.here k (.str _)⟩
  case list =>
    match ds, e with
    | [.lst ys], e =>
      simp only [biF, newL] at e
      split at e
      · cases e
      · simp only [Bool.false_eq_true, if_false] at e
        cases e
        obtain ⟨v, rfl, r1⟩ := reps1 rr
        cases r1 with
        | lst h1 q1 => exact go call_list_of ⟨_, _, rfl, .inl (sq h1), fun l n => q.lst k q1 n⟩
    | [.tup ys], e =>
      simp only [biF, newL] at e
      split at e
      · cases e
      · simp only [Bool.false_eq_true, if_false] at e
        cases e
        obtain ⟨v, rfl, r1⟩ := reps1 rr
        cases r1 with
        | tup h1 q1 => exact go call_list_of ⟨_, _, rfl, .inr (hK ▸ k.sqT h1), fun l n => q.lst k q1 n⟩
  case tuple =>
    match ds, e with
    | [.lst ys], e =>
      simp only [biF] at e
      cases e
      obtain ⟨v, rfl, r1⟩ := reps1 rr
      cases r1 with
      | lst h1 q1 => exact go call_tuple_of ⟨_, _, rfl, .inl ⟨sq h1, fun l n => q.tup k q1 n⟩⟩
    | [.tup ys], e =>
      simp only [biF] at e
      cases e
      obtain ⟨v, rfl, r1⟩ := reps1 rr
      cases r1 with
      | tup h1 q1 => exact go call_tuple_of ⟨_, _, rfl, .inr ⟨hK ▸ k.sqT h1, q.here k (.tup h1 q1)⟩⟩
  case repr =>
    match ds, e with
    | [x], e =>
      simp only [biF] at e
      split at e
      · rename_i hr
        cases e
        obtain ⟨v, rfl, r1⟩ := reps1 rr
        obtain ⟨u, rfl, ru⟩ := vals1 rx
        simp only [repOk, Bool.and_eq_true, decide_eq_true_eq] at hr
        obtain ⟨hz, hd⟩ := hr
        split at hz
        · rename_i n hn
          simp only [decide_eq_true_eq] at hz
          obtain ⟨s1, s2, s3, s4⟩ := repSz_ok x n hn
          have fit : (D.py x).shown.length ≤ sizeLine := small16 (Nat.le_trans s2 hz)
          have out : ∀ {st : Shared} {H' : Hp} {tk : Tok}, L2.Inv X pins σ H st → EP X pins σ Q (.str (D.py x).shown tk) st → EP X pins σ Q (.str (D.py x).shown tk) st := fun _ z => z
          have fin : ∀ {st : Shared} {tk : Tok}, L2.Inv X pins σ H st → EP X pins σ Q (.str (D.py x).shown tk) st := fun J => ⟨.str (toStr (G.rep x)), H, J, ⟨_, by rw [hG]⟩, q.here k (.str _)⟩
          obtain ⟨as, ra⟩ := Dp.reads I _ _ _ (hK ▸ r1.dp k s3) ru
          have dd := D.py_dep x
          cases r1 with
          | non => cases ru; exact PySem.P.repr_of_none (fin (I.tok _))
          | bl b => cases ru; exact PySem.P.repr_of_bool (fin (I.tok _))
          | int i => obtain ⟨t, rfl⟩ := ru; simp only [D.py, PyData.showable, decide_eq_true_eq] at s1; exact PySem.P.repr_of_int s1 (fin (I.tok _))
          | str t => obtain ⟨t', rfl⟩ := ru; exact PySem.P.repr_of_str (fin (I.tok _)) (by simpa only [D.py, PyData.shown] using fit)
          | tup h1 q1 => cases ru; exact repr_of_reads' ra s1 (noDict_hsm' s4) hg (by omega) (fun _ _ z => z) (fun h' u tk hk => fin (I.kept hk)) fit
          | lst h1 q1 => cases ru; exact repr_of_reads' ra s1 (noDict_hsm' s4) hg (by omega) (fun _ _ z => z) (fun h' u tk hk => fin (I.kept hk)) fit
          | _ => simp [D.isData] at s3
        · cases hz
      · cases e
  case sorted =>
    match ds, e with
    | [.lst ys], e =>
      simp only [biF] at e
      obtain ⟨v, rfl, r1⟩ := reps1 rr
      cases r1 with
      | lst h1 q1 =>
        split at e
        · rename_i ns hns
          cases e
          obtain ⟨e1, _⟩ := q1.intsOf hns
          subst e1
          refine go cr_sortedI ⟨_, _, rfl, sq h1, fun ns' p hp hs n => ?_⟩
          rw [sorted_uniq hp hs]
          exact q.lst k (Reps.ints _) n
        · split at e
          · rename_i ps hps
            cases e
            have hq := pairsD_eq hps
            subst hq
            have inj : ∀ t xs ys, SqT C.K F t xs → SqT C.K F t ys → xs = ys := fun t xs ys a b => I.tuple_inj (hK ▸ k.sqT a) (hK ▸ k.sqT b)
            obtain ⟨-, h2⟩ := pairs_at inj q1
            refine go cr_sortedPT ⟨_, _, pairOfV C.K F, rfl, sq h1, fun x hx => ?_, fun zs p hs hb n => ?_⟩
            · obtain ⟨t, e1, e2⟩ := h2 x hx
              exact ⟨t, e1, hK ▸ k.sqT e2⟩
            · exact q.lst k (pairs_sorted inj q1 hs hb) n
          · cases e
  case divmod =>
    match ds, e with
    | [.int i, .int j], e =>
      simp only [biF] at e
      split at e
      · rename_i hj
        cases e
        obtain ⟨v, u, rfl, r1, r2⟩ := reps2 rr
        cases r1; cases r2
        exact go call_divmod ⟨i, j, rfl, ⟨hj.1, by omega⟩, fun p n => q.tup k (.cons (.int _) (.cons (.int _) .nil)) n⟩
      · cases e
  all_goals (simp [biF] at e)
where noDict_hsm' {d : PyData} {as : List Addr} (h : d.hasDict = false) : d.hasDict = true → sysModules ∉ as := PyData.noDict_hsm h
end Sv

set_option Elab.async false
set_option linter.all false
set_option maxRecDepth 100000
set_option maxHeartbeats 4000000
namespace Sv
open PySem L2
def bmS : BM → String
  | .split => "split" | .join => "join" | .append => "append" | .get => "get" | .upper => "upper" | .index => "index" | .keys => "keys" | .values => "values" | .items => "items" | .pop => "pop" | .extend => "extend" | .count => "count" | .replace => "replace"
def bmT : BM → String
  | .split => "str" | .join => "str" | .append => "list" | .index => "list" | _ => ""
def bmId : BM → String
  | .split => "str.split" | .join => "str.join" | .append => "list.append" | .index => "list.index" | _ => ""
def rBm (C : Cn) (m : BM) : V → List V → Hp → VK → Prop := fun v vs H Q => ∃ F ρ w o ds d w', WOk C F ρ w H ∧ Rep C F ρ o v ∧ Reps C F ρ ds vs ∧ bmF m o ds w = .ok d w' ∧ Aft C F ρ d w' Q
theorem bm_ty {C : Cn} {K : PySem.W.Frag} {F : Hp} {ρ : List Addr} {w : W} {H : Hp} {o : D} {v : V} {m : BM} (k : WOk C F ρ w H) (r : Rep C F ρ o v) (h : bmTy m o w = true) : tyV K (bmT m) v H := by
  cases m <;> cases r <;> (try (simp [bmTy] at h; done))
  case split.str => rfl
  case join.str => rfl
  case index.lst h1 _ => exact .inl ⟨rfl, _, .of (k.frz _ _ h1)⟩
  case append.cel i a h1 =>
    refine .inl ⟨rfl, ?_⟩
    cases hw : w[i]? with
    | none => simp [bmTy, hw] at h
    | some c =>
      cases c with
      | lst xs =>
        obtain ⟨_, o, ho, co⟩ := k.cel i a _ h1 hw (by simp)
        cases co with | lst qq => exact ⟨_, .of ho⟩
      | _ => simp [bmTy, hw] at h
theorem spl_cons (c : Nat) : ∀ (s : Tx) (acc : Tx), TL.spl [c] 0 acc s = (match splitC c s with | [] => [acc] | a :: r => (acc ++ a) :: r)
  | [], acc => by simp [TL.spl, splitC]
  | x :: r, acc => by
    unfold TL.spl splitC
    have hp : TL.pre [c] (x :: r) = decide (c = x) := by
      by_cases e : c = x
      · subst e; simp [TL.pre]
      · rw [decide_eq_false e]; simp [TL.pre]; exact fun z => e z.symm
    rw [hp]
    by_cases h : x = c
    · subst h
      have := spl_cons x r []
      simp only [decide_true, if_true]
      rw [show ([x] : List Nat).length - 1 = 0 from rfl, this]
      cases hs : splitC x r with
      | nil => exact absurd hs (splitC_ne x r)
      | cons a b => simp
    · rw [if_neg (by simpa using fun e => h e.symm), if_neg h, spl_cons c r (acc ++ [x])]
      cases hs : splitC c r with
      | nil => exact absurd hs (splitC_ne c r)
      | cons a b => simp
where splitC_ne (c : Nat) : ∀ s : Tx, splitC c s ≠ []
  | [] => by simp [splitC]
  | x :: r => by
    unfold splitC
    split
    · simp
    · split <;> simp
theorem split_eq {c : Nat} {s : Tx} (h : c < 256) : Txt.split (toStr s) (toStr [c]) = (splitC c s).map toStr := by
  have := SX.split_S (a := s) (b := [c]) (by simp) (by simp [h])
  rw [show toStr s = SX.S s from rfl, show toStr [c] = SX.S [c] from rfl, this, spl_cons]
  cases hs : splitC c s with
  | nil => exact absurd hs (spl_cons.splitC_ne c s)
  | cons a b => exact congrArg (List.map SX.S) (by simp)
theorem join_eq (sep : Tx) (ts : List Tx) : Txt.join (toStr sep) (ts.map toStr) = toStr (joinT sep ts) := by
  have := SX.join_S sep ts
  rw [show toStr sep = SX.S sep from rfl]
  have e : ts.map toStr = ts.map SX.S := rfl
  rw [e, this]
  have : ∀ l : List Tx, TL.joinL sep l = joinT sep l := by
    intro l
    induction l with
    | nil => rfl
    | cons a r ih =>
      cases r with
      | nil => rfl
      | cons b t => show a ++ (sep ++ TL.joinL sep (b :: t)) = a ++ sep ++ joinT sep (b :: t); rw [ih, List.append_assoc]
  rw [this]; rfl
section
open PySem.Spec PyProof.Rows SeqAt MeetsSeq MeetsSeq2 MeetsSeq3 SeqRoads2
open AutoSeq1 (wpAny_loadPart')
theorem list_indexFrom (l : Addr) (items : Array Value) (n : Nat) (dd : Option Addr) (sl : Array (Option Value)) (x : Value) (i : Nat) (t : Tok) (e : Value → Bool) (j : Nat) (hj : j < items.size) (hij : i ≤ j) (hsmall : (j : Int) < 2 ^ 63 - 1)
    (hit : e items[j] = true) (hno : ∀ m (hm : m < items.size), i ≤ m → m < j → e items[m] = false) :
    Meets (Builtin.«list.index» ⟨[.ref l, x, .int (i : Int) t], []⟩)
      (fun A R s => s.heap.get? l = some { cls := .type "list", dict := dd, data := .seq items n, slots := sl } ∧ (∀ y, y ∈ items → EqAt A.in1 s y x (e y)) ∧ R (.ok (.ret (.int j s.toks))) { s with toks := s.toks + 1 }) := by
  intro prog w A R s h
  obtain ⟨hp, g, d, tk, os⟩ := s; obtain ⟨hl, he, h⟩ := h
  wp_walk using wpAny_loadPart' hl
  have a1 : ((fun i : Int => if i < 0 then max 0 (i + (items.size : Int)) else i) ((some (i : Int)).getD 0)) = ((i : Nat) : Int) := by simp; omega
  have a2 : ((fun i : Int => if i < 0 then max 0 (i + (items.size : Int)) else i) ((none : Option Int).getD (2 ^ 63 - 1))) = 2 ^ 63 - 1 := by simp
  rw [a1, a2]
  exact ⟨plainId_quiet plain_index_loop _, codeAny_builtin entry_index_loop (by
    rw [Around.under_plainId plain_index_loop _]
    exact index_loopAt l items n dd sl x e (2 ^ 63 - 1) j hj hsmall hit _ i rfl hij (fun m hm h1 h2 => hno m hm h1 h2) prog w A R _ ⟨hl, he, h⟩)⟩
def rIndexF (K : PySem.W.Frag) : V → List V → Hp → VK → Prop := fun x xs H Q => ∃ (a : Addr) (ns : List Int) (y : Int) (i j : Nat), x = V.ref a ∧ (xs = [.int y] ∧ i = 0 ∨ xs = [.int y, .int (i : Int)]) ∧ SqL K H a (ns.map V.int) ∧ i ≤ j ∧ ns[j]? = some y ∧ (∀ m, i ≤ m → m < j → ns[m]? ≠ some y) ∧ Q (.int (j : Nat)) H
theorem mt_indexF {X : Cx} : MtR X "list.index" (rIndexF X.K) := by
  intro pins s σ H x xs v us Q I rx rxs h
  obtain ⟨a, ns, y, i, j, rfl, hxs, hs, hij, hz, hno, q⟩ := h
  cases rx
  obtain ⟨its, rv, ⟨⟨cls, dd, data, sl⟩, n, ho, hc, hdn, hd⟩, hlen⟩ := I.list hs
  simp only at hc hd
  subst hc hd
  have hz' : (ns.map V.int)[j]? = some (.int y) := by rw [List.getElem?_map, hz]; rfl
  have fys : (ns.map V.int).all flatV = true := by rw [List.all_map, List.all_eq_true]; intro z _; rfl
  obtain ⟨u, hu, ru⟩ := rv.get hz'
  obtain ⟨hjl, hje⟩ := List.getElem?_eq_some_iff.mp hu
  have hvl := rv.length
  have hj : j < its.toArray.size := by simpa using hjl
  have hsl := sizeLine_eq
  have hat : ∀ (m : Nat) (hm : m < its.toArray.size) (z : Int), ns[m]? = some z → eqU (.int y) its.toArray[m] = (z == y) := fun m hm z h => by
    have hy' : (ns.map V.int)[m]? = some (.int z) := by rw [List.getElem?_map, h]; rfl
    obtain ⟨u2, hu2, ru2⟩ := rv.get hy'
    obtain ⟨_, hme⟩ := List.getElem?_eq_some_iff.mp hu2
    have e1 : its.toArray[m] = u2 := by simpa using hme
    rw [e1, eqU_of ru2 rfl]; rfl
  have hhit : eqU (.int y) its.toArray[j] = true := by rw [hat j hj y hz]; simp
  have hmiss : ∀ m (hm : m < its.toArray.size), i ≤ m → m < j → eqU (.int y) its.toArray[m] = false := fun m hm h1 h2 => by
    have hmn : m < ns.length := by simp at hm hvl; omega
    rw [hat m hm ns[m] (List.getElem?_eq_getElem hmn)]
    have hne : ns[m] ≠ y := fun z => hno m h1 h2 (by rw [List.getElem?_eq_getElem hmn, z])
    simpa using hne
  have fin : ∀ t, EP X pins σ Q (.int (j : Int) t) { s with toks := s.toks + 1 } := fun t => ⟨.int (j : Nat), H, I.tok _, ⟨_, rfl⟩, q⟩
  rcases hxs with ⟨rfl, rfl⟩ | rfl
  · cases rxs with
    | cons ry rt =>
      rename_i uy ut
      cases rt
      exact call_meets PySem.F.slot_list_index ⟨_, ho, rfl⟩ PySem.F.entry_list_index (PySem.F.args_list_index_2 _ _)
        (SeqAt.list_indexAt a its.toArray n dd sl uy (eqU (.int y)) j hj (by omega) hhit fun m hm h => hmiss m hm (Nat.zero_le _) h) ⟨ho, fun u' hu' => mem_eqAt ry rfl rv fys u' (by simpa using hu'), fin _⟩
  · cases rxs with
    | cons ry rt =>
      rename_i uy ut
      cases rt with
      | cons rz rt =>
        rename_i uz ut
        cases rt
        obtain ⟨tz, rfl⟩ := rz
        exact call_meets PySem.F.slot_list_index ⟨_, ho, rfl⟩ PySem.F.entry_list_index (PySem.F.args_list_index_3 _ _ _)
          (list_indexFrom a its.toArray n dd sl uy i tz (eqU (.int y)) j hj hij (by omega) hhit hmiss) ⟨ho, fun u' hu' => mem_eqAt ry rfl rv fys u' (by simpa using hu'), fin _⟩
end
theorem idxI_ok {y : Int} : ∀ {l : List Int} {i k j : Nat}, idxI y l i k = some j → k ≤ j ∧ i ≤ j ∧ l[j - k]? = some y ∧ ∀ m, i ≤ m → k ≤ m → m < j → l[m - k]? ≠ some y
  | [], i, k, j, h => by simp [idxI] at h
  | x :: r, i, k, j, h => by
    unfold idxI at h
    split at h
    · rename_i hc
      cases h
      exact ⟨Nat.le_refl _, hc.1, by simp [hc.2], fun m h1 h2 h3 => by omega⟩
    · rename_i hc
      obtain ⟨h1, h2, h3, h4⟩ := idxI_ok h
      have e : j - k = (j - (k + 1)) + 1 := by omega
      refine ⟨by omega, h2, by rw [e]; simpa using h3, fun m m1 m2 m3 z => ?_⟩
      by_cases hm : m = k
      · subst hm
        rw [Nat.sub_self] at z
        simp at z
        exact hc ⟨m1, z⟩
      · have e2 : m - k = (m - (k + 1)) + 1 := by omega
        rw [e2] at z
        exact h4 m m1 (by omega) m3 (by simpa using z)
theorem mt_bm {X : Cx} {C : Cn} (hK : X.K = C.K) (m : BM) (hm : bmId m ≠ "") : MtR X (bmId m) (rBm C m) := by
  intro pins s σ H x xs v us Q I rx rxs h
  obtain ⟨F, ρ, w, o, ds, d, w', k, r1, rr, e, q⟩ := h
  have go : ∀ {id : String} {r : V → List V → Hp → VK → Prop}, MtR X id r → r x xs H Q → wpAny (model X.prog X.w) X.A (call (.builtin id) (v :: us)) (EP X pins σ Q) X.xe s := fun ho hr => ho pins s σ H x xs v us Q I rx rxs hr
  cases m
  case split =>
    match o, ds, e with
    | .str t, [.str [c]], e =>
      simp only [bmF] at e
      split at e
      · rename_i hl
        cases e
        cases r1
        obtain ⟨z, rfl, r2⟩ := reps1 rr
        cases r2
        refine go mt_split ⟨_, _, rfl, rfl, by rw [toStr_length]; rfl, by rw [toStr_length, sizeLine_eq]; omega, fun p n => ?_⟩
        rw [split_eq hl.2]
        exact q.lst k (Reps.strs _) n
      · cases e
  case join =>
    match o, ds, e with
    | .str t, [.lst ys], e =>
      simp only [bmF] at e
      split at e
      · rename_i ts hts
        split at e
        · rename_i hl
          cases e
          cases r1
          obtain ⟨z, rfl, r2⟩ := reps1 rr
          cases r2 with
          | lst h1 q1 =>
            obtain ⟨e1, _⟩ := q1.strsOf hts
            subst e1
            refine go mt_join ⟨_, _, ts.map toStr, rfl, rfl, .inl (.of (k.frz _ _ h1)), ?_, ?_⟩
            · have : (ts.map toStr).map (fun x => x.length) = ts.map List.length := by simp [toStr_length, Function.comp_def]
              rw [this, toStr_length, List.length_map]
              omega
            · rw [join_eq]; exact q.here k (.str _)
        · cases e
      · cases e
  case append =>
    match o, ds, e with
    | .cel i, [y], e =>
      simp only [bmF] at e
      split at e
      · rename_i ys hw
        split at e
        · rename_i hy
          simp only [Bool.and_eq_true, decide_eq_true_eq] at hy
          cases e
          obtain ⟨z, rfl, r2⟩ := reps1 rr
          cases r1 with
          | @cel _ a h1 =>
            obtain ⟨_, ob, ho, co⟩ := k.cel i a _ h1 hw (by simp)
            cases co with
            | lst qq =>
              refine (show MtR X "list.append" rAppend from mt_append) pins s σ H _ _ v us Q I rx rxs ⟨a, _, z, rfl, rfl, ho, by rw [← qq.length, sizeLine_eq]; omega, ?_⟩
              exact q F ρ _ _ .refl (k.set h1 hw (by simp) (.lst (qq.append (.cons (r2.noRef hy.1) .nil)))) .non
        · cases e
      · cases e
  case index =>
    match o, ds, e with
    | .lst ys, [.int y], e =>
      simp only [bmF] at e
      split at e
      · rename_i l hl
        split at e
        · rename_i j hj
          cases e
          cases r1 with
          | lst h1 q1 =>
            obtain ⟨z, rfl, r2⟩ := reps1 rr
            cases r2
            obtain ⟨-, h2, h3, h4⟩ := idxI_ok hj
            obtain ⟨e1, _⟩ := q1.intsOf hl
            subst e1
            refine go mt_indexF ⟨_, l, y, 0, j, rfl, .inl ⟨rfl, rfl⟩, hK ▸ .of (k.frz _ _ h1), h2, by simpa using h3, fun m m1 m2 => by simpa using h4 m m1 (Nat.zero_le _) m2, ?_⟩
            exact q.here k (.int _)
        · cases e
      · cases e
    | .lst ys, [.int y, .int i], e =>
      simp only [bmF] at e
      split at e
      · rename_i l hl
        split at e
        · rename_i hi
          split at e
          · rename_i j hj
            cases e
            cases r1 with
            | lst h1 q1 =>
              cases rr with
              | cons ra rr => cases rr with
                | cons rb rr =>
                  cases rr; cases ra; cases rb
                  obtain ⟨-, h2, h3, h4⟩ := idxI_ok hj
                  obtain ⟨e1, _⟩ := q1.intsOf hl
                  subst e1
                  refine go mt_indexF ⟨_, l, y, i.toNat, j, rfl, .inr (by rw [Int.toNat_of_nonneg hi]), hK ▸ .of (k.frz _ _ h1), h2, by simpa using h3, fun m m1 m2 => by simpa using h4 m m1 (Nat.zero_le _) m2, ?_⟩
                  exact q.here k (.int _)
          · cases e
        · cases e
      · cases e
  all_goals exact absurd rfl hm
end Sv

set_option Elab.async false
set_option linter.all false
set_option maxRecDepth 100000
set_option maxHeartbeats 4000000
namespace Sv
open PySem L2
structure KeyF (K : PySem.W.Frag) (f : Addr) : Prop where
  ex : ∃ (name qual : Str) (params : Arguments) (body : List Stmt) (scope : Scope) (fd : FuncData) (x : Str) (p1 p2 p3 p4 : Pos) (kd : Nat), FunD K name qual params body scope [] [] f fd ∧ body = [.Return (some (.Subscript (.Name x p1) (.Constant (.int 1) kd p2) p3)) p4] ∧
    scope.kind = .function ∧ scope.isCoroutine = false ∧ scope.isGenerator = false ∧ (∀ y ∈ scope.names, y.2 ≠ .cell) ∧ scope.names.lookup x = some .local ∧ (x == ("__debug__" : Str)) = false ∧ Binds K fd [x] []
structure Tb where
  G : Prog
  C : Cn
  P : Program
  w : World
  mg : Str → Option Value
  base : Heap
  /-- the module's names -/
  gt : List (Str × Nat)
  /-- names of built-ins that the module leaves free -/
  bl : List Str
  /-- how defs are called: the def, the number of positional arguments, the keywords' places -/
  sh : List (Nat × Nat × List Nat)
  /-- how methods are called, self among the arguments -/
  mh : List (Nat × Nat × List Nat)
  /-- a def's parameters -/
  ps : Nat → List Str
  /-- attributes that are asked of objects -/
  flds : List Nat
  /-- defs that are keys of a sort: return x[1] -/
  keys : List Nat := []
structure Ck where
  N : List Str
  S : Scope
  fn : Str → Bool
  calm : Bool
structure XOk (T : Tb) (k : Nat) (c : Ck) (Wd : WX) (X : Cx) : Prop where
  prog : X.prog = T.P
  w : X.w = T.w
  K : X.K = T.C.K
  mg : X.mg = T.mg
  base : X.base = T.base
  nms : X.N = c.N
  nd : c.N.Nodup
  sc : X.env.scope = c.S
  fn : X.fn = c.fn
  calm : X.calm = c.calm
  room : Room (2 * k + 1) X.A
  gd : X.A.guards = some []
  tk : Takes X Wd
  po : PassesOwn (model X.prog X.w) X.A X.env X.xe
section
variable {T : Tb} {k : Nat} {c : Ck} {Wd : WX} {X : Cx}
theorem XOk.units (h : XOk T k c Wd X) : X.A.units + 200 < cLine := by have := h.room.un; omega
end
def btS : BT → String
  | .int => "int" | .bool => "bool" | .str => "str" | .tuple => "tuple" | .list => "list" | .dict => "dict" | .valueError => "ValueError" | .lookupError => "LookupError" | .arithmeticError => "ArithmeticError"
def CallV (T : Tb) (k : Nat) (g : Nat) (f : Addr) (n : Nat) (kws : List Nat) : Prop :=
  ∀ (A : Around) (outer : List PySem.Env) (s : Shared) (H : Hp) (us ws : List Value) (vs zs : List V) (Q : VK) (E : XK), Room (2 * k) A → A.guards = some [] → Env0 T.P T.w T.C.K T.mg T.base A outer s H → Vals vs us → Vals zs ws → us.length = n → ws.length = kws.length →
    (∃ F ρ w ds es, WOk T.C F ρ w H ∧ Reps T.C F ρ ds vs ∧ Reps T.C F ρ es zs ∧ Res T.C (Rep T.C) (fun cl dd _ H => E cl dd H) F ρ (callF T.G (run T.G k) g ds kws es w) [] Q) →
    codeAny (model T.P T.w) A (.call (.ref f) ⟨us, (kws.map fun i => (T.ps g).getD i Str.empty).zip ws⟩) (CR (L2.CX T.P T.w) outer T.P T.w H s Q E) s
structure ClsOk (T : Tb) (k : Nat) (q : Cls) (A : Addr) : Prop where
  cls : L2.Cls T.C.K A
  noat : ∀ f, f ∈ T.flds → q.props.lookup f = none → q.meths.lookup f = none → NoAttr T.C.K A (T.C.nm f)
  prop : ∀ f g, q.props.lookup f = some g → ∃ p ga, PropOf T.C.K A (T.C.nm f) p ga ∧ CallV T k g ga 1 []
  meth : ∀ m g n kws, q.meths.lookup m = some g → (g, n, kws) ∈ T.mh → ∃ ga, L2.Meth T.C.K A (T.C.nm m) ga ∧ CallV T k g ga n kws
  make : ∀ g n kws, q.init = some g → (g, n, kws) ∈ T.mh → ∃ ga, Mk T.C.K A ga ∧ CallV T k g ga n kws
def Tb.tv (T : Tb) : Sum BT Nat → Value
  | .inl b => .type (btS b) | .inr g => (match T.C.cA g with | some a => .ref a | none => .none)
structure TbOk (T : Tb) (k : Nat) : Prop where
  cn : CnOk T.C
  grep : GRep T.G
  nmI : ∀ f g, T.C.nm f = T.C.nm g → f = g
  cst : ∀ x g d, T.gt.lookup x = some g → T.G.cst g = some d → ∃ u v, T.mg x = some u ∧ RelV v u ∧ ∀ F ρ, Rep T.C F ρ d v
  fnv : ∀ x g, T.gt.lookup x = some g → T.G.cst g = none → ((T.G.fn g).isSome || (T.G.cls g).isSome) = true → ∃ a, T.mg x = some (.ref a) ∧ T.C.gv g = some (.ref a)
  free : ∀ x, x ∈ T.bl → T.mg x = none
  call : ∀ x g n kws, T.gt.lookup x = some g → (g, n, kws) ∈ T.sh → ∃ f, T.mg x = some (.ref f) ∧ PySem.W.keepIn T.C.K (.ref f) = true ∧ CallV T k g f n kws
  cls : ∀ c q, T.G.cls c = some q → ∃ A, T.C.cA c = some A ∧ (∀ x, T.gt.lookup x = some c → T.mg x = some (.ref A)) ∧ ClsOk T k q A
  key : ∀ x g, T.gt.lookup x = some g → g ∈ T.keys → ∃ f, T.mg x = some (.ref f) ∧ KeyF T.C.K f
  isi : ∀ d ts b F ρ w H v, WOk T.C F ρ w H → Rep T.C F ρ d v → ts ≠ [] → isTs T.G d ts = some b → ∃ t, TyX T.C.K H v t ∧ PySem.W.kitAny T.C.K t (ts.map T.tv) = some b
theorem CallV.run {T : Tb} {k : Nat} {c : Ck} {Wd : WX} {X : Cx} {g : Nat} {f : Addr} {n : Nat} {kws : List Nat} (h : CallV T k g f n kws) (hx : XOk T k c Wd X)
    {pins : List (Addr × Obj)} {σ : St} {H : Hp} {s : Shared} {us ws : List Value} {vs zs : List V} {Q : VK} (I : L2.Inv X pins σ H s) (r : Vals vs us) (rz : Vals zs ws) (l1 : us.length = n) (l2 : ws.length = kws.length)
    (hq : ∃ F ρ w ds es, WOk T.C F ρ w H ∧ Reps T.C F ρ ds vs ∧ Reps T.C F ρ es zs ∧ Res T.C (Rep T.C) Wd F ρ (callF T.G (Sv.run T.G k) g ds kws es w) σ Q) :
    wpAny (model X.prog X.w) X.A (PySem.call (.ref f) us ((kws.map fun i => (T.ps g).getD i Str.empty).zip ws)) (EP X pins σ Q) X.xe s := by
  obtain ⟨F, ρ, w, ds, es, k0, q1, q2, hr⟩ := hq
  have e0 : Env0 T.P T.w T.C.K T.mg T.base X.A X.stack s H := by
    have := I.env0
    rw [hx.prog, hx.w, hx.K, hx.mg, hx.base] at this
    exact this
  have hh : Res T.C (Rep T.C) (fun cl dd _ H => L2.WE Wd σ cl dd H) F ρ (callF T.G (Sv.run T.G k) g ds kws es w) [] Q := by
    cases hc : callF T.G (Sv.run T.G k) g ds kws es w with
    | ok d w' => rw [hc] at hr; exact hr
    | exc e w' => rw [hc] at hr; exact hr
    | bad => rw [hc] at hr; exact hr
  have run := h X.A X.stack s H us ws vs zs Q (L2.WE Wd σ) (hx.room.mono (by omega)) hx.gd e0 r rz l1 l2 ⟨F, ρ, w, ds, es, k0, q1, q2, hh⟩
  have hp : model X.prog X.w = model T.P T.w := by rw [hx.prog, hx.w]
  refine wpAny_call (hp ▸ codeAny_mono run fun r s' hq => ?_)
  cases r with
  | error e =>
    refine passAt hx.tk σ pins H s e s' I ?_
    rw [hx.prog, hx.w]; exact hq
  | ok fl =>
    cases fl with
    | ret u => exact I.after (by rw [hx.prog, hx.w]; exact hq)
    | next => exact hq.elim
    | brk => exact hq.elim
    | cont => exact hq.elim
end Sv

set_option Elab.async false
set_option linter.all false
set_option maxRecDepth 100000
set_option maxHeartbeats 4000000
namespace Sv
open PySem L2
def vName : Expr → Option Str | .Name x _ => some x | _ => none
theorem vName_eq {e : Expr} {x : Str} (h : vName e = some x) : ∃ p, e = .Name x p := by cases e <;> simp [vName] at h; subst h; exact ⟨_, rfl⟩
def vConst : Expr → Option Const | .Constant c _ _ => some c | _ => none
theorem vConst_eq {e : Expr} {x : Const} (h : vConst e = some x) : ∃ j p, e = .Constant x j p := by cases e <;> simp [vConst] at h; subst h; exact ⟨_, _, rfl⟩
def vBin : Expr → Option (Expr × Operator × Expr) | .BinOp a o b _ => some (a, o, b) | _ => none
theorem vBin_eq {e a b : Expr} {o : Operator} (h : vBin e = some (a, o, b)) : ∃ p, e = .BinOp a o b p := by cases e <;> simp [vBin] at h; obtain ⟨rfl, rfl, rfl⟩ := h; exact ⟨_, rfl⟩
def vUn : Expr → Option (UnaryOp × Expr) | .UnaryOp o a _ => some (o, a) | _ => none
theorem vUn_eq {e a : Expr} {o : UnaryOp} (h : vUn e = some (o, a)) : ∃ p, e = .UnaryOp o a p := by cases e <;> simp [vUn] at h; obtain ⟨rfl, rfl⟩ := h; exact ⟨_, rfl⟩
def vBool : Expr → Option (BoolOp × List Expr × Pos) | .BoolOp o a p => some (o, a, p) | _ => none
theorem vBool_eq {e : Expr} {o : BoolOp} {a : List Expr} {p : Pos} (h : vBool e = some (o, a, p)) : e = .BoolOp o a p := by cases e <;> simp [vBool] at h; obtain ⟨rfl, rfl, rfl⟩ := h; rfl
def vCmp : Expr → Option (Expr × List CmpOp × List Expr) | .Compare a o b _ => some (a, o, b) | _ => none
theorem vCmp_eq {e a : Expr} {o : List CmpOp} {b : List Expr} (h : vCmp e = some (a, o, b)) : ∃ p, e = .Compare a o b p := by cases e <;> simp [vCmp] at h; obtain ⟨rfl, rfl, rfl⟩ := h; exact ⟨_, rfl⟩
def vIf : Expr → Option (Expr × Expr × Expr) | .IfExp c a b _ => some (c, a, b) | _ => none
theorem vIf_eq {e a b c : Expr} (h : vIf e = some (c, a, b)) : ∃ p, e = .IfExp c a b p := by cases e <;> simp [vIf] at h; obtain ⟨rfl, rfl, rfl⟩ := h; exact ⟨_, rfl⟩
def vTup : Expr → Option (List Expr) | .Tuple a _ _ => some a | _ => none
theorem vTup_eq {e : Expr} {a : List Expr} (h : vTup e = some a) : ∃ k p, e = .Tuple a k p := by cases e <;> simp [vTup] at h; obtain rfl := h; exact ⟨_, _, rfl⟩
def vLst : Expr → Option (List Expr) | .List a _ => some a | _ => none
theorem vLst_eq {e : Expr} {a : List Expr} (h : vLst e = some a) : ∃ p, e = .List a p := by cases e <;> simp [vLst] at h; obtain rfl := h; exact ⟨_, rfl⟩
def isSlice : Expr → Bool | .Slice _ _ _ _ => true | _ => false
def isStar : Expr → Bool | .Starred _ _ => true | _ => false
def isComp : Expr → Bool | .ListComp _ _ _ _ => true | .SetComp _ _ _ _ => true | .DictComp _ _ _ _ _ => true | _ => false
def vSub : Expr → Option (Expr × Expr) | .Subscript a b _ => some (a, b) | _ => none
theorem vSub_eq {e a b : Expr} (h : vSub e = some (a, b)) : ∃ p, e = .Subscript a b p := by cases e <;> simp [vSub] at h; obtain ⟨rfl, rfl⟩ := h; exact ⟨_, rfl⟩
def vSlc : Expr → Option (Option Expr × Option Expr) | .Slice a b none _ => some (a, b) | _ => none
theorem vSlc_eq {e : Expr} {a b : Option Expr} (h : vSlc e = some (a, b)) : ∃ p, e = .Slice a b none p := by
  cases e <;> simp [vSlc] at h
  rename_i c d
  cases c <;> simp [vSlc] at h
  obtain ⟨rfl, rfl⟩ := h; exact ⟨_, rfl⟩
def vAtt : Expr → Option (Expr × Str) | .Attribute a f _ => some (a, f) | _ => none
theorem vAtt_eq {e a : Expr} {f : Str} (h : vAtt e = some (a, f)) : ∃ p, e = .Attribute a f p := by cases e <;> simp [vAtt] at h; obtain ⟨rfl, rfl⟩ := h; exact ⟨_, rfl⟩
def vCall : Expr → Option (Expr × List Expr × List Keyword × Pos) | .Call f a k p => some (f, a, k, p) | _ => none
theorem vCall_eq {e f : Expr} {a : List Expr} {k : List Keyword} {p : Pos} (h : vCall e = some (f, a, k, p)) : e = .Call f a k p := by cases e <;> simp [vCall] at h; obtain ⟨rfl, rfl, rfl, rfl⟩ := h; rfl
def vJoin : Expr → Option (List Expr) | .JoinedStr a _ => some a | _ => none
theorem vJoin_eq {e : Expr} {a : List Expr} (h : vJoin e = some a) : ∃ p, e = .JoinedStr a p := by cases e <;> simp [vJoin] at h; obtain rfl := h; exact ⟨_, rfl⟩
def vFmt : Expr → Option Expr | .FormattedValue a (-1) none _ => some a | _ => none
theorem vFmt_eq {e a : Expr} (h : vFmt e = some a) : ∃ p, e = .FormattedValue a (-1) none p := by
  cases e <;> try (simp [vFmt] at h; done)
  rename_i v c f p
  unfold vFmt at h
  split at h
  · rename_i h1
    cases h1
    cases h
    exact ⟨_, rfl⟩
  · cases h
def vDict : Expr → Option (List (Option Expr) × List Expr × Pos) | .Dict a b p => some (a, b, p) | _ => none
theorem vDict_eq {e : Expr} {a : List (Option Expr)} {b : List Expr} {p : Pos} (h : vDict e = some (a, b, p)) : e = .Dict a b p := by cases e <;> simp [vDict] at h; obtain ⟨rfl, rfl, rfl⟩ := h; rfl
def vLc : Expr → Option (Expr × List Comprehension × Scope × Pos) | .ListComp a b s p => some (a, b, s, p) | _ => none
theorem vLc_eq {e a : Expr} {b : List Comprehension} {s : Scope} {p : Pos} (h : vLc e = some (a, b, s, p)) : e = .ListComp a b s p := by cases e <;> simp [vLc] at h; obtain ⟨rfl, rfl, rfl, rfl⟩ := h; rfl
def vDc : Expr → Option (Expr × Expr × List Comprehension × Scope × Pos) | .DictComp k a b s p => some (k, a, b, s, p) | _ => none
theorem vDc_eq {e k a : Expr} {b : List Comprehension} {s : Scope} {p : Pos} (h : vDc e = some (k, a, b, s, p)) : e = .DictComp k a b s p := by cases e <;> simp [vDc] at h; obtain ⟨rfl, rfl, rfl, rfl, rfl⟩ := h; rfl
theorem star1 {e : Expr} {es : List Expr} {env : PySem.Env} (h : isStar e = false) : starEach (e :: es) env = (false, eval e env) :: starEach es env := by
  cases e <;> first | rfl | (simp [isStar] at h)
theorem starAny {es : List Expr} {env : PySem.Env} {pos : Pos} (h : es.all (fun e => !isStar e) = true) : (backTo pos (starEach es env)).any (·.1) = false := by
  induction es with
  | nil => rfl
  | cons e r ih =>
    simp only [List.all_cons, Bool.and_eq_true, Bool.not_eq_true'] at h
    rw [star1 h.1]
    show (false || (backTo pos (starEach r env)).any (·.1)) = false
    rw [ih h.2]; rfl
theorem plainIx {b : Expr} (h : isSlice b = false) : PlainIx b := by
  intro o i
  cases b <;> first | rfl | (simp [isSlice] at h)
theorem sw_none {e : Expr} {t : Option Expr} {l : Nat} {env : PySem.Env} (h : isComp e = false) : swapsWith e t l env = pure false := by
  cases e <;> first | rfl | (simp [isComp] at h)
def notSuper : Expr → Bool
  | .Call (.Name id _) [] [] _ => id != ("super" : Str)
  | _ => true
theorem attBase {e : Expr} {f : Str} {env : PySem.Env} {w : Sem Value} (h : notSuper e = true) : attributeBase e f env w = w := by
  unfold attributeBase
  split
  · rename_i id p pos
    simp only [notSuper] at h
    simp only [h, Bool.true_or, if_true]
  · rfl
def isVis (S : Scope) (x : Str) : Bool := match S.names.lookup x with
  | some .local => true | some .cell => true | some .free => true | _ => false
def okName (x : Str) : Bool := !(x == ("__debug__" : Str)) && !(x == ("__classdict__" : Str)) && !(x == ("__name__" : Str))
theorem okName_eq {x : Str} (h : okName x = true) : (x == ("__debug__" : Str)) = false ∧ (x == ("__classdict__" : Str)) = false ∧ x ≠ "__name__" := by
  simp only [okName, Bool.and_eq_true, Bool.not_eq_true'] at h
  exact ⟨h.1.1, h.1.2, fun e => by have := h.2; rw [e] at this; simp at this⟩
def isGl (S : Scope) (x : Str) : Bool := match S.names.lookup x with
  | some .globalImplicit => true | _ => false
section
variable {T : Tb} {k : Nat} {c : Ck} {Wd : WX} {X : Cx}
theorem XOk.vis (h : XOk T k c Wd X) {x : Str} (v : isVis c.S x = true) : Vis X.env.scope x := by
  unfold isVis at v
  unfold Vis
  rw [h.sc]
  split at v <;> first | (rename_i e; exact .inl e) | (rename_i e; exact .inr (.inl e)) | (rename_i e; exact .inr (.inr e)) | cases v
theorem XOk.gl (h : XOk T k c Wd X) {x : Str} (v : isGl c.S x = true) : Gl X x := by
  unfold isGl at v
  show X.env.scope.names.lookup x = _
  rw [h.sc]
  split at v
  · assumption
  · cases v
end
section
variable {C : Cn} {Wd : WX} {γ δ : Type}
theorem TG'.two {RR : Hp → List Addr → γ → δ → Prop} {f g : Env → W → R D} {h : D → D → Env → W → R γ} {σ : St} {H : Hp} {Q : δ → Hp → Prop}
    (q : TG' C RR Wd (fun env w => (f env w).bind fun x w => (g env w).bind fun y w => h x y env w) σ H Q) :
    TE' C Wd f σ H fun v1 H1 => TE' C Wd g σ H1 fun v2 H2 => ∃ F ρ env w x y, WOk C F ρ w H2 ∧ EnvOk C F ρ env σ ∧ Rep C F ρ x v1 ∧ Rep C F ρ y v2 ∧ Res C RR Wd F ρ (h x y env w) σ Q := by
  obtain ⟨F, ρ, env, w, k, en, r⟩ := q
  refine ⟨F, ρ, env, w, k, en, (Res.bind (RR := Rep C) r).mono ?_⟩
  rintro v1 H1 ⟨F1, r1, a, w1, e1, k1, ra, q1⟩
  refine ⟨F1, r1, env, w1, k1, en.up e1, (Res.bind (RR := Rep C) q1).mono ?_⟩
  rintro v2 H2 ⟨F2, r2, b, w2, e2, k2, rb, q2⟩
  exact ⟨F2, r2, env, w2, a, b, k2, (en.up e1).up e2, e2.rep ra, rb, q2⟩
theorem TG'.one {α β : Type} {RA : Hp → List Addr → α → β → Prop} {RR : Hp → List Addr → γ → δ → Prop} {f : Env → W → R α} {h : α → Env → W → R γ} {σ : St} {H : Hp} {Q : δ → Hp → Prop}
    (q : TG' C RR Wd (fun env w => (f env w).bind fun x w => h x env w) σ H Q) :
    TG' C RA Wd f σ H fun v1 H1 => ∃ F ρ env w x, WOk C F ρ w H1 ∧ EnvOk C F ρ env σ ∧ RA F ρ x v1 ∧ Res C RR Wd F ρ (h x env w) σ Q := by
  obtain ⟨F, ρ, env, w, k, en, r⟩ := q
  refine ⟨F, ρ, env, w, k, en, (Res.bind (RR := RA) r).mono ?_⟩
  rintro v1 H1 ⟨F1, r1, a, w1, e1, k1, ra, q1⟩
  exact ⟨F1, r1, env, w1, a, k1, en.up e1, ra, q1⟩
theorem Res.aft {F : Hp} {ρ : List Addr} {d : D} {w : W} {σ : St} {Q : VK} (h : Res C (Rep C) Wd F ρ (.ok d w) σ Q) : Aft C F ρ d w Q := h
end
end Sv

set_option Elab.async false
set_option linter.all false
set_option maxRecDepth 100000
set_option maxHeartbeats 4000000
namespace Sv
open PySem L2
section
variable {C : Cn} {F : Hp} {ρ : List Addr} {w : W} {H : Hp}
theorem RepF.look (hI : ∀ f g, C.nm f = C.nm g → f = g) : ∀ {fs : List (Nat × D)} {es : List (Str × V)} {f : Nat}, RepF C F ρ fs es →
    (∀ d, fs.lookup f = some d → ∃ v, es.lookup (C.nm f) = some v ∧ Rep C F ρ d v) ∧ (fs.lookup f = none → es.lookup (C.nm f) = none)
  | _, _, f, .nil => ⟨fun d h => by simp at h, fun _ => rfl⟩
  | _, _, f, .cons (f := g) (d := d0) (v := v0) r q => by
    have ih := RepF.look hI (f := f) q
    by_cases e : f = g
    · subst e
      refine ⟨fun d h => ?_, fun h => ?_⟩
      · simp only [List.lookup_cons, beq_self_eq_true] at h
        cases h
        exact ⟨v0, by simp [List.lookup_cons], r⟩
      · simp [List.lookup_cons] at h
    · have e1 : (f == g) = false := by simpa using e
      have e2 : (C.nm f == C.nm g) = false := by
        simpa using fun z => e (hI _ _ z)
      simp only [List.lookup_cons, e1, e2]
      exact ih
theorem WOk.view_obj (k : WOk C F ρ w H) {d : D} {v : V} (r : Rep C F ρ d v) {c : Nat} {fs : List (Nat × D)} (h : view w d = some (.obj c fs)) :
    ∃ A a dx es, C.cA c = some A ∧ v = .ref a ∧ H a = some (.ins A dx es) ∧ RepF C F ρ fs es := by
  cases r with
  | obj hc hf q =>
    simp only [view] at h
    cases h
    exact ⟨_, _, _, _, hc, rfl, k.frz _ _ hf, q⟩
  | @cel i a hi =>
    simp only [view] at h
    split at h <;> first | (cases h; done) | skip
    rename_i c' fs' hw
    cases h
    obtain ⟨_, o, ho, q⟩ := k.cel i a _ hi hw (by intro z; cases z)
    cases q with
    | ins hc q => exact ⟨_, _, _, _, hc, rfl, ho, q.up (fun _ _ h => h) (fun j b z => by simp at z)⟩
  | _ => simp [view] at h
end
section
variable {T : Tb} {k : Nat} {c : Ck} {Wd : WX} {X : Cx}
theorem r_var {i : Nat} {x : Str} {p : Pos} {cl : CallT} (hx : XOk T k c Wd X) (hN : c.N[i]? = some x) (hv : isVis c.S x = true) (ho : okName x = true) : PE X (.Name x p) (TE' T.C Wd (ev T.G cl (.loc i))) := by
  refine PE.imp (pe_var (i := i) (by rw [hx.nms]; exact hN) (hx.vis hv) (okName_eq ho).1 (okName_eq ho).2.1) fun σ H Q q => ?_
  obtain ⟨F, ρ, env, w, k0, en, r⟩ := q
  simp only [ev] at r
  obtain ⟨d, e, r⟩ := r.lift
  have e2 : env[i]? = some (some d) := by
    unfold locF at e
    split at e
    · rename_i d' h; rw [h]; cases e; rfl
    · cases e
  obtain ⟨v, h1, h2⟩ := en.at_ i d e2
  exact ⟨v, h1, r.here k0 h2⟩
theorem r_const {X : Cx} {e : Expr} {v : V} {d : D} {cl : CallT} {G : Prog} {C : Cn} {ee : E} (h : PE X e (tC v)) (he : ∀ env w, ev G cl ee env w = .ok d w) (hr : ∀ F ρ, Rep C F ρ d v) : PE X e (TE' C Wd (ev G cl ee)) := by
  refine PE.imp h fun σ H Q q => ?_
  obtain ⟨F, ρ, env, w, k0, en, r⟩ := q
  rw [he] at r
  exact r.here k0 (hr _ _)
theorem r_glob {g : Nat} {x : Str} {p : Pos} {cl : CallT} (hx : XOk T k c Wd X) (tb : TbOk T k) (hl : T.gt.lookup x = some g) (hg : isGl c.S x = true) (ho : okName x = true) : PE X (.Name x p) (TE' T.C Wd (ev T.G cl (.glob g))) := by
  have gl := hx.gl hg
  cases hc : T.G.cst g with
  | some d =>
    obtain ⟨u, v, hm, rv, rep⟩ := tb.cst x g d hl hc
    exact r_const (pe_glob gl (by rw [hx.mg]; exact hm) rv (okName_eq ho).1) (fun env w => by simp [ev, globF, hc, R.lift]) rep
  | none =>
    cases hf : ((T.G.fn g).isSome || (T.G.cls g).isSome) with
    | true =>
      obtain ⟨a, hm, hv⟩ := tb.fnv x g hl hc hf
      exact r_const (d := .glo g) (pe_glob gl (by rw [hx.mg]; exact hm) (show RelV (.ref a) (.ref a) from rfl) (okName_eq ho).1) (fun env w => by simp [ev, globF, hc, R.lift, hf]) fun F ρ => .glo hv
    | false =>
      refine ⟨fun pins s σ H Q I q => ?_⟩
      obtain ⟨F, ρ, env, w, k0, en, r⟩ := q
      simp only [ev] at r
      obtain ⟨d, e, _⟩ := r.lift
      simp [globF, hc, hf] at e
theorem pe_bad {X : Cx} {e : Expr} {C : Cn} {G : Prog} {cl : CallT} : PE X e (TE' C Wd (ev G cl .bad)) := ⟨fun _ _ _ _ _ _ q => by
  obtain ⟨F, ρ, env, w, k0, en, r⟩ := q
  exact r.elim⟩
theorem r_bin {a b : Expr} {ea eb : E} {o : BOp} {p : Pos} {cl : CallT} (ha : PE X a (TE' T.C Wd (ev T.G cl ea))) (hb : PE X b (TE' T.C Wd (ev T.G cl eb))) : PE X (.BinOp a (opPy o) b p) (TE' T.C Wd (ev T.G cl (.bin o ea eb))) := by
  refine PE.imp (pe_op (op_bin (C := T.C) o) ha hb) fun σ H Q q => ?_
  simp only [ev] at q
  have q := TG'.two (h := fun x y env w => R.lift (binop o x y) w) q
  obtain ⟨F, ρ, env, w, k0, en, r⟩ := q
  refine ⟨F, ρ, env, w, k0, en, r.mono fun v1 H1 q1 => ?_⟩
  obtain ⟨F, ρ, env, w, k0, en, r⟩ := q1
  refine ⟨F, ρ, env, w, k0, en, r.mono fun v2 H2 q2 => ?_⟩
  obtain ⟨F, ρ, env, w, x, y, k0, en, rx, ry, r⟩ := q2
  obtain ⟨d, e, r⟩ := r.lift
  exact ⟨F, ρ, w, x, y, d, k0, rx, ry, e, r.aft⟩
theorem r_neg {a : Expr} {ea : E} {p : Pos} {cl : CallT} (ha : PE X a (TE' T.C Wd (ev T.G cl ea))) : PE X (.UnaryOp .USub a p) (TE' T.C Wd (ev T.G cl (.neg ea))) := by
  refine PE.imp (pe_un un_neg ha) fun σ H Q q => ?_
  simp only [ev] at q
  obtain ⟨F, ρ, env, w, k0, en, r⟩ := TG'.one (RA := Rep T.C) (h := fun x env w => match x with | .int i => (.ok (.int (-i)) w : R D) | _ => .bad) q
  refine ⟨F, ρ, env, w, k0, en, r.mono fun v1 H1 q1 => ?_⟩
  obtain ⟨F, ρ, env, w, x, k0, en, rx, r⟩ := q1
  split at r
  · cases rx
    exact ⟨_, rfl, r.here k0 (.int _)⟩
  · exact r.elim
theorem r_truth {a : Expr} {ea : E} {cl : CallT} (hK : X.K = T.C.K) (ha : PE X a (TE' T.C Wd (ev T.G cl ea))) (he : ∀ whole, PySem.isTrue a X.env whole = (do let v ← whole; standAt a.pos; holding [v] (truthy v))) : PT X a (TT' T.C Wd (evT T.G cl ea)) := by
  refine PT.imp (pt_truth ha he) fun σ H Q q => ?_
  obtain ⟨F, ρ, env, w, k0, en, r⟩ := TG'.one (RA := Rep T.C) (h := fun x env w => R.lift x.truth w) q
  refine ⟨F, ρ, env, w, k0, en, r.mono fun v1 H1 q1 => ?_⟩
  obtain ⟨F, ρ, env, w, x, k0, en, rx, r⟩ := q1
  obtain ⟨b, e, r⟩ := r.lift
  exact ⟨b, hK ▸ tru_rep k0 rx e, r.here k0 rfl⟩
theorem evT_not (G : Prog) (cl : CallT) (a : E) (env : Env) (w : W) : evT G cl (.not a) env w = (evT G cl a env w).bind fun b w => .ok (!b) w := by
  simp only [evT, ev]
  cases ev G cl a env w with
  | ok x w1 =>
    simp only [R.bind]
    cases x.truth <;> simp [R.lift, D.truth]
  | exc => rfl
  | bad => rfl
theorem r_not {a : Expr} {ea : E} {p : Pos} {cl : CallT} (ha : PT X a (TT' T.C Wd (evT T.G cl ea))) : PT X (.UnaryOp .Not a p) (TT' T.C Wd (evT T.G cl (.not ea))) := by
  refine PT.imp (pt_not ha) fun σ H Q q => ?_
  obtain ⟨F, ρ, env, w, k0, en, r⟩ := q
  rw [evT_not] at r
  refine ⟨F, ρ, env, w, k0, en, (Res.bind (RR := fun _ _ a b => a = b) r).mono ?_⟩
  rintro b H1 ⟨F1, r1, b', w1, e1, k1, rfl, q1⟩
  exact q1.here k1 rfl
theorem r_notE {a : Expr} {ea : E} {p : Pos} {cl : CallT} (hK : X.K = T.C.K) (ha : PE X a (TE' T.C Wd (ev T.G cl ea))) : PE X (.UnaryOp .Not a p) (TE' T.C Wd (ev T.G cl (.not ea))) := by
  refine PE.imp (pe_notT ha) fun σ H Q q => ?_
  simp only [ev] at q
  obtain ⟨F, ρ, env, w, k0, en, r⟩ := TG'.one (RA := Rep T.C) (h := fun x env w => (R.lift x.truth w).bind fun b w => (.ok (.bl (!b)) w : R D)) q
  refine ⟨F, ρ, env, w, k0, en, r.mono fun v1 H1 q1 => ?_⟩
  obtain ⟨F, ρ, env, w, x, k0, en, rx, r⟩ := q1
  cases e : x.truth with
  | none => rw [e] at r; exact r.elim
  | some b =>
    rw [e] at r
    exact ⟨b, hK ▸ tru_rep k0 rx e, Res.here (C := T.C) (RR := Rep T.C) r k0 (.bl _)⟩
theorem evT_and (G : Prog) (cl : CallT) (a b : E) (env : Env) (w : W) : evT G cl (.and a b) env w = (evT G cl a env w).bind fun t w => if t = true then evT G cl b env w else .ok false w := by
  simp only [evT, ev]
  cases ev G cl a env w with
  | ok x w1 =>
    simp only [R.bind]
    cases h : x.truth with
    | none => rfl
    | some t => cases t <;> simp [R.lift, h]
  | exc => rfl
  | bad => rfl
theorem evT_or (G : Prog) (cl : CallT) (a b : E) (env : Env) (w : W) : evT G cl (.or a b) env w = (evT G cl a env w).bind fun t w => if t = true then .ok true w else evT G cl b env w := by
  simp only [evT, ev]
  cases ev G cl a env w with
  | ok x w1 =>
    simp only [R.bind]
    cases h : x.truth with
    | none => rfl
    | some t => cases t <;> simp [R.lift, h]
  | exc => rfl
  | bad => rfl
theorem evT_ite (G : Prog) (cl : CallT) (c a b : E) (env : Env) (w : W) : evT G cl (.ite c a b) env w = (evT G cl c env w).bind fun t w => if t = true then evT G cl a env w else evT G cl b env w := by
  simp only [evT, ev]
  cases ev G cl c env w with
  | ok x w1 =>
    simp only [R.bind]
    cases h : x.truth with
    | none => rfl
    | some t => cases t <;> simp [R.lift]
  | exc => rfl
  | bad => rfl
theorem ev_and' (G : Prog) (cl : CallT) (a b : E) : ev G cl (.and a b) = fun env w => (ev G cl a env w).bind fun x w => (fun x env w => (R.lift x.truth w).bind fun t w => if t then ev G cl b env w else .ok x w) x env w := by
  funext env w; simp only [ev]
theorem ev_or' (G : Prog) (cl : CallT) (a b : E) : ev G cl (.or a b) = fun env w => (ev G cl a env w).bind fun x w => (fun x env w => (R.lift x.truth w).bind fun t w => if t then .ok x w else ev G cl b env w) x env w := by
  funext env w; simp only [ev]
theorem r_and {a b : Expr} {rest : List Expr} {ea eb : E} {p : Pos} {cl : CallT} (hK : X.K = T.C.K) (ha : PE X a (TE' T.C Wd (ev T.G cl ea))) (hb : PE X (.BoolOp .And (b :: rest) p) (TE' T.C Wd (ev T.G cl eb))) :
    PE X (.BoolOp .And (a :: b :: rest) p) (TE' T.C Wd (ev T.G cl (.and ea eb))) := by
  refine PE.imp (pe_andT ha hb) fun σ H Q q => ?_
  rw [ev_and'] at q
  obtain ⟨F, ρ, env, w, k0, en, r⟩ := TG'.one (RA := Rep T.C) q
  refine ⟨F, ρ, env, w, k0, en, r.mono fun v1 H1 q1 => ?_⟩
  obtain ⟨F, ρ, env, w, x, k0, en, rx, r⟩ := q1
  cases e : x.truth with
  | none => simp only [e] at r; exact r.elim
  | some t =>
    simp only [e, R.lift, R.bind] at r
    refine ⟨t, hK ▸ tru_rep k0 rx e, ?_⟩
    cases t with
    | true => exact ⟨F, ρ, env, w, k0, en, r⟩
    | false => exact r.here k0 rx
theorem r_or {a b : Expr} {rest : List Expr} {ea eb : E} {p : Pos} {cl : CallT} (hK : X.K = T.C.K) (ha : PE X a (TE' T.C Wd (ev T.G cl ea))) (hb : PE X (.BoolOp .Or (b :: rest) p) (TE' T.C Wd (ev T.G cl eb))) :
    PE X (.BoolOp .Or (a :: b :: rest) p) (TE' T.C Wd (ev T.G cl (.or ea eb))) := by
  refine PE.imp (pe_orT ha hb) fun σ H Q q => ?_
  rw [ev_or'] at q
  obtain ⟨F, ρ, env, w, k0, en, r⟩ := TG'.one (RA := Rep T.C) q
  refine ⟨F, ρ, env, w, k0, en, r.mono fun v1 H1 q1 => ?_⟩
  obtain ⟨F, ρ, env, w, x, k0, en, rx, r⟩ := q1
  cases e : x.truth with
  | none => simp only [e] at r; exact r.elim
  | some t =>
    simp only [e, R.lift, R.bind] at r
    refine ⟨t, hK ▸ tru_rep k0 rx e, ?_⟩
    cases t with
    | true => exact r.here k0 rx
    | false => exact ⟨F, ρ, env, w, k0, en, r⟩
theorem TT'.two {C : Cn} {f g : Env → W → R Bool} {h1 : Env → W → R Bool} {σ : St} {H : Hp} {Q : Bool → Hp → Prop} {t : Env → W → R Bool} (q : TT' C Wd (fun env w => (t env w).bind fun b w => if b = true then f env w else g env w) σ H Q) :
    TT' C Wd t σ H fun b H1 => if b = true then TT' C Wd f σ H1 Q else TT' C Wd g σ H1 Q := by
  obtain ⟨F, ρ, env, w, k, en, r⟩ := q
  refine ⟨F, ρ, env, w, k, en, (Res.bind (RR := fun _ _ a b => a = b) r).mono ?_⟩
  rintro b H1 ⟨F1, r1, b', w1, e1, k1, rfl, q1⟩
  cases b' with
  | true => exact ⟨F1, r1, env, w1, k1, en.up e1, q1⟩
  | false => exact ⟨F1, r1, env, w1, k1, en.up e1, q1⟩
theorem w_and {a b : Expr} {rest : List Expr} {ea eb : E} {p : Pos} {cl : CallT} (ha : PT X a (TT' T.C Wd (evT T.G cl ea))) (hb : PW X (.BoolOp .And (b :: rest) p) (TT' T.C Wd (evT T.G cl eb))) :
    PW X (.BoolOp .And (a :: b :: rest) p) (TT' T.C Wd (evT T.G cl (.and ea eb))) := by
  refine ⟨fun whole pins s σ H Q I q => (pw_and ha hb).run whole pins s σ H Q I ?_⟩
  have e : evT T.G cl (.and ea eb) = fun env w => (evT T.G cl ea env w).bind fun t w => if t = true then evT T.G cl eb env w else .ok false w := by funext env w; exact evT_and _ _ _ _ _ _
  rw [e] at q
  have q := TT'.two (h1 := fun _ _ => .bad) q
  obtain ⟨F, ρ, env, w, k0, en, r⟩ := q
  refine ⟨F, ρ, env, w, k0, en, r.mono fun b H1 q1 => ?_⟩
  cases b with
  | true => exact q1
  | false =>
    simp only [Bool.false_eq_true, if_false] at q1 ⊢
    obtain ⟨F, ρ, env, w, k0, en, r⟩ := q1
    exact r.here k0 rfl
theorem w_or {a b : Expr} {rest : List Expr} {ea eb : E} {p : Pos} {cl : CallT} (ha : PT X a (TT' T.C Wd (evT T.G cl ea))) (hb : PW X (.BoolOp .Or (b :: rest) p) (TT' T.C Wd (evT T.G cl eb))) :
    PW X (.BoolOp .Or (a :: b :: rest) p) (TT' T.C Wd (evT T.G cl (.or ea eb))) := by
  refine ⟨fun whole pins s σ H Q I q => (pw_or ha hb).run whole pins s σ H Q I ?_⟩
  have e : evT T.G cl (.or ea eb) = fun env w => (evT T.G cl ea env w).bind fun t w => if t = true then .ok true w else evT T.G cl eb env w := by funext env w; exact evT_or _ _ _ _ _ _
  rw [e] at q
  have q := TT'.two (h1 := fun _ _ => .bad) q
  obtain ⟨F, ρ, env, w, k0, en, r⟩ := q
  refine ⟨F, ρ, env, w, k0, en, r.mono fun b H1 q1 => ?_⟩
  cases b with
  | false => exact q1
  | true =>
    simp only [if_true] at q1 ⊢
    obtain ⟨F, ρ, env, w, k0, en, r⟩ := q1
    exact r.here k0 rfl
theorem r_cmpAux {a b : Expr} {ea eb : E} {o : COp} {cl : CallT} {σ : St} {H : Hp} {Q : VK} (q : TE' T.C Wd (ev T.G cl (.cmp o ea eb)) σ H Q) :
    tOp (rCm T.C o) (TE' T.C Wd (ev T.G cl ea)) (TE' T.C Wd (ev T.G cl eb)) σ H Q := by
  simp only [ev] at q
  have q := TG'.two (h := fun x y env w => cmpF T.G cl o x y w) q
  obtain ⟨F, ρ, env, w, k0, en, r⟩ := q
  refine ⟨F, ρ, env, w, k0, en, r.mono fun v1 H1 q1 => ?_⟩
  obtain ⟨F, ρ, env, w, k0, en, r⟩ := q1
  refine ⟨F, ρ, env, w, k0, en, r.mono fun v2 H2 q2 => ?_⟩
  obtain ⟨F, ρ, env, w, x, y, k0, en, rx, ry, r⟩ := q2
  unfold cmpF at r
  obtain ⟨d, e, r⟩ := r.lift
  cases e1 : cmpop o x y with
  | none => rw [e1] at e; cases e
  | some bb => rw [e1] at e; cases e; exact ⟨F, ρ, w, x, y, bb, k0, rx, ry, e1, r.aft⟩
theorem r_cmp {a b : Expr} {ea eb : E} {o : COp} {p : Pos} {cl : CallT} (hx : XOk T k c Wd X) (tb : TbOk T k) (hm : behindInMarks (copPy o) b = false) (ha : PE X a (TE' T.C Wd (ev T.G cl ea))) (hb : PE X b (TE' T.C Wd (ev T.G cl eb))) :
    PE X (.Compare a [copPy o] [b] p) (TE' T.C Wd (ev T.G cl (.cmp o ea eb))) ∧ PT X (.Compare a [copPy o] [b] p) (TT' T.C Wd (evT T.G cl (.cmp o ea eb))) := by
  have op := op_cm (X := X) (C := T.C) hx.K tb.cn (by have := hx.units; omega) o
  refine ⟨PE.imp (pe_cmpR op ha hb hm) fun σ H Q q => r_cmpAux (a := a) (b := b) q, PT.imp (pt_cmpR op ha hb hm) fun σ H Q q => ?_⟩
  refine r_cmpAux (a := a) (b := b) (Q := fun x H' => ∃ k, x = .bl k ∧ Q k H') ?_
  obtain ⟨F, ρ, env, w, k0, en, r⟩ := q
  refine ⟨F, ρ, env, w, k0, en, ?_⟩
  cases e : ev T.G cl (.cmp o ea eb) env w with
  | bad => simp only [evT, e] at r; exact r.elim
  | exc x w1 => simp only [evT, e, R.bind] at r; exact r
  | ok d w1 =>
    simp only [evT, e, R.bind] at r
    obtain ⟨bb, eb', r⟩ := r.lift
    have hd : ∃ b', d = .bl b' := by
      simp only [ev] at e
      cases h1 : ev T.G cl ea env w with
      | bad => rw [h1] at e; cases e
      | exc => rw [h1] at e; cases e
      | ok x w2 =>
        rw [h1] at e; simp only [R.bind] at e
        cases h2 : ev T.G cl eb env w2 with
        | bad => rw [h2] at e; cases e
        | exc => rw [h2] at e; cases e
        | ok y w3 =>
          rw [h2] at e; simp only [cmpF] at e
          cases h3 : cmpop o x y with
          | none => rw [h3] at e; cases e
          | some b' => rw [h3] at e; simp only [Option.map, R.lift, R.ok.injEq] at e; exact ⟨b', e.1.symm⟩
    obtain ⟨b', rfl⟩ := hd
    simp only [D.truth, Option.some.injEq] at eb'
    subst eb'
    intro F' ρ' H' v e' o' q'
    cases q'
    exact ⟨_, rfl, r F' ρ' H' _ e' o' rfl⟩
end
end Sv

set_option Elab.async false
set_option linter.all false
set_option maxRecDepth 100000
set_option maxHeartbeats 4000000
namespace Sv
open PySem L2
section
variable {T : Tb} {k : Nat} {c : Ck} {Wd : WX} {X : Cx}
theorem TG'.thn {α β : Type} {C : Cn} {RR : Hp → List Addr → α → β → Prop} {f : Env → W → R α} {σ : St} {H : Hp} {Q Q' : β → Hp → Prop} (q : TG' C RR Wd f σ H Q) (h : ∀ v H, Q v H → Q' v H) : TG' C RR Wd f σ H Q' := by
  obtain ⟨F, ρ, env, w, k0, en, r⟩ := q
  exact ⟨F, ρ, env, w, k0, en, r.mono h⟩
theorem TG'.eq {α β : Type} {C : Cn} {RR : Hp → List Addr → α → β → Prop} {f g : Env → W → R α} {σ : St} {H : Hp} {Q : β → Hp → Prop} (q : TG' C RR Wd f σ H Q) (h : ∀ env w, f env w = g env w) : TG' C RR Wd g σ H Q := by
  obtain rfl : f = g := by funext env w; exact h env w
  exact q
theorem ev_cmp2 (G : Prog) (cl : CallT) (o o' : COp) (a b c : E) (env : Env) (w : W) : ev G cl (.cmp2 o o' a b c) env w = (ev G cl a env w).bind fun x w => (ev G cl b env w).bind fun y w => (fun x y env w => match cmpop o x y with
    | some true => (ev G cl c env w).bind fun z w => R.lift ((cmpop o' y z).map .bl) w
    | some false => (.ok (.bl false) w : R D)
    | none => .bad) x y env w := by simp only [ev] <;> rfl
theorem r_cmp2Aux {a b d : Expr} {ea eb ec : E} {o o' : COp} {cl : CallT} {σ : St} {H : Hp} {Q : VK} (q : TE' T.C Wd (ev T.G cl (.cmp2 o o' ea eb ec)) σ H Q) :
    tChain (rCm T.C o) (rCm T.C o') (TE' T.C Wd (ev T.G cl ea)) (TE' T.C Wd (ev T.G cl eb)) (TE' T.C Wd (ev T.G cl ec)) σ H Q := by
  refine TG'.thn (TG'.two (TG'.eq q fun env w => ev_cmp2 _ _ _ _ _ _ _ _ _)) fun v1 H1 q1 => TG'.thn q1 fun v2 H2 q2 => ?_
  obtain ⟨F, ρ, env, w, x, y, k0, en, rx, ry, r⟩ := q2
  cases e : cmpop o x y with
  | none => simp only [e] at r; exact r.elim
  | some t =>
    refine ⟨F, ρ, w, x, y, t, k0, rx, ry, e, ?_⟩
    intro F' ρ' H' v ex k1 rv
    cases rv
    refine ⟨t, rfl, ?_⟩
    simp only [e] at r
    cases t with
    | true =>
      refine ⟨F', ρ', env, w, k1, en.up ex, (Res.bind (RR := Rep T.C) (r.up ex)).mono ?_⟩
      rintro v3 H3 ⟨F3, r3, z, w3, e3, k3, rz, q3⟩
      obtain ⟨dd, e4, q3⟩ := q3.lift
      cases h3 : cmpop o' y z with
      | none => rw [h3] at e4; cases e4
      | some b' =>
        rw [h3] at e4; cases e4
        exact ⟨F3, r3, w3, y, z, b', k3, e3.rep (ex.rep ry), rz, h3, q3.aft⟩
    | false =>
      simp only [Bool.false_eq_true, if_false]
      exact r F' ρ' H' _ ex k1 (.bl _)
theorem r_cmp2 {a b d : Expr} {ea eb ec : E} {o o' : COp} {p : Pos} {cl : CallT} (hx : XOk T k c Wd X) (tb : TbOk T k) (hm : lastMarks [copPy o, copPy o'] [b, d] = false) (ha : PE X a (TE' T.C Wd (ev T.G cl ea))) (hb : PE X b (TE' T.C Wd (ev T.G cl eb))) (hc : PE X d (TE' T.C Wd (ev T.G cl ec))) :
    PE X (.Compare a [copPy o, copPy o'] [b, d] p) (TE' T.C Wd (ev T.G cl (.cmp2 o o' ea eb ec))) ∧ PT X (.Compare a [copPy o, copPy o'] [b, d] p) (TT' T.C Wd (evT T.G cl (.cmp2 o o' ea eb ec))) := by
  have op := op_cm (X := X) (C := T.C) hx.K tb.cn (by have := hx.units; omega) o
  have op' := op_cm (X := X) (C := T.C) hx.K tb.cn (by have := hx.units; omega) o'
  refine ⟨PE.imp (pe_chain op op' ha hb hc hm) fun σ H Q q => r_cmp2Aux (a := a) (b := b) (d := d) q, PT.imp (pt_chain op op' ha hb hc hm) fun σ H Q q => ?_⟩
  refine r_cmp2Aux (a := a) (b := b) (d := d) (Q := fun x H' => ∃ k, x = .bl k ∧ Q k H') ?_
  obtain ⟨F, ρ, env, w, k0, en, r⟩ := q
  refine ⟨F, ρ, env, w, k0, en, ?_⟩
  cases e : ev T.G cl (.cmp2 o o' ea eb ec) env w with
  | bad => simp only [evT, e] at r; exact r.elim
  | exc x w1 => simp only [evT, e, R.bind] at r; exact r
  | ok dd w1 =>
    simp only [evT, e, R.bind] at r
    obtain ⟨bb, eb', r⟩ := r.lift
    have hd : ∃ b', dd = .bl b' := by
      rw [ev_cmp2] at e
      cases h1 : ev T.G cl ea env w with
      | bad => rw [h1] at e; cases e
      | exc => rw [h1] at e; cases e
      | ok x w2 =>
        rw [h1] at e; simp only [R.bind] at e
        cases h2 : ev T.G cl eb env w2 with
        | bad => rw [h2] at e; cases e
        | exc => rw [h2] at e; cases e
        | ok y w3 =>
          rw [h2] at e; simp only at e
          cases h3 : cmpop o x y with
          | none => rw [h3] at e; cases e
          | some b' =>
            rw [h3] at e
            cases b' with
            | false => simp only [R.ok.injEq] at e; exact ⟨_, e.1.symm⟩
            | true =>
              simp only at e
              cases h4 : ev T.G cl ec env w3 with
              | bad => rw [h4] at e; cases e
              | exc => rw [h4] at e; cases e
              | ok z w4 =>
                rw [h4] at e; simp only at e
                cases h5 : cmpop o' y z with
                | none => rw [h5] at e; cases e
                | some b' => rw [h5] at e; simp only [Option.map, R.lift, R.ok.injEq] at e; exact ⟨b', e.1.symm⟩
    obtain ⟨b', rfl⟩ := hd
    simp only [D.truth, Option.some.injEq] at eb'
    subst eb'
    intro F' ρ' H' v e' o' q'
    cases q'
    exact ⟨_, rfl, r F' ρ' H' _ e' o' rfl⟩
def tCh3 (r1 r2 r3 : R2) (ta tb tc td : TE) : TE := fun σ H Q => ta σ H fun x H1 => tb σ H1 fun y H2 => r1 x y H2 fun z H3 => ∃ k, z = .bl k ∧
  (if k = true then tc σ H3 fun w' H4 => r2 y w' H4 fun z2 H5 => ∃ k2, z2 = .bl k2 ∧ (if k2 = true then td σ H5 fun u' H6 => r3 w' u' H6 Q else Q (.bl false) H5) else Q (.bl false) H3)
theorem pe_ch3 {a b e d : Expr} {ta tb tc td : TE} {pos : Pos} {o1 o2 o3 : CmpOp} {r1 r2 r3 : R2} (h1 : OpR X (compareOp o1) r1) (h2 : OpR X (compareOp o2) r2) (h3 : OpR X (compareOp o3) r3) (ha : PE X a ta) (hb : PE X b tb) (hc : PE X e tc) (hd : PE X d td)
    (hm : lastMarks [o1, o2, o3] [b, e, d] = false) : PE X (.Compare a [o1, o2, o3] [b, e, d] pos) (tCh3 r1 r2 r3 ta tb tc td) := by
  refine ⟨fun pins s σ H Q I h => ?_⟩
  refine PyProof.Rows.Compare_chain (thn (ha.run pins s σ H _ I h) fun v s1 ⟨x, H1, I1, r1, q1⟩ => PyProof.Rows.chain_link (thn (hb.run pins s1 σ H1 _ I1 q1) fun u s2 ⟨y, H2, I2, r2, q2⟩ =>
    thn (h1 pins s2 σ H2 x y v u _ I2 r1 r2 q2) fun d s3 ⟨z, H3, I3, r3, k, e, q3⟩ => ?_)) hm
  subst e
  cases r3
  refine wpAny_truthy_bool ?_
  cases k with
  | false => exact PyProof.Rows.ite_ff ⟨.bl false, H3, I3, rfl, q3⟩
  | true =>
    refine PyProof.Rows.ite_tt (PyProof.Rows.chain_link (thn (hc.run pins s3 σ H3 _ I3 q3) fun w' s4 ⟨z', H4, I4, r4, q4⟩ => thn (h2 pins s4 σ H4 y z' u w' _ I4 r2 r4 q4) fun d2 s5 ⟨z2, H5, I5, r5, k2, e2, q5⟩ => ?_))
    subst e2
    cases r5
    refine wpAny_truthy_bool ?_
    cases k2 with
    | false => exact PyProof.Rows.ite_ff ⟨.bl false, H5, I5, rfl, q5⟩
    | true => exact PyProof.Rows.ite_tt (PyProof.Rows.chain_last (thn (hd.run pins s5 σ H5 _ I5 q5) fun u' s6 ⟨z6, H6, I6, r6, q6⟩ => h3 pins s6 σ H6 z' z6 w' u' Q I6 r4 r6 q6))
theorem pt_ch3 {a b e d : Expr} {ta tb tc td : TE} {pos : Pos} {o1 o2 o3 : CmpOp} {r1 r2 r3 : R2} (h1 : OpR X (compareOp o1) r1) (h2 : OpR X (compareOp o2) r2) (h3 : OpR X (compareOp o3) r3) (ha : PE X a ta) (hb : PE X b tb) (hc : PE X e tc) (hd : PE X d td)
    (hm : lastMarks [o1, o2, o3] [b, e, d] = false) : PT X (.Compare a [o1, o2, o3] [b, e, d] pos) (tTest (tCh3 r1 r2 r3 ta tb tc td)) := by
  refine ⟨fun pins s σ H Q I h => ?_⟩
  refine PyProof.Rows.isTrue_chain (thn (ha.run pins s σ H _ I h) fun v s1 ⟨x, H1, I1, r1, q1⟩ => PyProof.Rows.test_link (thn (hb.run pins s1 σ H1 _ I1 q1) fun u s2 ⟨y, H2, I2, r2, q2⟩ =>
    thn (h1 pins s2 σ H2 x y v u _ I2 r1 r2 q2) fun d s3 ⟨z, H3, I3, r3, k, e, q3⟩ => ?_)) hm
  subst e
  cases r3
  refine wpAny_truthy_bool ?_
  cases k with
  | false =>
    obtain ⟨k', e', q'⟩ := q3
    cases e'
    exact PyProof.Rows.ite_ff ⟨H3, I3, q'⟩
  | true =>
    refine PyProof.Rows.ite_tt (PyProof.Rows.test_link (thn (hc.run pins s3 σ H3 _ I3 q3) fun w' s4 ⟨z', H4, I4, r4, q4⟩ => thn (h2 pins s4 σ H4 y z' u w' _ I4 r2 r4 q4) fun d2 s5 ⟨z2, H5, I5, r5, k2, e2, q5⟩ => ?_))
    subst e2
    cases r5
    refine wpAny_truthy_bool ?_
    cases k2 with
    | false =>
      obtain ⟨k', e', q'⟩ := q5
      cases e'
      exact PyProof.Rows.ite_ff ⟨H5, I5, q'⟩
    | true =>
      refine PyProof.Rows.ite_tt (PyProof.Rows.test_last (thn (hd.run pins s5 σ H5 _ I5 q5) fun u' s6 ⟨z6, H6, I6, r6, q6⟩ => thn (h3 pins s6 σ H6 z' z6 w' u' _ I6 r4 r6 q6) fun d' s7 ⟨z7, H7, I7, r7, k3, e3, q7⟩ => ?_))
      subst e3
      cases r7
      exact wpAny_truthy_bool ⟨H7, I7, q7⟩
theorem ev_cmp3 (G : Prog) (cl : CallT) (o o' o2 : COp) (a b c d : E) (env : Env) (w : W) : ev G cl (.cmp3 o o' o2 a b c d) env w = (ev G cl a env w).bind fun x w => (ev G cl b env w).bind fun y w => (fun x y env w => match cmpop o x y with
    | some true => (ev G cl c env w).bind fun z w => (fun z env w => match cmpop o' y z with
      | some true => (ev G cl d env w).bind fun u w => R.lift ((cmpop o2 z u).map .bl) w
      | some false => (.ok (.bl false) w : R D)
      | none => .bad) z env w
    | some false => (.ok (.bl false) w : R D)
    | none => .bad) x y env w := by simp only [ev] <;> rfl
theorem r_cmp3Aux {a b e d : Expr} {ea eb ec ed : E} {o o' o2 : COp} {cl : CallT} {σ : St} {H : Hp} {Q : VK} (q : TE' T.C Wd (ev T.G cl (.cmp3 o o' o2 ea eb ec ed)) σ H Q) :
    tCh3 (rCm T.C o) (rCm T.C o') (rCm T.C o2) (TE' T.C Wd (ev T.G cl ea)) (TE' T.C Wd (ev T.G cl eb)) (TE' T.C Wd (ev T.G cl ec)) (TE' T.C Wd (ev T.G cl ed)) σ H Q := by
  refine TG'.thn (TG'.two (TG'.eq q fun env w => ev_cmp3 _ _ _ _ _ _ _ _ _ _ _)) fun v1 H1 q1 => TG'.thn q1 fun v2 H2 q2 => ?_
  obtain ⟨F, ρ, env, w, x, y, k0, en, rx, ry, r⟩ := q2
  cases e : cmpop o x y with
  | none => simp only [e] at r; exact r.elim
  | some t =>
    refine ⟨F, ρ, w, x, y, t, k0, rx, ry, e, ?_⟩
    intro F' ρ' H' v ex k1 rv
    cases rv
    refine ⟨t, rfl, ?_⟩
    simp only [e] at r
    cases t with
    | true =>
      refine ⟨F', ρ', env, w, k1, en.up ex, (Res.bind (RR := Rep T.C) (r.up ex)).mono ?_⟩
      rintro v3 H3 ⟨F3, r3, z, w3, e3, k3, rz, q3⟩
      cases h3 : cmpop o' y z with
      | none => simp only [h3] at q3; exact q3.elim
      | some t2 =>
        refine ⟨F3, r3, w3, y, z, t2, k3, e3.rep (ex.rep ry), rz, h3, ?_⟩
        intro F4 r4 H4 v4 ex4 k4 rv4
        cases rv4
        refine ⟨t2, rfl, ?_⟩
        simp only [h3] at q3
        cases t2 with
        | true =>
          refine ⟨F4, r4, env, w3, k4, ((en.up ex).up e3).up ex4, (Res.bind (RR := Rep T.C) (q3.up ex4)).mono ?_⟩
          rintro v5 H5 ⟨F5, r5, u, w5, e5, k5, ru, q5⟩
          obtain ⟨dd, e6, q5⟩ := q5.lift
          cases h5 : cmpop o2 z u with
          | none => rw [h5] at e6; cases e6
          | some b' =>
            rw [h5] at e6; cases e6
            exact ⟨F5, r5, w5, z, u, b', k5, e5.rep (ex4.rep rz), ru, h5, q5.aft⟩
        | false =>
          simp only [Bool.false_eq_true, if_false]
          exact q3 F4 r4 H4 _ ex4 k4 (.bl _)
    | false =>
      simp only [Bool.false_eq_true, if_false]
      exact r F' ρ' H' _ ex k1 (.bl _)
theorem boolT {ee : E} {cl : CallT} {σ : St} {H : Hp} {Q : Bool → Hp → Prop} (hb : ∀ env w d w', ev T.G cl ee env w = .ok d w' → ∃ b, d = .bl b) (q : TT' T.C Wd (evT T.G cl ee) σ H Q) : TE' T.C Wd (ev T.G cl ee) σ H fun x H' => ∃ k, x = .bl k ∧ Q k H' := by
  obtain ⟨F, ρ, env, w, k0, en, r⟩ := q
  refine ⟨F, ρ, env, w, k0, en, ?_⟩
  cases e : ev T.G cl ee env w with
  | bad => simp only [evT, e] at r; exact r.elim
  | exc x w1 => simp only [evT, e, R.bind] at r; exact r
  | ok dd w1 =>
    simp only [evT, e, R.bind] at r
    obtain ⟨bb, eb', r⟩ := r.lift
    obtain ⟨b', rfl⟩ := hb env w dd w1 e
    simp only [D.truth, Option.some.injEq] at eb'
    subst eb'
    intro F' ρ' H' v e' o' q'
    cases q'
    exact ⟨_, rfl, r F' ρ' H' _ e' o' rfl⟩
theorem bind_ok {α β : Type} {x : R α} {f : α → W → R β} {b : β} {w' : W} (h : x.bind f = .ok b w') : ∃ a w, x = .ok a w ∧ f a w = .ok b w' := by
  cases x with
  | ok a w => exact ⟨a, w, rfl, h⟩
  | exc => cases h
  | bad => cases h
theorem r_cmp3 {a b e d : Expr} {ea eb ec ed : E} {o o' o2 : COp} {p : Pos} {cl : CallT} (hx : XOk T k c Wd X) (tb : TbOk T k) (hm : lastMarks [copPy o, copPy o', copPy o2] [b, e, d] = false) (ha : PE X a (TE' T.C Wd (ev T.G cl ea))) (hb : PE X b (TE' T.C Wd (ev T.G cl eb))) (hc : PE X e (TE' T.C Wd (ev T.G cl ec))) (hd : PE X d (TE' T.C Wd (ev T.G cl ed))) :
    PE X (.Compare a [copPy o, copPy o', copPy o2] [b, e, d] p) (TE' T.C Wd (ev T.G cl (.cmp3 o o' o2 ea eb ec ed))) ∧ PT X (.Compare a [copPy o, copPy o', copPy o2] [b, e, d] p) (TT' T.C Wd (evT T.G cl (.cmp3 o o' o2 ea eb ec ed))) := by
  have op := op_cm (X := X) (C := T.C) hx.K tb.cn (by have := hx.units; omega) o
  have op' := op_cm (X := X) (C := T.C) hx.K tb.cn (by have := hx.units; omega) o'
  have op2 := op_cm (X := X) (C := T.C) hx.K tb.cn (by have := hx.units; omega) o2
  refine ⟨PE.imp (pe_ch3 op op' op2 ha hb hc hd hm) fun σ H Q q => r_cmp3Aux (a := a) (b := b) (e := e) (d := d) q, PT.imp (pt_ch3 op op' op2 ha hb hc hd hm) fun σ H Q q => ?_⟩
  refine r_cmp3Aux (a := a) (b := b) (e := e) (d := d) (Q := fun x H' => ∃ k, x = .bl k ∧ Q k H') (boolT (fun env w dd w' h => ?_) q)
  simp only [ev] at h
  obtain ⟨x, w1, -, h⟩ := bind_ok h
  obtain ⟨y, w2, -, h⟩ := bind_ok h
  split at h
  · obtain ⟨z, w3, -, h⟩ := bind_ok h
    split at h
    · obtain ⟨u, w4, -, h⟩ := bind_ok h
      cases h5 : cmpop o2 z u with
      | none => rw [h5] at h; cases h
      | some b' => rw [h5] at h; simp only [Option.map, R.lift, R.ok.injEq] at h; exact ⟨b', h.1.symm⟩
    · simp only [R.ok.injEq] at h; exact ⟨_, h.1.symm⟩
    · cases h
  · simp only [R.ok.injEq] at h; exact ⟨_, h.1.symm⟩
  · cases h
theorem ev_ite' (G : Prog) (cl : CallT) (c a b : E) (env : Env) (w : W) : ev G cl (.ite c a b) env w = (evT G cl c env w).bind fun t w => if t then ev G cl a env w else ev G cl b env w := by
  simp only [evT, ev]
  cases ev G cl c env w <;> rfl
theorem TT'.twoE {α β : Type} {C : Cn} {RR : Hp → List Addr → α → β → Prop} {f g : Env → W → R α} {σ : St} {H : Hp} {Q : β → Hp → Prop} {t : Env → W → R Bool} (q : TG' C RR Wd (fun env w => (t env w).bind fun b w => if b = true then f env w else g env w) σ H Q) :
    TT' C Wd t σ H fun b H1 => if b = true then TG' C RR Wd f σ H1 Q else TG' C RR Wd g σ H1 Q := by
  obtain ⟨F, ρ, env, w, k, en, r⟩ := q
  refine ⟨F, ρ, env, w, k, en, (Res.bind (RR := fun _ _ a b => a = b) r).mono ?_⟩
  rintro b H1 ⟨F1, r1, b', w1, e1, k1, rfl, q1⟩
  cases b' with
  | true => exact ⟨F1, r1, env, w1, k1, en.up e1, q1⟩
  | false => exact ⟨F1, r1, env, w1, k1, en.up e1, q1⟩
theorem r_ite {t a b : Expr} {et ea eb : E} {p : Pos} {cl : CallT} (ht : PT X t (TT' T.C Wd (evT T.G cl et))) (ha : PE X a (TE' T.C Wd (ev T.G cl ea))) (hb : PE X b (TE' T.C Wd (ev T.G cl eb))) :
    PE X (.IfExp t a b p) (TE' T.C Wd (ev T.G cl (.ite et ea eb))) := by
  refine PE.imp (pe_ifExp ht ha hb) fun σ H Q q => ?_
  exact TG'.thn (TT'.twoE (TG'.eq q fun env w => ev_ite' _ _ _ _ _ _ _)) fun v H1 q => q
theorem t_ite {t a b : Expr} {et ea eb : E} {p : Pos} {cl : CallT} (ht : PT X t (TT' T.C Wd (evT T.G cl et))) (ha : PT X a (TT' T.C Wd (evT T.G cl ea))) (hb : PT X b (TT' T.C Wd (evT T.G cl eb))) :
    PT X (.IfExp t a b p) (TT' T.C Wd (evT T.G cl (.ite et ea eb))) := by
  refine ⟨fun pins s σ H Q I q => ?_⟩
  have q := TT'.twoE (TG'.eq q fun env w => evT_ite _ _ _ _ _ _ _)
  refine PyProof.Rows.isTrue_IfExp (thn (ht.run pins s σ H _ I q) fun b s1 ⟨H1, I1, q1⟩ => ?_)
  cases b with
  | true => exact ha.run pins s1 σ H1 _ I1 q1
  | false => exact hb.run pins s1 σ H1 _ I1 q1
theorem a_nil {cl : CallT} : PA X [] (TA' T.C Wd (evs T.G cl .nil)) := by
  refine PA.imp pa_nil fun σ H Q q => ?_
  obtain ⟨F, ρ, env, w, k0, en, r⟩ := q
  simp only [evs] at r
  exact r.here k0 .nil
theorem a_consAux {ea : E} {es : Es} {cl : CallT} {σ : St} {H : Hp} {Q : List V → Hp → Prop} (q : TA' T.C Wd (evs T.G cl (.cons ea es)) σ H Q) :
    tCons (TE' T.C Wd (ev T.G cl ea)) (TA' T.C Wd (evs T.G cl es)) σ H Q := by
  obtain ⟨F, ρ, env, w, k0, en, r⟩ := q
  simp only [evs] at r
  refine ⟨F, ρ, env, w, k0, en, (Res.bind (RR := Rep T.C) r).mono ?_⟩
  rintro v H1 ⟨F1, r1, x, w1, e1, k1, rx, q1⟩
  refine ⟨F1, r1, env, w1, k1, en.up e1, (Res.bind (RR := Reps T.C) q1).mono ?_⟩
  rintro vs H2 ⟨F2, r2, xs, w2, e2, k2, rxs, q2⟩
  exact q2.here k2 (.cons (e2.rep rx) rxs)
theorem a_cons {a : Expr} {as : List Expr} {ea : E} {es : Es} {cl : CallT} (hs : isStar a = false) (ha : PE X a (TE' T.C Wd (ev T.G cl ea))) (hr : PA X as (TA' T.C Wd (evs T.G cl es))) : PA X (a :: as) (TA' T.C Wd (evs T.G cl (.cons ea es))) :=
  PA.imp (pa_cons ha hr (star1 hs)) fun σ H Q q => a_consAux q
theorem k_nil {cl : CallT} : PK X [] (TA' T.C Wd (evs T.G cl .nil)) := by
  refine ⟨fun pos pins s σ H Q I q => pk_nil.run pos pins s σ H Q I ?_⟩
  obtain ⟨F, ρ, env, w, k0, en, r⟩ := q
  simp only [evs] at r
  exact r.here k0 .nil
theorem k_cons {a : Expr} {nm : Option Str} {kp : Pos} {as : List Keyword} {ea : E} {es : Es} {cl : CallT} (ha : PE X a (TE' T.C Wd (ev T.G cl ea))) (hr : PK X as (TA' T.C Wd (evs T.G cl es))) : PK X (⟨nm, a, kp⟩ :: as) (TA' T.C Wd (evs T.G cl (.cons ea es))) :=
  ⟨fun pos pins s σ H Q I q => (pk_cons ha hr).run pos pins s σ H Q I (a_consAux q)⟩
theorem evs_len {G : Prog} {cl : CallT} : ∀ {es : Es} {env : Env} {w w' : W} {ds : List D}, evs G cl es env w = .ok ds w' → ds.length = es.len
  | .nil, env, w, w', ds, h => by simp only [evs, R.ok.injEq] at h; rw [← h.1]; rfl
  | .cons e r, env, w, w', ds, h => by
    simp only [evs] at h
    cases h1 : ev G cl e env w with
    | bad => rw [h1] at h; cases h
    | exc => rw [h1] at h; cases h
    | ok x w1 =>
      rw [h1] at h; simp only [R.bind] at h
      cases h2 : evs G cl r env w1 with
      | bad => rw [h2] at h; cases h
      | exc => rw [h2] at h; cases h
      | ok xs w2 =>
        rw [h2] at h; simp only [R.ok.injEq] at h
        rw [← h.1, List.length_cons, evs_len h2]; rfl
theorem TA'.len {es : Es} {cl : CallT} {σ : St} {H : Hp} {Q : List V → Hp → Prop} {γ δ : Type} {RR : Hp → List Addr → γ → δ → Prop} {h : List D → Env → W → R γ} {Q' : δ → Hp → Prop} (q : TG' T.C RR Wd (fun env w => (evs T.G cl es env w).bind fun ds w => h ds env w) σ H Q') :
    TA' T.C Wd (evs T.G cl es) σ H fun vs H1 => vs.length = es.len ∧ ∃ F ρ env w ds, WOk T.C F ρ w H1 ∧ EnvOk T.C F ρ env σ ∧ Reps T.C F ρ ds vs ∧ Res T.C RR Wd F ρ (h ds env w) σ Q' := by
  obtain ⟨F, ρ, env, w, k, en, r⟩ := q
  refine ⟨F, ρ, env, w, k, en, ?_⟩
  dsimp only at r
  cases e : evs T.G cl es env w with
  | bad => rw [e] at r; exact r.elim
  | exc x w1 => rw [e] at r; exact r
  | ok ds w1 =>
    rw [e] at r
    intro F' ρ' H' vs ex k' rs
    refine ⟨by rw [← rs.length]; exact evs_len e, F', ρ', env, w1, ds, k', en.up ex, rs, ?_⟩
    exact Res.up r ex
theorem r_tup {as : List Expr} {es : Es} {x1 : Nat} {p : Pos} {cl : CallT} (hl : es.len ≤ 100000) (ha : PA X as (TA' T.C Wd (evs T.G cl es))) : PE X (.Tuple as x1 p) (TE' T.C Wd (ev T.G cl (.tup es))) := by
  refine PE.imp (pe_tup ha) fun σ H Q q => ?_
  have q := TG'.eq (g := fun env w => (evs T.G cl es env w).bind fun ds w => (fun ds env w => (.ok (.tup ds) w : R D)) ds env w) q fun env w => by simp only [ev]
  refine TG'.thn (TA'.len (Q := fun _ _ => True) q) fun vs H1 q1 => ?_
  obtain ⟨hl2, F, ρ, env, w, ds, k0, en, rs, r⟩ := q1
  exact ⟨small16 (by omega), fun p hp => r.aft.tup k0 rs hp⟩
end
end Sv

set_option Elab.async false
set_option linter.all false
set_option maxRecDepth 100000
set_option maxHeartbeats 4000000
namespace Sv
open PySem L2
section
variable {T : Tb} {k : Nat} {c : Ck} {Wd : WX} {X : Cx}
theorem newL_ok {C : Cn} {F : Hp} {ρ : List Addr} {m : Bool} {xs : List D} {vs : List V} {w : W} {H : Hp} {σ : St} {Q : VK} (k : WOk C F ρ w H) (rs : Reps C F ρ xs vs) (r : Res C (Rep C) Wd F ρ (newL m xs w) σ Q) :
    vs.length ≤ sizeLine ∧ ∀ p, H p = none → Q (.ref p) (upd H p (.lst vs)) := by
  unfold newL at r
  split at r
  · exact r.elim
  · rename_i hl
    refine ⟨by rw [← rs.length]; exact small16 (by omega), fun p hp => ?_⟩
    cases m with
    | false =>
      simp only [Bool.false_eq_true, if_false] at r
      exact r.aft.lst k rs hp
    | true =>
      simp only [if_true] at r
      split at r
      · rename_i hn
        have hlen : ρ.length = w.length := k.len
        refine r F (ρ ++ [p]) _ _ Ext.cell (k.cell hp (.lst (rs.noRef hn))) (.cel ?_)
        rw [← hlen]; simp
      · exact r.elim
theorem r_lst {as : List Expr} {es : Es} {m : Bool} {p : Pos} {cl : CallT} (ha : PA X as (TA' T.C Wd (evs T.G cl es))) : PE X (.List as p) (TE' T.C Wd (ev T.G cl (.lst m es))) := by
  refine PE.imp (pe_lst ha) fun σ H Q q => ?_
  have q := TG'.eq (g := fun env w => (evs T.G cl es env w).bind fun ds w => (fun ds env w => newL m ds w) ds env w) q fun env w => by simp only [ev]
  refine TG'.thn (TG'.one (RA := Reps T.C) q) fun vs H1 q1 => ?_
  obtain ⟨F, ρ, env, w, ds, k0, en, rs, r⟩ := q1
  exact newL_ok k0 rs r
theorem r_catm {a b : Expr} {ea eb : E} {p : Pos} {cl : CallT} (ha : PE X a (TE' T.C Wd (ev T.G cl ea))) (hb : PE X b (TE' T.C Wd (ev T.G cl eb))) : PE X (.BinOp a (opPy .add) b p) (TE' T.C Wd (ev T.G cl (.catm ea eb))) := by
  refine PE.imp (pe_op op_catL ha hb) fun σ H Q q => ?_
  simp only [ev] at q
  have q := TG'.two (h := fun x y env w => catF x y w) q
  obtain ⟨F, ρ, env, w, k0, en, r⟩ := q
  refine ⟨F, ρ, env, w, k0, en, r.mono fun v1 H1 q1 => ?_⟩
  obtain ⟨F, ρ, env, w, k0, en, r⟩ := q1
  refine ⟨F, ρ, env, w, k0, en, r.mono fun v2 H2 q2 => ?_⟩
  clear q
  obtain ⟨F, ρ, env, w, x, y, k0, en, rx, ry, rr⟩ := q2
  unfold catF at rr
  split at rr
  · rename_i xs ys
    cases rx with
    | lst h1 r1 =>
      cases ry with
      | lst h2 r2 =>
        obtain ⟨hl, hn⟩ := newL_ok k0 (r1.append r2) rr
        exact ⟨_, _, _, _, rfl, rfl, k0.frz _ _ h1, k0.frz _ _ h2, by simpa using hl, hn⟩
  · exact rr.elim
theorem r_sub {a b : Expr} {ea eb : E} {p : Pos} {cl : CallT} (hx : XOk T k c Wd X) (hs : isSlice b = false) (ha : PE X a (TE' T.C Wd (ev T.G cl ea))) (hb : PE X b (TE' T.C Wd (ev T.G cl eb))) : PE X (.Subscript a b p) (TE' T.C Wd (ev T.G cl (.sub ea eb))) := by
  refine PE.imp (pe_ix (ix_sub (C := T.C) hx.K (by have := hx.units; omega)) ha hb (plainIx hs)) fun σ H Q q => ?_
  have q := TG'.eq (g := fun env w => (ev T.G cl ea env w).bind fun x w => (ev T.G cl eb env w).bind fun y w => (fun x y env w => R.lift (subF w x y) w) x y env w) q fun env w => by simp only [ev]
  refine TG'.thn (TG'.two q) fun v1 H1 q1 => TG'.thn q1 fun v2 H2 q2 => ?_
  obtain ⟨F, ρ, env, w, x, y, k0, en, rx, ry, r⟩ := q2
  obtain ⟨d, e, r⟩ := r.lift
  exact ⟨F, ρ, w, x, y, d, k0, rx, ry, e, r.aft⟩
def evP (G : Prog) (cl : CallT) (e : E) (env : Env) (w : W) : R D := match e with | .non => .ok .non w | e => (ev G cl e env w).bind intR
def PR : Hp → List Addr → D → Option Int → Prop := fun _ _ d o => (d = .non ∧ o = none) ∨ ∃ i, d = .int i ∧ o = some i
abbrev TO' (C : Cn) (Wd : WX) (f : Env → W → R D) : TO := TG' C PR Wd f
theorem o_none {cl : CallT} : PO X none (TO' T.C Wd (evP T.G cl .non)) := by
  refine ⟨fun pins s σ H Q I q => po_none.run pins s σ H Q I ?_⟩
  obtain ⟨F, ρ, env, w, k0, en, r⟩ := q
  exact Res.here (C := T.C) (RR := PR) r k0 (.inl ⟨rfl, rfl⟩)
theorem o_some {a : Expr} {ea : E} {cl : CallT} (hn : ∀ env w, evP T.G cl ea env w = (ev T.G cl ea env w).bind intR) (ha : PE X a (TE' T.C Wd (ev T.G cl ea))) : PO X (some a) (TO' T.C Wd (evP T.G cl ea)) := by
  refine ⟨fun pins s σ H Q I q => (po_some ha).run pins s σ H Q I ?_⟩
  have q := TG'.eq q hn
  refine TG'.thn (TG'.one (RA := Rep T.C) (h := fun d env w => intR d w) q) fun v H1 q1 => ?_
  obtain ⟨F, ρ, env, w, x, k0, en, rx, r⟩ := q1
  unfold intR at r
  split at r
  · cases rx
    exact ⟨_, rfl, Res.here (C := T.C) (RR := PR) r k0 (.inr ⟨_, rfl, rfl⟩)⟩
  · exact r.elim
theorem ev_slc (G : Prog) (cl : CallT) (o lo hi : E) (env : Env) (w : W) : ev G cl (.slc o lo hi) env w = (ev G cl o env w).bind fun o w => (fun o env w => (evP G cl lo env w).bind fun lo w => (fun lo env w => (evP G cl hi env w).bind fun hi w => (fun hi env w => slcF o lo hi w) hi env w) lo env w) o env w := by
  simp only [ev, evP]
  cases ev G cl o env w with
  | ok x w1 => cases lo <;> cases hi <;> rfl
  | exc => rfl
  | bad => rfl
theorem slc_res {C : Cn} {F : Hp} {ρ : List Addr} {x l h : D} {w : W} {σ : St} {Q : VK} (r : Res C (Rep C) Wd F ρ (slcF x l h w) σ Q) : ∃ d, slcF x l h w = .ok d w ∧ Aft C F ρ d w Q := by
  have key : ∀ {α : Type} {o : Option α} {f : α → D}, Res C (Rep C) Wd F ρ (R.lift (o.map f) w) σ Q → ∃ d, R.lift (o.map f) w = .ok d w ∧ Aft C F ρ d w Q := fun {α o f} r => by
    cases o with
    | none => exact r.elim
    | some a => exact ⟨f a, rfl, r⟩
  cases x with
  | lst xs => exact key r
  | scr xs => exact key r
  | tup xs => exact key r
  | str xs =>
    simp only [slcF] at r ⊢
    by_cases hl : xs.length ≤ 16000000
    · rw [if_pos hl] at r ⊢; exact key r
    · rw [if_neg hl] at r; exact r.elim
  | _ => exact r.elim
theorem r_slc {a : Expr} {lo hi : Option Expr} {ea el eh : E} {p p2 : Pos} {cl : CallT} (hx : XOk T k c Wd X) (ha : PE X a (TE' T.C Wd (ev T.G cl ea))) (hl : PO X lo (TO' T.C Wd (evP T.G cl el))) (hh : PO X hi (TO' T.C Wd (evP T.G cl eh))) :
    PE X (.Subscript a (.Slice lo hi none p2) p) (TE' T.C Wd (ev T.G cl (.slc ea el eh))) := by
  refine PE.imp (pe_slice (sl_cut (C := T.C) hx.K) ha hl hh) fun σ H Q q => ?_
  refine TG'.thn (TG'.one (RA := Rep T.C) (TG'.eq q fun env w => ev_slc _ _ _ _ _ _ _)) fun v1 H1 q1 => ?_
  obtain ⟨F, ρ, env, w, x, k0, en, rx, r⟩ := q1
  refine ⟨F, ρ, env, w, k0, en, (Res.bind (RR := PR) r).mono ?_⟩
  rintro l H2 ⟨F2, r2, dl, w2, e2, k2, rl, r⟩
  refine ⟨F2, r2, env, w2, k2, en.up e2, (Res.bind (RR := PR) r).mono ?_⟩
  rintro h H3 ⟨F3, r3, dh, w3, e3, k3, rh, r⟩
  obtain ⟨d, e, aft⟩ := slc_res r
  refine ⟨F3, r3, w3, x, dl, dh, d, k3, e3.rep (e2.rep rx), ?_, ?_, e, aft⟩
  · rcases rl with ⟨rfl, rfl⟩ | ⟨i, rfl, rfl⟩ <;> rfl
  · rcases rh with ⟨rfl, rfl⟩ | ⟨i, rfl, rfl⟩ <;> rfl
theorem clsIn_some {K : PySem.W.Frag} {C : Addr} (c : L2.Cls K C) : (PySem.W.clsIn K C).isSome = true := by
  obtain ⟨cd, hc, _⟩ := PySem.W.any_some c.hd
  rw [hc]; rfl
theorem XOk.env0 (hx : XOk T k c Wd X) {pins : List (Addr × Obj)} {σ : St} {H : Hp} {s : Shared} (I : L2.Inv X pins σ H s) : Env0 T.P T.w T.C.K T.mg T.base X.A X.stack s H := by
  have := I.env0
  rw [hx.prog, hx.w, hx.K, hx.mg, hx.base] at this
  exact this
theorem XOk.model (hx : XOk T k c Wd X) : model X.prog X.w = model T.P T.w := by rw [hx.prog, hx.w]
theorem r_attr {a : Expr} {ea : E} {f : Nat} {p : Pos} {cl : CallT} (hx : XOk T k c Wd X) (tb : TbOk T k) (hf : f ∈ T.flds) (hsup : notSuper a = true) (hcl : cl = run T.G k) (ha : PE X a (TE' T.C Wd (ev T.G cl ea))) :
    PE X (.Attribute a (T.C.nm f) p) (TE' T.C Wd (ev T.G cl (.attr ea f))) := by
  refine ⟨fun pins s σ H Q I q => ?_⟩
  have q := TG'.eq (g := fun env w => (ev T.G cl ea env w).bind fun x w => (fun x env w => attrF T.G cl x f w) x env w) q fun env w => by simp only [ev]
  refine attr_of (attBase hsup) (thn (ha.run pins s σ H _ I (TG'.one (RA := Rep T.C) q)) fun u s1 ⟨x, H1, I1, rx, q1⟩ => ?_)
  obtain ⟨F, ρ, env, w, d, k0, en, rd, r⟩ := q1
  unfold attrF at r
  cases hv : view w d with
  | none => rw [hv] at r; exact r.elim
  | some dd =>
    cases dd with
    | obj cn fs =>
      simp only [hv] at r
      obtain ⟨A, ad, dx, es, hA, rfl, ho, rf⟩ := k0.view_obj rd hv
      obtain rfl : u = Value.ref ad := rx
      cases hc : T.G.cls cn with
      | none => rw [hc] at r; exact r.elim
      | some qc =>
        simp only [hc] at r
        obtain ⟨A', hA', _, CO⟩ := tb.cls cn qc hc
        rw [hA] at hA'; cases hA'
        have hK := hx.K
        have lk := rf.look tb.nmI (f := f)
        cases hp : qc.props.lookup f with
        | some g =>
          simp only [hp] at r
          obtain ⟨pp, ga, PO, CV⟩ := CO.prop f g hp
          have c0 : L2.Cls X.K A := hK ▸ CO.cls
          have p0 : PropOf X.K A (T.C.nm f) pp ga := hK ▸ PO
          obtain ⟨mA, O, _, _, _, _⟩ := ins_get I1.hok ho
          obtain ⟨od, J, _⟩ := O.look
          obtain ⟨rest, hrec⟩ := p0.rec_
          have I1' := I1.tok (s1.toks + 1)
          refine PySem.W.get_bind I1.kIn J (PySem.W.plainGet_of (c0.get (T.C.nm f))).1 (PySem.W.findObj_data (clsIn_some c0) p0.at_ p0.get p0.tak) (PySem.W.plainGet_of (c0.get (T.C.nm f))).2 (wpAny_call (PySem.W.prop_get (s := { s1 with toks := s1.toks + 1 }) I1.kIn hrec ?_))
          have hroom : Room (2 * k + 1) X.A := hx.room
          have e0 := (hx.env0 I1').in1
          have hh : Res T.C (Rep T.C) (fun cl dd _ H => (fun _ _ _ => False) cl dd H) F ρ (callF T.G (run T.G k) g [d] [] [] w) [] Q := by
            rw [← hcl]
            cases hcc : callF T.G cl g [d] [] [] w with
            | ok d' w' => rw [hcc] at r; exact r
            | exc e w' => rw [hcc] at r; exact r.elim
            | bad => rw [hcc] at r; exact r.elim
          have rn := CV X.A.in1 X.stack { s1 with toks := s1.toks + 1 } H1 [.ref ad] [] [.ref ad] [] Q (fun _ _ _ => False) hroom.in1 (by simpa [Around.in1] using hx.gd) e0 (.cons rfl .nil) .nil rfl rfl
            ⟨F, ρ, w, [d], [], k0, .cons rd .nil, .nil, hh⟩
          rw [hx.model]
          refine codeAny_mono rn fun rr s' hq => ?_
          cases rr with
          | error er =>
            exfalso
            have t := takes_none5 (X := X.nox)
            exact passAt t σ pins H1 { s1 with toks := s1.toks + 1 } er s' (I1'.wish _) (by rw [hx.prog, hx.w]; exact hq)
          | ok fl =>
            cases fl with
            | ret u =>
              obtain ⟨v, H', I3, rv, q3⟩ := I1'.after (by rw [hx.prog, hx.w]; exact hq)
              show wpAny _ _ (handedOut u) _ _ _
              rw [PySem.W.handedOut_of (handed_of rv)]
              exact wpAny_pure ⟨v, H', I3, rv, q3⟩
            | next => exact False.elim hq
            | brk => exact False.elim hq
            | cont => exact False.elim hq
        | none =>
          simp only [hp] at r
          cases hm : qc.meths.lookup f with
          | some g => simp only [hm] at r; exact r.elim
          | none =>
            simp only [hm] at r
            cases hl : fs.lookup f with
            | none => simp only [hl] at r; exact r.elim
            | some dv =>
              simp only [hl] at r
              obtain ⟨v, l, rv⟩ := lk.1 dv hl
              have c0 : L2.Cls X.K A := hK ▸ CO.cls
              have n0 : NoAttr X.K A (T.C.nm f) := hK ▸ CO.noat f hf hp hm
              exact getattr_ok I1 ho c0 n0 l fun u s' I' ru => ⟨v, H1, I', ru, Res.here (C := T.C) (RR := Rep T.C) r k0 rv⟩
    | _ => simp only [hv] at r; exact r.elim
end
end Sv

set_option Elab.async false
set_option linter.all false
set_option maxRecDepth 100000
set_option maxHeartbeats 4000000
namespace Sv
open PySem L2
def kwNames : List Keyword → Option (List Str)
  | [] => some []
  | ⟨some n, _, _⟩ :: r => (kwNames r).map (n :: ·)
  | _ => none
theorem kwNames_ok {env : PySem.Env} {pos : Pos} : ∀ {kws : List Keyword} {ks : List Str}, kwNames kws = some ks →
    (backToKw pos (keywordEach kws env)).all (·.1.isSome) = true ∧ (backToKw pos (keywordEach kws env)).filterMap (·.1) = ks ∧ (backToKw pos (keywordEach kws env)).any (·.1.isNone) = false
  | [], ks, h => by simp only [kwNames, Option.some.injEq] at h; subst h; exact ⟨rfl, rfl, rfl⟩
  | ⟨none, v, p⟩ :: r, ks, h => by simp [kwNames] at h
  | ⟨some n, v, p⟩ :: r, ks, h => by
    simp only [kwNames] at h
    cases e : kwNames r with
    | none => rw [e] at h; cases h
    | some ls =>
      rw [e] at h; cases h
      obtain ⟨h1, h2, h3⟩ := kwNames_ok (env := env) (pos := pos) e
      refine ⟨?_, ?_, ?_⟩
      · show (true && (backToKw pos (keywordEach r env)).all (·.1.isSome)) = true
        rw [h1]; rfl
      · show n :: (backToKw pos (keywordEach r env)).filterMap (·.1) = n :: ls
        rw [h2]
      · show (false || (backToKw pos (keywordEach r env)).any (·.1.isNone)) = false
        rw [h3]; rfl
section
variable {T : Tb} {k : Nat} {c : Ck} {Wd : WX} {X : Cx}
theorem TA'.two {es ks : Es} {cl : CallT} {σ : St} {H : Hp} {γ δ : Type} {RR : Hp → List Addr → γ → δ → Prop} {h : List D → List D → Env → W → R γ} {Q' : δ → Hp → Prop}
    (q : TG' T.C RR Wd (fun env w => (evs T.G cl es env w).bind fun ds w => (evs T.G cl ks env w).bind fun fs w => h ds fs env w) σ H Q') :
    TA' T.C Wd (evs T.G cl es) σ H fun vs H1 => TA' T.C Wd (evs T.G cl ks) σ H1 fun zs H2 => vs.length = es.len ∧ zs.length = ks.len ∧ ∃ F ρ env w ds fs, WOk T.C F ρ w H2 ∧ EnvOk T.C F ρ env σ ∧ Reps T.C F ρ ds vs ∧ Reps T.C F ρ fs zs ∧ Res T.C RR Wd F ρ (h ds fs env w) σ Q' := by
  refine TG'.thn (TA'.len (Q := fun _ _ => True) (h := fun ds env w => (evs T.G cl ks env w).bind fun fs w => h ds fs env w) q) fun vs H1 q1 => ?_
  obtain ⟨l1, F, ρ, env, w, ds, k0, en, rs, r⟩ := q1
  refine ⟨F, ρ, env, w, k0, en, ?_⟩
  cases e : evs T.G cl ks env w with
  | bad => rw [e] at r; exact r.elim
  | exc x w1 => rw [e] at r; exact r
  | ok fs w1 =>
    rw [e] at r
    intro F' ρ' H' zs ex k' rz
    exact ⟨l1, by rw [← rz.length]; exact evs_len e, F', ρ', env, w1, ds, fs, k', en.up ex, ex.reps rs, rz, Res.up r ex⟩
theorem r_call {x : Str} {p pos : Pos} {as : List Expr} {kws : List Keyword} {es ks : Es} {g : Nat} {kwi : List Nat} (hx : XOk T k c Wd X) (tb : TbOk T k) (hl : T.gt.lookup x = some g) (hg : isGl c.S x = true) (ho : okName x = true)
    (hsh : (g, es.len, kwi) ∈ T.sh) (hst : as.all (fun e => !isStar e) = true) (hnil : as = [] → es = .nil) (hk : kwNames kws = some (kwi.map fun i => (T.ps g).getD i Str.empty)) (hlk : ks.len = kwi.length)
    (ha : PA X as (TA' T.C Wd (evs T.G (run T.G k) es))) (hkw : PK X kws (TA' T.C Wd (evs T.G (run T.G k) ks))) :
    PE X (.Call (.Name x p) as kws pos) (TE' T.C Wd (ev T.G (run T.G k) (.call g es kwi ks))) := by
  obtain ⟨f, hm, hkp, CV⟩ := tb.call x g es.len kwi hl hsh
  refine ⟨fun pins s σ H Q I q => ?_⟩
  have q := TA'.two (es := es) (ks := ks) (cl := run T.G k) (h := fun ds fs env w => callF T.G (run T.G k) g ds kwi fs w) (TG'.eq q fun env w => by simp only [ev])
  refine wpAny_Call_Name_kw (ld_glob I (hx.gl hg) (by rw [hx.mg]; exact hm) ?_ (okName_eq ho).1)
  obtain ⟨hall, hks, hno⟩ := kwNames_ok (env := X.env) (pos := pos) hk
  have hpl : ((backTo pos (starEach as X.env)).any (·.1) || (backToKw pos (keywordEach kws X.env)).any (·.1.isNone)) = false := by
    rw [starAny hst, hno]; rfl
  have hkp' : PySem.W.keepIn X.K (.ref f) = true := by rw [hx.K]; exact hkp
  have fin : ∀ {vs : List V} {us : List Value} {s1 : Shared} {H1 : Hp}, L2.Inv X pins σ H1 s1 → Vals vs us → (TA' T.C Wd (evs T.G (run T.G k) ks) σ H1 fun zs H2 => vs.length = es.len ∧ zs.length = ks.len ∧ ∃ F ρ env w ds fs, WOk T.C F ρ w H2 ∧ EnvOk T.C F ρ env σ ∧ Reps T.C F ρ ds vs ∧ Reps T.C F ρ fs zs ∧ Res T.C (Rep T.C) Wd F ρ (callF T.G (run T.G k) g ds kwi fs w) σ Q) →
      wpAny (model X.prog X.w) X.A (evalAll ((backToKw pos (keywordEach kws X.env)).map (·.2))) (fun zs s2 => X.K.In s2.heap ∧ wpAny (model X.prog X.w) X.A (PySem.call (.ref f) us (((backToKw pos (keywordEach kws X.env)).filterMap (·.1)).zip zs)) (EP X pins σ Q) X.xe s2) X.xe s1 := fun {vs us s1 H1} I1 rv q1 => by
    refine thn (hkw.run pos pins s1 σ H1 _ I1 q1) fun ws s2 ⟨zs, H2, I2, rz, l1, l2, F, ρ, env, w, ds, fs, k0, en, rd, rf, r⟩ => ⟨I2.kIn, ?_⟩
    rw [hks]
    exact CV.run hx I2 rv rz (by rw [← rv.length]; exact l1) (by rw [← rz.length, l2, hlk]) ⟨F, ρ, w, ds, fs, k0, rd, rf, r⟩
  cases as with
  | nil =>
    refine PySem.W.callWith_KW0 (h₀ := X.base) I.ok.mod.kin hkp' hall ?_ hpl
    obtain rfl := hnil rfl
    obtain ⟨F, ρ, env, w, k0, en, r⟩ := q
    simp only [evs] at r
    exact fin I .nil (r.here k0 .nil)
  | cons a as =>
    simp only [List.all_cons, Bool.and_eq_true, Bool.not_eq_true'] at hst
    refine PySem.W.callWith_KW (h₀ := X.base) I.ok.mod.kin hkp' hall (thn (ha.run pos pins s σ H _ I q) fun us s1 ⟨vs, H1, I1, rv, q1⟩ => ?_) hpl (star1 hst.1)
    exact fin I1 rv q1
end
end Sv
namespace Sv
open PySem L2
theorem WOk.more {C : Cn} {F : Hp} {ρ : List Addr} {w : W} {H : Hp} {p : Addr} {o : HO} (k : WOk C F ρ w H) (n : H p = none) : WOk C F ρ w (upd H p o) :=
  ⟨fun a u e => by rw [upd_ne (ne_of_none (k.frz a u e) n)]; exact k.frz a u e, k.len, k.nd, fun i a c h1 h2 h3 => by
    obtain ⟨f, u, e, q⟩ := k.cel i a c h1 h2 h3
    exact ⟨f, u, by rw [upd_ne (ne_of_none e n)]; exact e, q⟩, fun i a h1 => by
    obtain ⟨u, e⟩ := k.old i a h1
    exact ⟨u, by rw [upd_ne (ne_of_none e n)]; exact e⟩⟩
theorem guards_make {A : Around} {C : Addr} {us : List Value} {kw : List (Str × Value)} (h : A.guards = some []) : (A.under (.builtin "type.__call__" ⟨.ref C :: us, kw⟩)).guards = some [] := by
  have hg : (Code.builtin "type.__call__" ⟨.ref C :: us, kw⟩).isGuard = false := by first | rfl | (simp [Code.isGuard]; done) | decide
  simp [Around.under, Code.guards, pushGuards, h, hg]
section
variable {T : Tb} {k : Nat} {c : Ck} {Wd : WX} {X : Cx}
theorem make_end {C : Cn} {F F' : Hp} {ρ ρ' : List Addr} {w w' : W} {H' : Hp} {cn : Nat} {fs : List (Nat × D)} {x : Addr} {σ : St} {Q : VK} (hn : ρ.length = w.length) (e : Ext F (ρ ++ [x]) F' ρ') (k : WOk C F' ρ' w' H') (hw : w'[w.length]? = some (.ins cn fs))
    (r : Res C (Rep C) Wd F ρ (.ok (.obj cn fs) (w'.take w.length)) σ Q) : Q (.ref x) H' := by
  have hx : ρ'[w.length]? = some x := e.ix (by rw [← hn]; simp)
  obtain ⟨o, ho, q, fa, k2, e2⟩ := k.seal hx hw (by intro z; cases z)
  have k3 := k2.take (n := w.length)
  have hset : (w'.set w.length .dead).take w.length = w'.take w.length := by
    rw [List.take_set_of_le (Nat.le_refl _)]
  rw [hset] at k3
  have ex : Ext F ρ (upd F' x o) (ρ'.take w.length) := by
    refine ⟨fun a u z => e2.f a u (e.f a u z), ?_⟩
    obtain ⟨t, ht⟩ := e.r
    rw [← ht, ← hn, List.append_assoc, List.take_left']
    · exact List.prefix_refl _
    · rfl
  refine r _ _ _ _ ex k3 ?_
  cases q with
  | ins hc rf => exact .obj hc upd_same (rf.up e2.f (fun i a z => by simp at z))
theorem run_make' {cn g n : Nat} {kwi : List Nat} {A ga : Addr} {q : Cls} (hx : XOk T k c Wd X) (hc : T.G.cls cn = some q) (hA : T.C.cA cn = some A) (hi : q.init = some g) (M : Mk T.C.K A ga) (CV : CallV T k g ga (n + 1) kwi)
    {pins : List (Addr × Obj)} {σ : St} {H : Hp} {s : Shared} {us ws : List Value} {vs zs : List V} {Q : VK} (I : L2.Inv X pins σ H s) (r1 : Vals vs us) (rz : Vals zs ws) (l1 : us.length = n) (l2 : ws.length = kwi.length)
    (hq : ∃ F ρ w ds es, WOk T.C F ρ w H ∧ Reps T.C F ρ ds vs ∧ Reps T.C F ρ es zs ∧ Res T.C (Rep T.C) Wd F ρ (makeC T.G (run T.G k) cn ds kwi es w) σ Q) :
    wpAny (model X.prog X.w) X.A (PySem.call (.ref A) us ((kwi.map fun i => (T.ps g).getD i Str.empty).zip ws)) (EP X pins σ Q) X.xe s := by
  obtain ⟨F, ρ, w, ds, es, k0, q1, q2, r⟩ := hq
  have M' : Mk X.K A ga := by rw [hx.K]; exact M
  have hn1 : H s.heap.objs.size = none := I.hok.fresh (Nat.le_refl _)
  have hn2 : H (s.heap.objs.size + 1) = none := I.hok.fresh (Nat.le_succ _)
  have ne : s.heap.objs.size ≠ s.heap.objs.size + 1 := Nat.ne_of_lt (Nat.lt_succ_self _)
  have I2 := Inv.made (C := A) I
  have e0 := (hx.env0 I2).make A us ((kwi.map fun i => (T.ps g).getD i Str.empty).zip ws)
  have k1 : WOk T.C F ρ w (upd H s.heap.objs.size (.own (s.heap.objs.size + 1))) := k0.more hn1
  have hn3 : (upd H s.heap.objs.size (.own (s.heap.objs.size + 1))) (s.heap.objs.size + 1) = none := by rw [upd_ne (Ne.symm ne)]; exact hn2
  have k2 : WOk T.C F (ρ ++ [s.heap.objs.size + 1]) (w ++ [.ins cn []]) (upd (upd H s.heap.objs.size (.own (s.heap.objs.size + 1))) (s.heap.objs.size + 1) (.ins A s.heap.objs.size [])) := k1.cell hn3 (.ins hA .nil)
  have ex : Ext F ρ F (ρ ++ [s.heap.objs.size + 1]) := Ext.cell
  have hself : Rep T.C F (ρ ++ [s.heap.objs.size + 1]) (.cel w.length) (.ref (s.heap.objs.size + 1)) := .cel (by rw [← k0.len]; simp)
  unfold makeC at r
  simp only [hc, hi] at r
  have hh : Res T.C (Rep T.C) (fun cl dd _ H => L2.WE Wd σ cl dd H) F (ρ ++ [s.heap.objs.size + 1]) (callF T.G (run T.G k) g (.cel w.length :: ds) kwi es (w ++ [.ins cn []])) [] (fun v H3 => v = .non ∧ Q (.ref (s.heap.objs.size + 1)) H3) := by
    cases hcc : callF T.G (run T.G k) g (.cel w.length :: ds) kwi es (w ++ [.ins cn []]) with
    | bad => rw [hcc] at r; exact r.elim
    | exc e w' =>
      rw [hcc] at r
      exact fun F' ρ' H' cl dd e' o q => r F' ρ' H' cl dd (ex.trans e') o q
    | ok d w' =>
      rw [hcc] at r
      simp only [R.bind] at r
      intro F' ρ' H' v e' o' rv
      cases d with
      | non =>
        cases rv
        refine ⟨rfl, ?_⟩
        simp only at r
        cases hfz : q.frz with
        | false =>
          simp only [hfz, Bool.false_eq_true, if_false] at r
          exact r F' ρ' H' _ (ex.trans e') o' (e'.rep hself)
        | true =>
          simp only [hfz, if_true] at r
          split at r
          · rename_i c' fs hw
            split at r
            · rename_i hcc'
              subst hcc'
              exact make_end (Wd := Wd) k0.len e' o' hw r
            · exact r.elim
          · exact r.elim
      | _ => exact r.elim
  have rn := CV _ X.stack _ _ (.ref (s.heap.objs.size + 1) :: us) ws (.ref (s.heap.objs.size + 1) :: vs) zs _ (L2.WE Wd σ) ((show Room (2 * k + 1) X.A from hx.room).make A us ((kwi.map fun i => (T.ps g).getD i Str.empty).zip ws)) (guards_make hx.gd) e0
    (.cons rfl r1) rz (by rw [List.length_cons, l1]) l2 ⟨F, _, _, .cel w.length :: ds, es, k2, .cons hself (ex.reps q1), ex.reps q2, hh⟩
  refine wpAny_call (make_map (f := ga) I.kIn M'.makes M'.init (beq_iff_eq.mp M'.fn) ?_)
  rw [hx.model]
  refine codeAny_mono rn fun rr s' hq' => ?_
  cases rr with
  | error e =>
    exact passAt hx.tk σ pins _ _ e s' I2 (by rw [hx.prog, hx.w]; exact hq')
  | ok fl =>
    cases fl with
    | ret u =>
      obtain ⟨v, H', I3, rv, ev, q3⟩ := I2.after (by rw [hx.prog, hx.w]; exact hq')
      subst ev
      exact ⟨rv, ⟨V.ref (s.heap.objs.size + 1), H', I3, rfl, q3⟩⟩
    | next => exact False.elim hq'
    | brk => exact False.elim hq'
    | cont => exact False.elim hq'
theorem r_make {x : Str} {p pos : Pos} {as : List Expr} {kws : List Keyword} {es ks : Es} {cn g : Nat} {q0 : Cls} {kwi : List Nat} (hx : XOk T k c Wd X) (tb : TbOk T k) (hl : T.gt.lookup x = some cn) (hc : T.G.cls cn = some q0) (hi : q0.init = some g) (hg : isGl c.S x = true) (ho : okName x = true)
    (hsh : (g, es.len + 1, kwi) ∈ T.mh) (hst : as.all (fun e => !isStar e) = true) (hnil : as = [] → es = .nil) (hk : kwNames kws = some (kwi.map fun i => (T.ps g).getD i Str.empty)) (hlk : ks.len = kwi.length)
    (ha : PA X as (TA' T.C Wd (evs T.G (run T.G k) es))) (hkw : PK X kws (TA' T.C Wd (evs T.G (run T.G k) ks))) :
    PE X (.Call (.Name x p) as kws pos) (TE' T.C Wd (ev T.G (run T.G k) (.make cn es kwi ks))) := by
  obtain ⟨A, hA, hmg, CO⟩ := tb.cls cn q0 hc
  have hm := hmg x hl
  obtain ⟨ga, M, CV⟩ := CO.make g _ kwi hi hsh
  have hkp := M.kp
  refine ⟨fun pins s σ H Q I q => ?_⟩
  have q := TA'.two (es := es) (ks := ks) (cl := run T.G k) (h := fun ds fs env w => makeC T.G (run T.G k) cn ds kwi fs w) (TG'.eq q fun env w => by simp only [ev])
  refine wpAny_Call_Name_kw (ld_glob I (hx.gl hg) (by rw [hx.mg]; exact hm) ?_ (okName_eq ho).1)
  obtain ⟨hall, hks, hno⟩ := kwNames_ok (env := X.env) (pos := pos) hk
  have hpl : ((backTo pos (starEach as X.env)).any (·.1) || (backToKw pos (keywordEach kws X.env)).any (·.1.isNone)) = false := by
    rw [starAny hst, hno]; rfl
  have hkp' : PySem.W.keepIn X.K (.ref A) = true := by rw [hx.K]; exact hkp
  have fin : ∀ {vs : List V} {us : List Value} {s1 : Shared} {H1 : Hp}, L2.Inv X pins σ H1 s1 → Vals vs us → (TA' T.C Wd (evs T.G (run T.G k) ks) σ H1 fun zs H2 => vs.length = es.len ∧ zs.length = ks.len ∧ ∃ F ρ env w ds fs, WOk T.C F ρ w H2 ∧ EnvOk T.C F ρ env σ ∧ Reps T.C F ρ ds vs ∧ Reps T.C F ρ fs zs ∧ Res T.C (Rep T.C) Wd F ρ (makeC T.G (run T.G k) cn ds kwi fs w) σ Q) →
      wpAny (model X.prog X.w) X.A (evalAll ((backToKw pos (keywordEach kws X.env)).map (·.2))) (fun zs s2 => X.K.In s2.heap ∧ wpAny (model X.prog X.w) X.A (PySem.call (.ref A) us (((backToKw pos (keywordEach kws X.env)).filterMap (·.1)).zip zs)) (EP X pins σ Q) X.xe s2) X.xe s1 := fun {vs us s1 H1} I1 rv q1 => by
    refine thn (hkw.run pos pins s1 σ H1 _ I1 q1) fun ws s2 ⟨zs, H2, I2, rz, l1, l2, F, ρ, env, w, ds, fs, k0, en, rd, rf, r⟩ => ⟨I2.kIn, ?_⟩
    rw [hks]
    exact run_make' hx hc hA hi M CV I2 rv rz (by rw [← rv.length]; exact l1) (by rw [← rz.length, l2, hlk]) ⟨F, ρ, w, ds, fs, k0, rd, rf, r⟩
  cases as with
  | nil =>
    refine PySem.W.callWith_KW0 (h₀ := X.base) I.ok.mod.kin hkp' hall ?_ hpl
    obtain rfl := hnil rfl
    obtain ⟨F, ρ, env, w, k0, en, r⟩ := q
    simp only [evs] at r
    exact fin I .nil (r.here k0 .nil)
  | cons a as =>
    simp only [List.all_cons, Bool.and_eq_true, Bool.not_eq_true'] at hst
    refine PySem.W.callWith_KW (h₀ := X.base) I.ok.mod.kin hkp' hall (thn (ha.run pos pins s σ H _ I q) fun us s1 ⟨vs, H1, I1, rv, q1⟩ => ?_) hpl (star1 hst.1)
    exact fin I1 rv q1
end
end Sv

set_option Elab.async false
set_option linter.all false
set_option maxRecDepth 100000
set_option maxHeartbeats 4000000
namespace Sv
open PySem L2
theorem nmN {x : Str} (h : okName x = true) : x ≠ "__name__" := (okName_eq h).2.2
section
variable {T : Tb} {k : Nat} {c : Ck} {Wd : WX} {X : Cx}
theorem pe_callV {x : Str} {p pos : Pos} {e : Expr} {es : List Expr} {t : TA} {r : List V → Hp → VK → Prop} {f : Value} (hf : (∃ id, f = .builtin id) ∨ ∃ T, f = .type T) (hc : CallR X f r) (hg : Gl X x) (hm : X.mg x = none) (hv : bootBuiltins x = some f) (ha : PA X (e :: es) t) (ho : okName x = true)
    (hs : (e :: es).all (fun e => !isStar e) = true) : PE X (.Call (.Name x p) (e :: es) [] pos) (tCB r t) := by
  have h0 : starEach (e :: es) X.env = (false, eval e X.env) :: starEach es X.env := by
    simp only [List.all_cons, Bool.and_eq_true, Bool.not_eq_true'] at hs
    exact star1 hs.1
  have h1 : (backTo pos (starEach es X.env)).any (·.1) = false := by
    simp only [List.all_cons, Bool.and_eq_true] at hs
    exact starAny hs.2
  rcases hf with ⟨id, rfl⟩ | ⟨T, rfl⟩
  · exact pe_callB hc hg hm hv ha (nmN ho) (okName_eq ho).1 h0 h1
  · exact pe_callTy hc hg hm hv ha (nmN ho) (okName_eq ho).1 h0 h1
theorem biV_sort (b : BI) : (∃ id, biV b = .builtin id) ∨ ∃ T, biV b = .type T := by
  cases b <;> first | exact .inl ⟨_, rfl⟩ | exact .inr ⟨_, rfl⟩
theorem bi_res {C : Cn} {F : Hp} {ρ : List Addr} {b : BI} {G : Prog} {ds : List D} {w : W} {σ : St} {Q : VK} (r : Res C (Rep C) Wd F ρ (biF G b ds w) σ Q) (hn : ∀ e w', biF G b ds w ≠ .exc e w') : ∃ d w', biF G b ds w = .ok d w' ∧ Aft C F ρ d w' Q := by
  cases e : biF G b ds w with
  | ok d w' => rw [e] at r; exact ⟨d, w', rfl, r⟩
  | exc x w' => exact absurd e (hn x w')
  | bad => rw [e] at r; exact r.elim
theorem lift_noexc {α : Type} {o : Option α} {w w' : W} {e : D} : R.lift o w ≠ .exc e w' := by cases o <;> intro h <;> cases h
theorem newL_noexc {m : Bool} {xs : List D} {w w' : W} {e : D} : newL m xs w ≠ .exc e w' := by
  unfold newL
  intro h
  split at h
  · cases h
  · split at h
    · split at h <;> cases h
    · cases h
theorem biF_noexc {G : Prog} {b : BI} {ds : List D} {w : W} : ∀ e w', biF G b ds w ≠ .exc e w' := by
  intro e w'
  unfold biF
  split <;> first | exact lift_noexc | exact newL_noexc | (intro h; cases h; done) | (split <;> first | (intro h; cases h; done) | exact lift_noexc | (split <;> (intro h; cases h; done)))
theorem r_bi {x : Str} {p pos : Pos} {a : Expr} {as : List Expr} {es : Es} {b : BI} {cl : CallT} (hx : XOk T k c Wd X) (tb : TbOk T k) (hcalm : c.calm = true) (hg : isGl c.S x = true) (hfree : x ∈ T.bl) (hv : bootBuiltins x = some (biV b)) (ho : okName x = true)
    (hs : (a :: as).all (fun e => !isStar e) = true) (ha : PA X (a :: as) (TA' T.C Wd (evs T.G cl es))) : PE X (.Call (.Name x p) (a :: as) [] pos) (TE' T.C Wd (ev T.G cl (.bi b es))) := by
  have cb := call_bi (X := X) (C := T.C) (G := T.G) hx.K tb.grep (hx.calm.trans hcalm) hx.gd (by have := hx.units; omega) b
  refine PE.imp (pe_callV (biV_sort b) cb (hx.gl hg) (by rw [hx.mg]; exact tb.free x hfree) hv ha ho hs) fun σ H Q q => ?_
  have q := TG'.eq (g := fun env w => (evs T.G cl es env w).bind fun ds w => (fun ds env w => biF T.G b ds w) ds env w) q fun env w => by simp only [ev]
  refine TG'.thn (TG'.one (RA := Reps T.C) q) fun vs H1 q1 => ?_
  obtain ⟨F, ρ, env, w, ds, k0, en, rs, r⟩ := q1
  obtain ⟨d, w', e, aft⟩ := bi_res r biF_noexc
  exact ⟨F, ρ, w, ds, d, w', k0, rs, e, aft⟩
theorem bmF_noexc {m : BM} {o : D} {ds : List D} {w : W} : ∀ e w', bmF m o ds w ≠ .exc e w' := by
  intro e w'
  unfold bmF
  split <;> first | (intro h; cases h; done) | (repeat' split) <;> (intro h; cases h)
theorem ev_bm (G : Prog) (cl : CallT) (m : BM) (o : E) (es : Es) (env : Env) (w : W) : ev G cl (.bm m o es) env w = (ev G cl o env w).bind fun o w => (fun o env w => if bmTy m o w then (evs G cl es env w).bind fun ds w => bmF m o ds w else .bad) o env w := by simp only [ev]
theorem bm_slot (m : BM) (hm : bmId m ≠ "") : PlainAttrs (bmT m) ∧ Slot (bmT m) (Str.ofString (bmS m)) (bmId m) ∧ typeOf (.builtin (bmId m)) = pure (.type "method_descriptor") := by
  cases m <;> first | (exfalso; exact hm rfl) | skip
  · exact ⟨F.plainAttrs_str, F.slot_str_split, F.type_str_split⟩
  · exact ⟨F.plainAttrs_str, F.slot_str_join, F.type_str_join⟩
  · exact ⟨F.plainAttrs_list, F.slot_list_append, F.type_list_append⟩
  · exact ⟨F.plainAttrs_list, F.slot_list_index, F.type_list_index⟩
theorem r_bm {o a : Expr} {as : List Expr} {apos pos : Pos} {eo : E} {es : Es} {m : BM} {cl : CallT} (hx : XOk T k c Wd X) (hm : bmId m ≠ "") (hsup : notSuper o = true) (hs : (a :: as).all (fun e => !isStar e) = true) (hl : (apos.endLine == pos.line) = true) (hlen : as.length < 20)
    (ho : PE X o (TE' T.C Wd (ev T.G cl eo))) (ha : PA X (a :: as) (TA' T.C Wd (evs T.G cl es))) : PE X (.Call (.Attribute o (Str.ofString (bmS m)) apos) (a :: as) [] pos) (TE' T.C Wd (ev T.G cl (.bm m eo es))) := by
  obtain ⟨pa, sl, ty⟩ := bm_slot m hm
  have hs' := hs
  simp only [List.all_cons, Bool.and_eq_true, Bool.not_eq_true'] at hs
  have hall : ∀ (l : List Expr), l.all (fun e => !isStar e) = true → (backTo pos (starEach l X.env)).all (fun x => !x.1) = true := by
    intro l h
    induction l with
    | nil => rfl
    | cons e r ih =>
      simp only [List.all_cons, Bool.and_eq_true, Bool.not_eq_true'] at h
      rw [star1 h.1]
      show (!false && (backTo pos (starEach r X.env)).all (fun x => !x.1)) = true
      rw [ih h.2]; rfl
  have hfew : ((backTo pos (starEach (a :: as) X.env)).all (fun x => !x.1) && (backToKw pos (keywordEach [] X.env)).all (fun x => x.1.isSome)
      && decide ((a :: as).length + ([] : List Keyword).length + (if ([] : List Keyword).isEmpty then 0 else 1) < 30)) = true := by
    rw [hall _ hs']
    simp only [Bool.true_and, Bool.and_eq_true, decide_eq_true_eq]
    refine ⟨rfl, ?_⟩
    simp only [List.length_cons, List.length_nil, List.isEmpty_nil, if_true]
    omega
  refine PE.imp (pe_bm pa sl ty (mt_bm (C := T.C) hx.K m hm) ho ha (attBase hsup) hfew hl (star1 hs.1) (starAny hs.2)) fun σ H Q q => ?_
  refine TG'.thn (TG'.one (RA := Rep T.C) (TG'.eq q fun env w => ev_bm _ _ _ _ _ _ _)) fun v H1 q1 => ?_
  obtain ⟨F, ρ, env, w, d, k0, en, rd, r⟩ := q1
  split at r
  · rename_i hty
    refine ⟨bm_ty k0 rd hty, F, ρ, env, w, k0, en, (Res.bind (RR := Reps T.C) r).mono ?_⟩
    rintro vs H2 ⟨F2, r2, ds, w2, e2, k2, rs, r⟩
    cases e : bmF m d ds w2 with
    | ok d' w' => rw [e] at r; exact ⟨F2, r2, w2, d, ds, d', w', k2, e2.rep rd, rs, e, r.aft⟩
    | exc x w' => exact absurd e (bmF_noexc _ _)
    | bad => rw [e] at r; exact r.elim
  · exact r.elim
def jS (C : Cn) (Wd : WX) (G : Prog) (cl : CallT) : Es → List TE
  | .nil => []
  | .cons e r => TE' C Wd (ev G cl e) :: jS C Wd G cl r
theorem tJs_of {C : Cn} {G : Prog} {cl : CallT} : ∀ (es : Es) (acc : Tx) {σ : St} {H : Hp} {Q : VK}, TE' C Wd (evJ G cl es acc) σ H Q → tJs (jS C Wd G cl es) (toStr acc) σ H fun y H1 => Q (.str y) H1
  | .nil, acc, σ, H, Q, q => by
    obtain ⟨F, ρ, env, w, k0, en, r⟩ := q
    simp only [evJ] at r
    exact r.here k0 (.str _)
  | .cons e r, acc, σ, H, Q, q => by
    have q := TG'.eq (g := fun env w => (ev G cl e env w).bind fun x w => (fun x env w => match x with
      | .str y => if acc.length + y.length ≤ 16000000 then evJ G cl r (acc ++ y) env w else .bad
      | _ => .bad) x env w) q fun env w => by simp only [evJ] <;> rfl
    refine TG'.thn (TG'.one (RA := Rep C) q) fun v H1 q1 => ?_
    obtain ⟨F, ρ, env, w, x, k0, en, rx, q1⟩ := q1
    split at q1
    · cases rx
      rename_i y
      split at q1
      · rename_i hl
        refine ⟨_, rfl, ?_, ?_⟩
        · rw [toStr_append, toStr_length, List.length_append]; exact small16 hl
        · rw [toStr_append]
          exact tJs_of r (acc ++ y) ⟨F, ρ, env, w, k0, en, q1⟩
      · exact q1.elim
    · exact q1.elim
theorem r_fst {a b : Expr} {as : List Expr} {es : Es} {p : Pos} {cl : CallT} (h : PJ X (a :: b :: as) (jS T.C Wd T.G cl es)) : PE X (.JoinedStr (a :: b :: as) p) (TE' T.C Wd (ev T.G cl (.fst es))) := by
  refine PE.imp (pe_joined h) fun σ H Q q => ?_
  have q := TG'.eq (g := evJ T.G cl es []) q fun env w => by simp only [ev]
  exact tJs_of es [] q
theorem natAbs_log {i : Int} (h : i.natAbs < 2 ^ 1900) : i.natAbs.log2 < 1920 := by
  by_cases h0 : i.natAbs = 0
  · rw [h0]; decide
  · exact Nat.lt_of_lt_of_le ((Nat.log2_lt h0).mpr h) (by decide)
theorem r_fmt {a : Expr} {ea : E} {p : Pos} {cl : CallT} (ha : PE X a (TE' T.C Wd (ev T.G cl ea))) : PE X (.FormattedValue a (-1) none p) (TE' T.C Wd (ev T.G cl (.fmt ea))) := by
  refine PE.imp (pe_fmt ha) fun σ H Q q => ?_
  have q := TG'.eq (g := fun env w => (ev T.G cl ea env w).bind fun x w => (fun x env w => R.lift (fmtF x) w) x env w) q fun env w => by simp only [ev]
  refine TG'.thn (TG'.one (RA := Rep T.C) q) fun v H1 q1 => ?_
  obtain ⟨F, ρ, env, w, x, k0, en, rx, r⟩ := q1
  obtain ⟨d, e, r⟩ := r.lift
  unfold fmtF at e
  split at e
  · split at e
    · rename_i hl
      cases e; cases rx
      exact .inl ⟨_, rfl, by rw [toStr_length]; exact small16 hl, r.here k0 (.str _)⟩
    · cases e
  · split at e
    · rename_i hl
      cases e; cases rx
      refine .inr ⟨_, rfl, natAbs_log hl, ?_⟩
      have := intTx_eq
      rename_i i _
      have h2 : (toString i : Str) = toStr (intTx i) := intTx_eq i
      rw [h2]
      exact r.here k0 (.str _)
    · cases e
  · cases e
end
end Sv

set_option Elab.async false
set_option linter.all false
set_option maxRecDepth 100000
set_option maxHeartbeats 4000000
namespace Sv
open PySem L2
section
variable {T : Tb} {k : Nat} {c : Ck} {Wd : WX} {X : Cx}
def isN (T : Tb) (c : Ck) (e : Expr) (t : Sum BT Nat) : Bool := match vName e with
  | some x => isGl c.S x && okName x && (match t with
    | .inl b => decide (x ∈ T.bl) && decide (x = Str.ofString (btS b))
    | .inr g => decide (T.gt.lookup x = some g) && (T.G.cls g).isSome)
  | none => false
theorem isN_ok (hx : XOk T k c Wd X) (tb : TbOk T k) {e : Expr} {t : Sum BT Nat} (h : isN T c e t = true) : ∃ v, PE X e (tC v) ∧ ClsV v (T.tv t) := by
  unfold isN at h
  cases hv : vName e with
  | none => rw [hv] at h; cases h
  | some x =>
    obtain ⟨p, rfl⟩ := vName_eq hv
    rw [hv] at h
    simp only [Bool.and_eq_true] at h
    obtain ⟨⟨hg, ho⟩, h⟩ := h
    cases t with
    | inl b =>
      simp only [Bool.and_eq_true, decide_eq_true_eq] at h
      obtain ⟨h1, rfl⟩ := h
      refine ⟨.ty (btS b), pe_bltn (hx.gl hg) (by rw [hx.mg]; exact tb.free _ h1) ?_ rfl (nmN ho) (okName_eq ho).1, .ty _⟩
      cases b <;> rfl
    | inr g =>
      simp only [Bool.and_eq_true, decide_eq_true_eq] at h
      obtain ⟨h1, h2⟩ := h
      obtain ⟨q, hq⟩ := Option.isSome_iff_exists.mp h2
      obtain ⟨A, hA, hm, _⟩ := tb.cls g q hq
      refine ⟨.ref A, pe_glob (hx.gl hg) (by rw [hx.mg]; exact hm x h1) rfl (okName_eq ho).1, ?_⟩
      unfold Tb.tv
      simp only [hA]
      exact .own A
def isNs (T : Tb) (c : Ck) : List Expr → List (Sum BT Nat) → Bool
  | [], [] => true
  | e :: es, t :: ts => isN T c e t && isNs T c es ts
  | _, _ => false
def tCs : List V → TA
  | [] => tNil
  | v :: vs => tCons (tC v) (tCs vs)
theorem tCs_of {σ : St} {H : Hp} : ∀ {vs : List V} {Q : List V → Hp → Prop}, Q vs H → tCs vs σ H Q
  | [], _, h => h
  | v :: vs, Q, h => tCs_of (vs := vs) (Q := fun xs H => Q (v :: xs) H) h
theorem isN_star {e : Expr} {t : Sum BT Nat} (h : isN T c e t = true) : isStar e = false := by
  unfold isN at h
  cases hv : vName e with
  | none => rw [hv] at h; cases h
  | some x => obtain ⟨p, rfl⟩ := vName_eq hv; rfl
theorem isNs_ok (hx : XOk T k c Wd X) (tb : TbOk T k) : ∀ {es : List Expr} {ts : List (Sum BT Nat)}, isNs T c es ts = true → ∃ vs, PA X es (tCs vs) ∧ Paired ClsV vs (ts.map T.tv) ∧ vs.length = es.length
  | [], [], _ => ⟨[], pa_nil, .nil, rfl⟩
  | [], _ :: _, h => by cases h
  | _ :: _, [], h => by cases h
  | e :: es, t :: ts, h => by
    simp only [isNs, Bool.and_eq_true] at h
    obtain ⟨v, h1, h2⟩ := isN_ok hx tb h.1
    obtain ⟨vs, h3, h4, h5⟩ := isNs_ok hx tb h.2
    exact ⟨v :: vs, pa_cons h1 h3 (star1 (isN_star h.1)), .cons h2 h4, by rw [List.length_cons, h5]; rfl⟩
theorem kitAny_one {K : PySem.W.Frag} {t u : Value} {b : Bool} (h : PySem.W.kitAny K t [u] = some b) : PySem.W.kitOne K t u = some b := by
  unfold PySem.W.kitAny at h
  cases e : PySem.W.kitOne K t u with
  | none => rw [e] at h; cases h
  | some x =>
    rw [e] at h
    cases x with
    | true => exact h
    | false => exact h
theorem r_isi1 {x : Str} {p pos : Pos} {a e : Expr} {ea : E} {t : Sum BT Nat} {one : Bool} {cl : CallT} (hx : XOk T k c Wd X) (tb : TbOk T k) (hg : isGl c.S x = true) (hfree : x ∈ T.bl) (hv : bootBuiltins x = some (.builtin "isinstance")) (ho : okName x = true)
    (hst : isStar a = false) (ht : isN T c e t = true) (ha : PE X a (TE' T.C Wd (ev T.G cl ea))) : PE X (.Call (.Name x p) [a, e] [] pos) (TE' T.C Wd (ev T.G cl (.isi ea [t] one))) := by
  obtain ⟨v, h1, h2⟩ := isN_ok hx tb ht
  have hs2 := isN_star ht
  have pa : PA X [a, e] (tCons (TE' T.C Wd (ev T.G cl ea)) (tCons (tC v) tNil)) := pa_cons ha (pa_cons h1 pa_nil (star1 hs2)) (star1 hst)
  refine PE.imp (pe_callV (.inl ⟨_, rfl⟩) call_isi (hx.gl hg) (by rw [hx.mg]; exact tb.free x hfree) hv pa ho (by simp [hst, hs2])) fun σ H Q q => ?_
  have q := TG'.eq (g := fun env w => (ev T.G cl ea env w).bind fun x w => (fun x env w => R.lift ((isTs T.G x [t]).map .bl) w) x env w) q fun env w => by simp only [ev]
  refine TG'.thn (TG'.one (RA := Rep T.C) q) fun v1 H1 q1 => ?_
  obtain ⟨F, ρ, env, w, d, k0, en, rd, r⟩ := q1
  obtain ⟨dd, e1, r⟩ := r.lift
  cases hb : isTs T.G d [t] with
  | none => rw [hb] at e1; cases e1
  | some b =>
    rw [hb] at e1; cases e1
    obtain ⟨ty, h3, h4⟩ := tb.isi d [t] b F ρ w H1 v1 k0 rd (by simp) hb
    exact ⟨v1, v, ty, T.tv t, b, rfl, h2, hx.K ▸ h3, by rw [hx.K]; exact kitAny_one h4, r.here k0 (.bl _)⟩
theorem r_isiT {x : Str} {p pos p2 : Pos} {a : Expr} {es : List Expr} {x1 : Nat} {ea : E} {ts : List (Sum BT Nat)} {one : Bool} {cl : CallT} (hx : XOk T k c Wd X) (tb : TbOk T k) (hg : isGl c.S x = true) (hfree : x ∈ T.bl) (hv : bootBuiltins x = some (.builtin "isinstance")) (ho : okName x = true)
    (hst : isStar a = false) (ht : isNs T c es ts = true) (hne : ts ≠ []) (hl : es.length ≤ 100) (ha : PE X a (TE' T.C Wd (ev T.G cl ea))) : PE X (.Call (.Name x p) [a, .Tuple es x1 p2] [] pos) (TE' T.C Wd (ev T.G cl (.isi ea ts one))) := by
  obtain ⟨vs, h1, h2, hlen⟩ := isNs_ok hx tb ht
  have pa : PA X [a, .Tuple es x1 p2] (tCons (TE' T.C Wd (ev T.G cl ea)) (tCons (tTup (tCs vs)) tNil)) := pa_cons ha (pa_cons (pe_tup h1) pa_nil rfl) (star1 hst)
  refine PE.imp (pe_callV (.inl ⟨_, rfl⟩) call_isiT (hx.gl hg) (by rw [hx.mg]; exact tb.free x hfree) hv pa ho (by show (!isStar a && (!isStar (.Tuple es x1 p2) && true)) = true; rw [hst]; rfl)) fun σ H Q q => ?_
  have q := TG'.eq (g := fun env w => (ev T.G cl ea env w).bind fun x w => (fun x env w => R.lift ((isTs T.G x ts).map .bl) w) x env w) q fun env w => by simp only [ev]
  refine TG'.thn (TG'.one (RA := Rep T.C) q) fun v1 H1 q1 => ?_
  obtain ⟨F, ρ, env, w, d, k0, en, rd, r⟩ := q1
  obtain ⟨dd, e1, r⟩ := r.lift
  cases hb : isTs T.G d ts with
  | none => rw [hb] at e1; cases e1
  | some b =>
    rw [hb] at e1; cases e1
    refine tCs_of (vs := vs) ⟨small16 (by omega), fun tp htp => ?_⟩
    have k1 := k0.more (p := tp) (o := .tup vs) htp
    obtain ⟨ty, h3, h4⟩ := tb.isi d ts b F ρ w _ v1 k1 rd hne hb
    exact ⟨v1, tp, vs, ty, ts.map T.tv, b, rfl, upd_same, h2, hx.K ▸ h3, by rw [hx.K]; exact h4, r.here k1 (.bl _)⟩
end
end Sv

set_option Elab.async false
set_option linter.all false
set_option maxRecDepth 100000
set_option maxHeartbeats 4000000
namespace Sv
open PySem L2
structure Wk (C : Cn) (F : Hp) (ρ : List Addr) (J : L2.It) (xs : List D) : Prop where
  go : ∀ i H, (∀ a o, F a = some o → H a = some o) → i < xs.length → J.go i H
  stop : ∀ i H, (∀ a o, F a = some o → H a = some o) → xs.length ≤ i → J.stop i H
  yld : ∀ i H F1 r1 w x H' d, WOk C F1 r1 w H → Ext F ρ F1 r1 → xs[i]? = some d → J.yld i H x H' → ∃ F2, WOk C F2 r1 w H' ∧ Ext F1 r1 F2 r1 ∧ Rep C F2 r1 d x
theorem Wk.up {C : Cn} {F F' : Hp} {ρ ρ' : List Addr} {J : L2.It} {xs : List D} (h : Wk C F ρ J xs) (e : Ext F ρ F' ρ') : Wk C F' ρ' J xs :=
  ⟨fun i H k hi => h.go i H (fun a o z => k a o (e.f a o z)) hi, fun i H k hi => h.stop i H (fun a o z => k a o (e.f a o z)) hi, fun i H F1 r1 w x H' d k e1 => h.yld i H F1 r1 w x H' d k (e.trans e1)⟩
abbrev TI' (C : Cn) (Wd : WX) (f : Env → W → R (List D)) : TI := TG' C (fun F ρ xs J => Wk C F ρ J xs) Wd f
section
variable {T : Tb} {k : Nat} {c : Ck} {Wd : WX} {X : Cx}
theorem wk_lst {C : Cn} {F : Hp} {ρ : List Addr} {a : Addr} {xs : List D} {vs : List V} (h : ∀ H, (∀ a o, F a = some o → H a = some o) → SqL C.K H a vs) (r : Reps C F ρ xs vs) : Wk C F ρ (Itl C.K a) xs := by
  refine ⟨fun i H k hi => ?_, fun i H k hi => ⟨vs, h H k, by rw [← r.length]; exact hi⟩, fun i H F1 r1 w x H' d k e1 hd y => ?_⟩
  · have hi' : i < vs.length := by rw [← r.length]; exact hi
    exact ⟨vs, vs[i], h H k, List.getElem?_eq_getElem hi'⟩
  · obtain ⟨rfl, y⟩ := y
    obtain ⟨v, hv, rv⟩ := r.get hd
    have hq := h H' fun a o z => k.frz a o (e1.f a o z)
    have := y vs hq
    rw [hv] at this; cases this
    exact ⟨F1, k, .refl, e1.rep rv⟩
theorem RepK.len {C : Cn} {F : Hp} {ρ : List Addr} : ∀ {kvs : List (D × D)} {es : List (Key × V)}, RepK C F ρ kvs es → kvs.length = es.length
  | _, _, .nil => rfl
  | _, _, .cons _ _ r => by simp [RepK.len r]
theorem RepK.keyAt {C : Cn} {F : Hp} {ρ : List Addr} : ∀ {kvs : List (D × D)} {es : List (Key × V)}, RepK C F ρ kvs es → ∀ {i : Nat} {d : D} {y : Key} {v : V}, (kvs.map (·.1))[i]? = some d → es[i]? = some (y, v) → keyD d = some y
  | _, _, .nil, i, d, y, v, h, _ => by simp at h
  | _, _, .cons h1 _ r, 0, d, y, v, h, h' => by simp at h h'; obtain ⟨rfl, rfl⟩ := h'; subst h; exact h1
  | _, _, .cons _ _ r, i + 1, d, y, v, h, h' => RepK.keyAt r (by simpa using h) (by simpa using h')
theorem rep_key {C : Cn} {F : Hp} {ρ : List Addr} {d : D} {y : Key} (h : keyD d = some y) : Rep C F ρ d (kV y) := by
  cases d <;> simp only [keyD] at h <;> cases h
  · exact .int _
  · exact .str _
theorem wk_keys {C : Cn} {F : Hp} {ρ : List Addr} {a : Addr} {od : Obj} {kvs : List (D × D)} {es : List (Key × V)} (h : F a = some (.frz od (.dK es))) (r : RepK C F ρ kvs es) : Wk C F ρ (Itk a od es) (kvs.map (·.1)) := by
  have hl := r.len
  refine ⟨fun i H k hi => ⟨k _ _ h, by simpa [← hl] using hi⟩, fun i H k hi => ⟨k _ _ h, by simpa [← hl] using hi⟩, fun i H F1 r1 w x H' d k e1 hd y => ?_⟩
  obtain ⟨rfl, ky, v, h1, rfl⟩ := y
  exact ⟨F1, k, .refl, rep_key (r.keyAt hd h1)⟩
theorem wk_tup {C : Cn} {F : Hp} {ρ : List Addr} {a : Addr} {xs : List D} {vs : List V} (h : SqT C.K F a vs) (r : Reps C F ρ xs vs) : Wk C F ρ (Itt C.K a) xs := by
  refine ⟨fun i H k hi => ?_, fun i H k hi => ⟨vs, sqT_up k h, by rw [← r.length]; exact hi⟩, fun i H F1 r1 w x H' d k e1 hd y => ?_⟩
  · have hi' : i < vs.length := by rw [← r.length]; exact hi
    exact ⟨vs, vs[i], sqT_up k h, List.getElem?_eq_getElem hi'⟩
  · obtain ⟨rfl, y⟩ := y
    obtain ⟨v, hv, rv⟩ := r.get hd
    have hq := sqT_up (K := C.K) (fun a o z => k.frz a o (e1.f a o z)) h
    have := y vs hq
    rw [hv] at this; cases this
    exact ⟨F1, k, .refl, e1.rep rv⟩
theorem wk_str {C : Cn} {F : Hp} {ρ : List Addr} (s : Tx) : Wk C F ρ (L2.Its (toStr s)) (s.map fun c => .str [c]) := by
  refine ⟨fun i H k hi => ?_, fun i H k hi => ?_, fun i H F1 r1 w x H' d k e1 hd y => ?_⟩
  · show i < (toStr s).cps.size
    simpa [toStr] using hi
  · show (toStr s).cps.size ≤ i
    simpa [toStr] using hi
  · obtain ⟨rfl, cc, hc, rfl⟩ := y
    have : s[i]? = some cc := by simpa [toStr] using hc
    simp only [List.getElem?_map, this, Option.map_some, Option.some.injEq] at hd
    subst hd
    exact ⟨F1, k, .refl, .str _⟩
theorem wk_range {C : Cn} {F : Hp} {ρ : List Addr} (lo : Int) (n : Nat) : Wk C F ρ (L2.Itr lo n) (rangeD lo n) := by
  have hl : (rangeD lo n).length = n := by simp [rangeD]
  refine ⟨fun i H k hi => by rw [hl] at hi; exact hi, fun i H k hi => by rw [hl] at hi; exact hi, fun i H F1 r1 w x H' d k e1 hd y => ?_⟩
  obtain ⟨rfl, rfl⟩ := y
  have hi : i < n := by rw [← hl]; exact (List.getElem?_eq_some_iff.mp hd).1
  simp only [rangeD, List.getElem?_map, List.getElem?_range hi, Option.map_some, Option.some.injEq] at hd
  subst hd
  exact ⟨F1, k, .refl, .int _⟩
theorem i_e {tg a : Expr} {ea : E} {cl : CallT} (hx : XOk T k c Wd X) (ha : PE X a (TE' T.C Wd (ev T.G cl ea))) : PI X tg a (TI' T.C Wd (evI T.G cl (.e ea))) := by
  refine ⟨fun pins s σ H Rr I q => ?_⟩
  obtain ⟨F, ρ, env, w, k0, en, r⟩ := q
  simp only [evI] at r
  have hK := hx.K
  cases e : ev T.G cl ea env w with
  | bad => rw [e] at r; exact r.elim
  | exc x w1 =>
    rw [e] at r
    refine (pi_list ha).run pins s σ H Rr I ⟨F, ρ, env, w, k0, en, ?_⟩
    rw [e]; exact r
  | ok d w1 =>
    rw [e] at r
    simp only [R.bind] at r
    cases d with
    | lst xs =>
      refine (pi_list ha).run pins s σ H Rr I ⟨F, ρ, env, w, k0, en, ?_⟩
      rw [e]
      intro F' ρ' H' v ex k' rv
      cases rv with
      | lst hf rs => exact ⟨_, rfl, ⟨_, SqL.of (k'.frz _ _ hf)⟩, by rw [hK]; exact r F' ρ' H' _ ex k' (wk_lst (fun H k => SqL.of (k _ _ hf)) rs)⟩
    | tup xs =>
      refine (pi_tup ha).run pins s σ H Rr I ⟨F, ρ, env, w, k0, en, ?_⟩
      rw [e]
      intro F' ρ' H' v ex k' rv
      cases rv with
      | tup hf rs => exact ⟨_, rfl, ⟨_, by rw [hK]; exact k'.sqT hf⟩, by rw [hK]; exact r F' ρ' H' _ ex k' (wk_tup hf rs)⟩
    | str t =>
      refine (pi_str ha).run pins s σ H Rr I ⟨F, ρ, env, w, k0, en, ?_⟩
      rw [e]
      intro F' ρ' H' v ex k' rv
      cases rv
      exact ⟨_, rfl, r F' ρ' H' _ ex k' (wk_str t)⟩
    | scr ns =>
      refine (pi_list ha).run pins s σ H Rr I ⟨F, ρ, env, w, k0, en, ?_⟩
      rw [e]
      intro F' ρ' H' v ex k' rv
      cases rv with
      | scr hf =>
        have rs : Reps T.C F' ρ' (ns.map D.int) (ns.map V.int) := Reps.ints ns
        exact ⟨_, rfl, ⟨_, by rw [hK]; exact k'.sqL hf⟩, by rw [hK]; exact r F' ρ' H' _ ex k' (wk_lst (fun H k => sqL_up k hf) rs)⟩
    | dct kvs =>
      refine (pi_keys ha).run pins s σ H Rr I ⟨F, ρ, env, w, k0, en, ?_⟩
      rw [e]
      intro F' ρ' H' v ex k' rv
      cases rv with
      | dct hf rs => exact ⟨_, _, rfl, .inl ⟨_, k'.frz _ _ hf, r F' ρ' H' _ ex k' (wk_keys hf rs)⟩⟩
    | _ => exact r.elim
theorem range_arg {ds : List D} {xs : List D} (h : rangeOf ds = some xs) : (∃ b, ds = [.int b] ∧ (-2 ^ 60 < b ∧ b < 2 ^ 60) ∧ xs = rangeD 0 b.toNat) ∨ ∃ a b, ds = [.int a, .int b] ∧ -2 ^ 60 < a ∧ a < 2 ^ 60 ∧ -2 ^ 60 < b ∧ b < 2 ^ 60 ∧ xs = rangeD a (b - a).toNat := by
  unfold rangeOf at h
  split at h
  · split at h
    · rename_i hb; cases h; exact .inl ⟨_, rfl, hb, rfl⟩
    · cases h
  · split at h
    · rename_i hb; cases h; exact .inr ⟨_, _, rfl, hb.1, hb.2.1, hb.2.2.1, hb.2.2.2, rfl⟩
    · cases h
  · cases h
theorem i_range1 {tg a : Expr} {p pos : Pos} {es : Es} {cl : CallT} (hx : XOk T k c Wd X) (tb : TbOk T k) (hg : isGl c.S "range" = true) (hfree : ("range" : Str) ∈ T.bl) (hst : isStar a = false) (hl : es.len = 1) (ha : PA X [a] (TA' T.C Wd (evs T.G cl es))) :
    PI X tg (.Call (.Name "range" p) [a] [] pos) (TI' T.C Wd (evI T.G cl (.range es))) := by
  refine ⟨fun pins s σ H Rr I q => (pi_range1 (hx.gl hg) (by rw [hx.mg]; exact tb.free _ hfree) ha (star1 hst)).run pins s σ H Rr I ?_⟩
  have q := TG'.eq (g := fun env w => (evs T.G cl es env w).bind fun ds w => (fun ds env w => R.lift (rangeOf ds) w) ds env w) q fun env w => by simp only [evI]
  refine TG'.thn (TA'.len (Q := fun _ _ => True) q) fun vs H1 q1 => ?_
  obtain ⟨hl2, F, ρ, env, w, ds, k0, en, rs, r⟩ := q1
  obtain ⟨xs, e, r⟩ := r.lift
  rcases range_arg e with ⟨b, rfl, hb, rfl⟩ | ⟨a', b, rfl, _⟩
  · obtain ⟨v, rfl, rv⟩ := reps1 rs
    cases rv
    exact ⟨b, rfl, by omega, by omega, Res.here (C := T.C) (RR := fun F ρ xs J => Wk T.C F ρ J xs) r k0 (wk_range 0 _)⟩
  · have := rs.length; simp at this; omega
theorem i_range2 {tg a b : Expr} {p pos : Pos} {es : Es} {cl : CallT} (hx : XOk T k c Wd X) (tb : TbOk T k) (hg : isGl c.S "range" = true) (hfree : ("range" : Str) ∈ T.bl) (hst : isStar a = false) (hst2 : isStar b = false) (hl : es.len = 2) (ha : PA X [a, b] (TA' T.C Wd (evs T.G cl es))) :
    PI X tg (.Call (.Name "range" p) [a, b] [] pos) (TI' T.C Wd (evI T.G cl (.range es))) := by
  refine ⟨fun pins s σ H Rr I q => (pi_range2 (hx.gl hg) (by rw [hx.mg]; exact tb.free _ hfree) ha (by rw [star1 hst, star1 hst2]; rfl) (by rw [star1 hst2]; rfl)).run pins s σ H Rr I ?_⟩
  have q := TG'.eq (g := fun env w => (evs T.G cl es env w).bind fun ds w => (fun ds env w => R.lift (rangeOf ds) w) ds env w) q fun env w => by simp only [evI]
  refine TG'.thn (TA'.len (Q := fun _ _ => True) q) fun vs H1 q1 => ?_
  obtain ⟨hl2, F, ρ, env, w, ds, k0, en, rs, r⟩ := q1
  obtain ⟨xs, e, r⟩ := r.lift
  rcases range_arg e with ⟨b, rfl, hb, rfl⟩ | ⟨a', b, rfl, h1, h2, h3, h4, rfl⟩
  · have := rs.length; simp at this; omega
  · obtain ⟨v, u, rfl, rv, ru⟩ := reps2 rs
    cases rv; cases ru
    exact ⟨a', b, rfl, ⟨by omega, by omega, by omega, by omega⟩, Res.here (C := T.C) (RR := fun F ρ xs J => Wk T.C F ρ J xs) r k0 (wk_range a' _)⟩
end
end Sv

set_option Elab.async false
set_option linter.all false
set_option maxRecDepth 100000
set_option maxHeartbeats 4000000
namespace Sv
open PySem L2
def Ts.len : Ts → Nat
  | .nil => 0 | .cons _ r => r.len + 1
def gSeq (K : PySem.W.Frag) (n : Nat) (t : TGs) : TG := fun v σ H Q => gTup K n t v σ H Q ∨ gLst K n t v σ H Q
theorem pg_seq {X : Cx} {pos : Pos} {es : List Expr} {k : Nat} {t : TGs} {n : Nat} (hc : X.calm = true) (h : PGs X es t) (hn : (assignEach es X.env).length = n) (hst : (assignEach es X.env).findIdx? (·.1) = none) : PG X (.Tuple es k pos) (gSeq X.K n t) :=
  ⟨fun pins s σ H v u Q I r q => q.elim (fun q => (pg_tup hc h hn hst).run pins s σ H v u Q I r q) fun q => (pg_lst hc h hn hst).run pins s σ H v u Q I r q⟩
mutual
def tgS (K : PySem.W.Frag) : T → TG
  | .loc i => gName i | .tup ts => gSeq K ts.len (tgsS K ts) | _ => fun _ _ _ _ => False
def tgsS (K : PySem.W.Frag) : Ts → TGs
  | .nil => gNil | .cons t r => gCons (tgS K t) (tgsS K r)
end
mutual
def slotsT : T → List Nat
  | .loc i => [i] | .tup ts => slotsTs ts | _ => []
def slotsTs : Ts → List Nat
  | .nil => [] | .cons t r => slotsT t ++ slotsTs r
end
theorem asgNs_len : ∀ {ts : Ts} {ds : List D} {env env' : Env}, asgN.asgNs ts ds env = some env' → ds.length = ts.len
  | .nil, [], _, _, _ => rfl
  | .nil, _ :: _, _, _, h => by simp [asgN.asgNs] at h
  | .cons _ _, [], _, _, h => by simp [asgN.asgNs] at h
  | .cons t r, d :: ds, env, env', h => by
    simp only [asgN.asgNs] at h
    split at h
    · rw [List.length_cons, asgNs_len h]; rfl
    · cases h
mutual
theorem asgN_ok {C : Cn} {F : Hp} {ρ : List Addr} {w : W} {H : Hp} (k : WOk C F ρ w H) : ∀ {t : T} {d : D} {v : V} {env env' : Env} {σ : St} {Q : St → Hp → Prop}, EnvOk C F ρ env σ → Rep C F ρ d v → asgN t d env = some env' →
    (∀ σ', EnvOk C F ρ env' σ' → σ'.length = σ.length → (∀ j, j ∉ slotsT t → σ'[j]? = σ[j]?) → Q σ' H) → tgS C.K t v σ H Q
  | .loc i, d, v, env, env', σ, Q, en, rd, h, q => by
    simp only [asgN] at h
    split at h
    · cases h
      refine q _ (en.set rd) (by simp) fun j hj => ?_
      simp only [slotsT, List.mem_singleton] at hj
      rw [List.getElem?_set_ne (Ne.symm hj)]
    · cases h
  | .tup ts, d, v, env, env', σ, Q, en, rd, h, q => by
    simp only [asgN] at h
    cases d with
    | tup xs =>
      simp only [unpack] at h
      cases rd with
      | tup hf rs =>
        exact .inl ⟨_, _, rfl, k.sqT hf, by rw [← rs.length]; exact asgNs_len h, asgNs_ok k en rs h q⟩
    | lst xs =>
      simp only [unpack] at h
      cases rd with
      | lst hf rs =>
        exact .inr ⟨_, _, rfl, SqL.of (k.frz _ _ hf), by rw [← rs.length]; exact asgNs_len h, asgNs_ok k en rs h q⟩
    | _ => simp [unpack] at h
  | .sub _ _, d, v, env, env', σ, Q, en, rd, h, q => by simp [asgN] at h
  | .att _ _, d, v, env, env', σ, Q, en, rd, h, q => by simp [asgN] at h
theorem asgNs_ok {C : Cn} {F : Hp} {ρ : List Addr} {w : W} {H : Hp} (k : WOk C F ρ w H) : ∀ {ts : Ts} {ds : List D} {vs : List V} {env env' : Env} {σ : St} {Q : St → Hp → Prop}, EnvOk C F ρ env σ → Reps C F ρ ds vs → asgN.asgNs ts ds env = some env' →
    (∀ σ', EnvOk C F ρ env' σ' → σ'.length = σ.length → (∀ j, j ∉ slotsTs ts → σ'[j]? = σ[j]?) → Q σ' H) → tgsS C.K ts vs σ H Q
  | .nil, ds, vs, env, env', σ, Q, en, rs, h, q => by
    cases ds with
    | nil =>
      simp only [asgN.asgNs] at h; cases h; cases rs
      exact ⟨rfl, q σ en rfl fun _ _ => rfl⟩
    | cons d ds => simp [asgN.asgNs] at h
  | .cons t r, ds, vs, env, env', σ, Q, en, rs, h, q => by
    cases ds with
    | nil => simp [asgN.asgNs] at h
    | cons d ds =>
      simp only [asgN.asgNs] at h
      cases rs with
      | cons rd rs =>
        split at h
        · rename_i env1 h1
          refine ⟨_, _, rfl, asgN_ok k en rd h1 fun σ1 en1 l1 f1 => asgNs_ok k en1 rs h fun σ2 en2 l2 f2 => q σ2 en2 (l2.trans l1) fun j hj => ?_⟩
          simp only [slotsTs, List.mem_append, not_or] at hj
          rw [f2 j hj.2, f1 j hj.1]
        · cases h
end
theorem wipe_get {σ : St} {j : Nat} : ∀ {vs : List Nat}, (wipe σ vs)[j]? = if j ∈ vs then (σ[j]?).map fun _ => none else σ[j]?
  | [] => by simp [wipe]
  | v :: vs => by
    unfold wipe
    have ih := wipe_get (σ := σ) (j := j) (vs := vs)
    have hl := wipe_length σ vs
    by_cases hv : v = j
    · subst hv
      simp only [List.mem_cons, true_or, if_true]
      by_cases h : v < σ.length
      · rw [List.getElem?_set_self (by rw [hl]; exact h), List.getElem?_eq_getElem h]; rfl
      · rw [List.getElem?_eq_none (by simp [hl]; omega), List.getElem?_eq_none (by omega)]; rfl
    · rw [List.getElem?_set_ne hv, ih]
      simp only [List.mem_cons]
      have : (j = v ∨ j ∈ vs) ↔ j ∈ vs := ⟨fun h => h.resolve_left fun z => hv z.symm, .inr⟩
      simp only [this]
theorem wipe_same {σ σ2 : St} {vs : List Nat} (h : ∀ j, j ∉ vs → σ2[j]? = (wipe σ vs)[j]?) (hl : σ2.length = σ.length) : wipe σ2 vs = wipe σ vs := by
  apply List.ext_getElem?
  intro j
  rw [wipe_get, wipe_get]
  by_cases hj : j ∈ vs
  · rw [if_pos hj, if_pos hj]
    by_cases h2 : j < σ.length
    · rw [List.getElem?_eq_getElem (by omega), List.getElem?_eq_getElem h2]; rfl
    · rw [List.getElem?_eq_none (by omega), List.getElem?_eq_none (by omega)]
  · rw [if_neg hj, if_neg hj, h j hj, wipe_get, if_neg hj]
theorem EnvOk.wipe {C : Cn} {F : Hp} {ρ : List Addr} {env : Env} {σ : St} (en : EnvOk C F ρ env σ) : ∀ vs : List Nat, EnvOk C F ρ (wipeE env vs) (L2.wipe σ vs)
  | [] => en
  | v :: vs => (EnvOk.wipe en vs).gone
theorem mapC_cons {f : D → W → R Unit} {d : D} {r : List D} {w : W} : mapC f (d :: r) w = (f d w).nx.bind fun _ w => mapC f r w := rfl
theorem drop_cons {α : Type} {l : List α} {i : Nat} (h : i < l.length) : ∃ d, l[i]? = some d ∧ l.drop i = d :: l.drop (i + 1) := ⟨l[i], List.getElem?_eq_getElem h, List.drop_eq_getElem_cons h⟩
theorem endC_ok {C : Cn} {Wd : WX} {F1 F2 : Hp} {r1 r2 : List Addr} {w1 w2 : W} {H : Hp} {D : Addr} {m : Bool} {σ : St} {Q : VK} (hn : r1.length = w1.length) (e : Ext F1 (r1 ++ [D]) F2 r2) (k : WOk C F2 r2 w2 H) (r : Res C (Rep C) Wd F1 r1 (endC m w1.length w2) σ Q) : Q (.ref D) H := by
  have hx : r2[w1.length]? = some D := e.ix (by rw [← hn]; simp)
  unfold endC at r
  split at r
  · rename_i xs hw
    have ex0 : Ext F1 r1 F2 (r2.take w1.length) := by
      refine ⟨e.f, ?_⟩
      obtain ⟨t, ht⟩ := e.r
      rw [← ht, ← hn, List.append_assoc, List.take_left']
      · exact List.prefix_refl _
      · rfl
    have hlen : w1.length < w2.length := (List.getElem?_eq_some_iff.mp hw).1
    unfold newL at r
    split at r
    · exact r.elim
    · cases m with
      | false =>
        simp only [Bool.false_eq_true, if_false] at r
        obtain ⟨o, ho, q, fa, k2, e2⟩ := k.seal hx hw (by intro z; cases z)
        have k3 := k2.take (n := w1.length)
        rw [List.take_set_of_le (Nat.le_refl _)] at k3
        refine r _ _ _ _ ⟨fun a u z => e2.f a u (ex0.f a u z), ex0.r⟩ k3 ?_
        cases q with
        | lst rs => exact .lst upd_same (rs.up e2.f (fun i a z => by simp at z))
      | true =>
        simp only [if_true] at r
        split at r
        · have k3 := k.take (n := w1.length + 1)
          have ew : w2.take (w1.length + 1) = w2.take w1.length ++ [.lst xs] := by
            rw [List.take_add_one, hw]; rfl
          have er : r2.take (w1.length + 1) = r2.take w1.length ++ [D] := by
            rw [List.take_add_one, hx]; rfl
          rw [ew, er] at k3
          have hl2 : (w2.take w1.length).length = w1.length := by rw [List.length_take]; omega
          have hl3 : (r2.take w1.length).length = w1.length := by rw [List.length_take, k.len]; omega
          refine r _ _ _ _ ⟨ex0.f, ex0.r.trans (List.prefix_append _ _)⟩ k3 (.cel ?_)
          rw [hl2, List.getElem?_append_right (by omega), hl3]; simp
        · exact r.elim
  · exact r.elim
abbrev never : WX := fun _ _ _ _ => False
theorem lc_of {C : Cn} {Wd : WX} {G : Prog} {cl : CallT} {m : Bool} {own : List Nat} {e : E} {t : T} {it : Sv.It} {ifs : Es} {σ : St} {H : Hp} {Q : VK} (hown : ∀ i, i ∈ slotsT t → i ∈ own) (q : TE' C Wd (ev G cl (.comp m own e t it ifs)) σ H Q) :
    tLc (TI' C Wd (evI G cl it)) (tgS C.K t) (TT' C never (evIf G cl ifs)) (TE' C never (ev G cl e)) own σ H Q := by
  obtain ⟨F, ρ, env, w, k0, en, r⟩ := q
  simp only [ev] at r
  refine ⟨F, ρ, env, w, k0, en, (Res.bind (RR := fun F ρ xs J => Wk C F ρ J xs) r).mono ?_⟩
  rintro J H1 ⟨F1, r1, xs, w1, e1, k1, wk, r⟩
  have en1 := en.up e1
  generalize hf : (fun (d : D) (w : W) => (asgN t d (wipeE env own)).elim R.bad fun env => (evIf G cl ifs env w).bind fun b w => if b = true then (ev G cl e env w).bind fun y w => R.ofO (appC w1.length y w) else .ok () w) = f at r
  intro Dd hD
  refine ⟨fun i m' H => m' = xs.length - i ∧ i ≤ xs.length ∧ ∃ F2 r2 w2, Ext F1 (r1 ++ [Dd]) F2 r2 ∧ WOk C F2 r2 w2 H ∧ Res C (Rep C) Wd F1 r1 ((mapC f (xs.drop i) w2).bind fun _ w => endC m w1.length w) σ Q,
    ⟨xs.length, rfl, Nat.zero_le _, F1, r1 ++ [Dd], w1 ++ [.lst []], .refl, k1.cell hD (.lst .nil), by rw [List.drop_zero]; exact r⟩, ?_⟩
  rintro i m' H ⟨rfl, hi, F2, r2, w2, e2, k2, r⟩
  by_cases hlt : i < xs.length
  · right
    refine ⟨wk.go i H (fun a o z => k2.frz a o (e2.f a o z)) hlt, fun H' => ∃ F2 r2 w2, Ext F1 (r1 ++ [Dd]) F2 r2 ∧ WOk C F2 r2 w2 H' ∧ Res C (Rep C) Wd F1 r1 ((mapC f (xs.drop (i + 1)) w2).bind fun _ w => endC m w1.length w) σ Q, fun H' hN => ⟨_, by omega, rfl, hlt, hN⟩, fun x H' hy => ?_⟩
    obtain ⟨d, hd, hdr⟩ := drop_cons hlt
    rw [hdr, mapC_cons] at r
    have e2' : Ext F1 r1 F2 r2 := (Ext.cell (F := F1) (ρ := r1) (p := Dd)).trans e2
    obtain ⟨F3, k3, e3, rd⟩ := wk.yld i H F2 r2 w2 x H' d k2 e2' hd hy
    have enw : EnvOk C F3 r2 (wipeE env own) (L2.wipe σ own) := ((en1.up e2').up e3).wipe own
    -- the turn is no other than ok
    have hok : ∃ w3, f d w2 = .ok () w3 ∧ Res C (Rep C) Wd F1 r1 ((mapC f (xs.drop (i + 1)) w3).bind fun _ w => endC m w1.length w) σ Q := by
      cases hfd : f d w2 with
      | ok u w3 => rw [hfd] at r; exact ⟨w3, rfl, r⟩
      | exc x w3 => rw [hfd] at r; exact r.elim
      | bad => rw [hfd] at r; exact r.elim
    obtain ⟨w3, hfd, r⟩ := hok
    rw [← hf] at hfd
    cases ha : asgN t d (wipeE env own) with
    | none => simp only [ha, Option.elim] at hfd; cases hfd
    | some env2 =>
      simp only [ha, Option.elim] at hfd
      refine asgN_ok k3 enw rd ha fun σ2 en2 hl2 hs2 => ⟨wipe_same (fun j hj => hs2 j fun z => hj (hown j z)) (hl2.trans (wipe_length σ own)), F3, r2, env2, w2, k3, en2, ?_⟩
      cases hi2 : evIf G cl ifs env2 w2 with
      | bad => rw [hi2] at hfd; cases hfd
      | exc x w4 => rw [hi2] at hfd; cases hfd
      | ok b w4 =>
        rw [hi2] at hfd
        simp only [R.bind] at hfd
        intro F4 r4 H4 b' e4 k4 hb
        subst hb
        cases b with
        | false =>
          simp only [Bool.false_eq_true, if_false, R.ok.injEq] at hfd
          obtain ⟨_, rfl⟩ := hfd
          exact ⟨F4, r4, w4, e2.trans (e3.trans e4), k4, r⟩
        | true =>
          simp only [if_true] at hfd
          refine ⟨F4, r4, env2, w4, k4, en2.up e4, ?_⟩
          cases he : ev G cl e env2 w4 with
          | bad => rw [he] at hfd; cases hfd
          | exc x w5 => rw [he] at hfd; cases hfd
          | ok y w5 =>
            rw [he] at hfd
            simp only [R.bind] at hfd
            intro F5 r5 H5 v e5 k5 rv
            cases hap : appC w1.length y w5 with
            | none => rw [hap] at hfd; cases hfd
            | some w6 =>
              rw [hap] at hfd
              simp only [R.ofO, R.ok.injEq] at hfd
              obtain ⟨_, rfl⟩ := hfd
              unfold appC at hap
              split at hap
              · rename_i acc hacc
                split at hap
                · rename_i hc
                  simp only [Bool.and_eq_true, decide_eq_true_eq] at hc
                  cases hap
                  have ee : Ext F1 (r1 ++ [Dd]) F5 r5 := e2.trans (e3.trans (e4.trans e5))
                  have hx : r5[w1.length]? = some Dd := ee.ix (by rw [← k1.len]; simp)
                  obtain ⟨_, o, ho, qo⟩ := k5.cel _ _ _ hx hacc (by intro z; cases z)
                  cases qo with
                  | @lst _ accv rs =>
                    refine ⟨accv, ho, ?_, F5, r5, _, ee, k5.set hx hacc (by intro z; cases z) (.lst (rs.append (.cons (rv.noRef hc.1) .nil))), r⟩
                    rw [← rs.length]; exact Nat.lt_of_lt_of_le hc.2 (small16 (Nat.le_refl _))
                · cases hap
              · cases hap
  · left
    have hie : i = xs.length := by omega
    subst hie
    refine ⟨wk.stop _ H (fun a o z => k2.frz a o (e2.f a o z)) (Nat.le_refl _), ?_⟩
    rw [List.drop_length] at r
    exact endC_ok k1.len e2 k2 r
end Sv

set_option Elab.async false
set_option linter.all false
set_option maxRecDepth 100000
set_option maxHeartbeats 4000000
namespace Sv
open PySem L2
def isLoc (c : Ck) (x : Str) : Bool := match c.S.names.lookup x with | some .local => true | some .cell => c.fn x | _ => false
def isSet : Expr → Bool | .Set _ _ _ => true | _ => false
def Ck.blk (c : Ck) (scope : Scope) : Ck := ⟨c.N, relS scope c.S, fun x => scope.names.lookup x == some .cell, c.calm⟩
mutual
def chkTn (c : Ck) : T → Expr → Bool
  | .loc i, e => match vName e with | some x => decide (c.N[i]? = some x) && isLoc c x | none => false
  | .tup ts, e => match vTup e with | some es => c.calm && chkTns c ts es | none => false
  | _, _ => false
def chkTns (c : Ck) : Ts → List Expr → Bool
  | .nil, [] => true
  | .cons t r, e :: es => !isStar e && chkTn c t e && chkTns c r es
  | _, _ => false
end
theorem asgE1 {e : Expr} {es : List Expr} {env : PySem.Env} (h : isStar e = false) : assignEach (e :: es) env = (false, assign e env) :: assignEach es env := by
  cases e <;> first | rfl | (simp [isStar] at h)
section
variable {T : Tb} {k : Nat} {c : Ck} {Wd : WX} {X : Cx}
theorem XOk.blk (hx : XOk T k c Wd X) (scope : Scope) (s : Shared) (H : Hp) (C : Addr) (cl : List (Str × Addr)) (fp : List Addr) : XOk T k (c.blk scope) never (X.blk s H scope (compEnvC scope cl C X.env) fp) :=
  ⟨hx.prog, hx.w, hx.K, hx.mg, hx.base, hx.nms, hx.nd, by show relS scope X.env.scope = relS scope c.S; rw [hx.sc], rfl, hx.calm, hx.room, hx.gd, takes_none5, PassesOwn.never⟩
theorem XOk.isLoc (hx : XOk T k c Wd X) {x : Str} (h : isLoc c x = true) : L2.Loc X.env.scope x ∧ (X.fn x = true ∨ X.env.scope.names.lookup x = some .local) := by
  unfold Sv.isLoc at h
  unfold L2.Loc
  rw [hx.sc, hx.fn]
  cases e : c.S.names.lookup x with
  | none => rw [e] at h; cases h
  | some kd =>
    rw [e] at h
    cases kd with
    | «local» => exact ⟨.inl rfl, .inr rfl⟩
    | cell => exact ⟨.inr rfl, .inl h⟩
    | _ => cases h
mutual
theorem pg_of (hx : XOk T k c Wd X) : ∀ {t : Sv.T} {e : Expr}, chkTn c t e = true → PG X e (tgS T.C.K t)
  | .loc i, e, h => by
    simp only [chkTn] at h
    cases hv : vName e with
    | none => rw [hv] at h; cases h
    | some x =>
      obtain ⟨p, rfl⟩ := vName_eq hv
      rw [hv] at h
      simp only [Bool.and_eq_true, decide_eq_true_eq] at h
      obtain ⟨h1, h2⟩ := hx.isLoc h.2
      exact pg_name (by rw [hx.nms]; exact hx.nd) (by rw [hx.nms]; exact h.1) h1 h2
  | .tup ts, e, h => by
    simp only [chkTn] at h
    cases hv : vTup e with
    | none => rw [hv] at h; cases h
    | some es =>
      obtain ⟨kk, p, rfl⟩ := vTup_eq hv
      rw [hv] at h
      simp only [Bool.and_eq_true] at h
      obtain ⟨h1, h2, h3⟩ := pgs_of hx h.2
      simp only [tgS]
      rw [← hx.K] at h1 ⊢
      exact pg_seq (hx.calm.trans h.1) h1 h2 h3
  | .sub _ _, e, h => by simp [chkTn] at h
  | .att _ _, e, h => by simp [chkTn] at h
theorem pgs_of (hx : XOk T k c Wd X) : ∀ {ts : Ts} {es : List Expr}, chkTns c ts es = true → PGs X es (tgsS T.C.K ts) ∧ (assignEach es X.env).length = ts.len ∧ (assignEach es X.env).findIdx? (·.1) = none
  | .nil, [], _ => ⟨pgs_nil, rfl, rfl⟩
  | .nil, _ :: _, h => by simp [chkTns] at h
  | .cons _ _, [], h => by simp [chkTns] at h
  | .cons t r, e :: es, h => by
    simp only [chkTns, Bool.and_eq_true, Bool.not_eq_true'] at h
    obtain ⟨h1, h2, h3⟩ := pgs_of hx h.2
    refine ⟨pgs_cons (pg_of hx h.1.2) h1 (by rw [asgE1 h.1.1]; rfl), ?_, ?_⟩
    · rw [asgE1 h.1.1, List.length_cons, h2]; rfl
    · rw [asgE1 h.1.1]
      simp only [List.findIdx?_cons]
      rw [h3]; rfl
end
def ownOf (N : List Str) (own : List Nat) : List (Str × Nat) := own.map fun i => (N.getD i Str.empty, i)
theorem ownOf_snd (N : List Str) (own : List Nat) : (ownOf N own).map (·.2) = own := by
  unfold ownOf
  rw [List.map_map]
  exact List.map_id' own
theorem r_comp {elt tg iter : Expr} {ifs : List Expr} {scope : Scope} {pos : Pos} {m : Bool} {own : List Nat} {e : E} {t : Sv.T} {it : Sv.It} {es : Es} {cl : CallT} (hx : XOk T k c Wd X) (hcalm : c.calm = true) (hb : blkC c.N c.S scope (ownOf c.N own) = true) (hown : ∀ i, i ∈ slotsT t → i ∈ own) (hset : isSet iter = false)
    (hi : PI X tg iter (TI' T.C Wd (evI T.G cl it))) (hg : ∀ X', XOk T k (c.blk scope) never X' → PG X' tg (tgS T.C.K t)) (ht : ∀ X', XOk T k (c.blk scope) never X' → PTs X' ifs (TT' T.C never (evIf T.G cl es)))
    (he : ∀ X', XOk T k (c.blk scope) never X' → PE X' elt (TE' T.C never (ev T.G cl e))) :
    PE X (.ListComp elt [⟨tg, iter, ifs, 0⟩] scope pos) (TE' T.C Wd (ev T.G cl (.comp m own e t it es))) := by
  have ok : BlkOk X.N X.env.scope scope (ownOf c.N own) := by rw [hx.nms, hx.sc]; exact blkOk_by hb
  have h := pe_lc (pos := pos) (hx.calm.trans hcalm) (by rw [hx.nms]; exact hx.nd) hi ok (fun s H C cl fp => hg _ (hx.blk scope s H C cl fp)) (fun s H C cl fp => ht _ (hx.blk scope s H C cl fp)) (fun s H C cl fp => he _ (hx.blk scope s H C cl fp))
    (by intro x; cases iter <;> first | rfl | (simp [isSet] at hset))
  rw [ownOf_snd] at h
  exact PE.imp h fun σ H Q q => lc_of hown q
theorem s_comp {y : Str} {py : Pos} {i : Nat} {elt tg iter : Expr} {ifs : List Expr} {scope : Scope} {pos spos : Pos} {m : Bool} {own : List Nat} {e : E} {t : Sv.T} {it : Sv.It} {es : Es} {cl : CallT} (hx : XOk T k c Wd X) (hcalm : c.calm = true) (hy : c.N[i]? = some y) (hyl : c.S.names.lookup y = some .local)
    (hsw : swapsWith (.ListComp elt [⟨tg, iter, ifs, 0⟩] scope pos) (some (.Name y py)) spos.line X.env = pure true) (hb : blkC c.N c.S scope (ownOf c.N own) = true) (hown : ∀ i, i ∈ slotsT t → i ∈ own) (hset : isSet iter = false)
    (hi : PI X tg iter (TI' T.C Wd (evI T.G cl it))) (hg : ∀ X', XOk T k (c.blk scope) never X' → PG X' tg (tgS T.C.K t)) (ht : ∀ X', XOk T k (c.blk scope) never X' → PTs X' ifs (TT' T.C never (evIf T.G cl es)))
    (he : ∀ X', XOk T k (c.blk scope) never X' → PE X' elt (TE' T.C never (ev T.G cl e))) :
    PS X (.Assign [.Name y py] (.ListComp elt [⟨tg, iter, ifs, 0⟩] scope pos) spos) (tAsg (TE' T.C Wd (ev T.G cl (.comp m own e t it es))) (gName i)) := by
  have ok : BlkOk X.N X.env.scope scope (ownOf c.N own) := by rw [hx.nms, hx.sc]; exact blkOk_by hb
  have h := ps_setLc (i := i) (hx.calm.trans hcalm) (by rw [hx.nms]; exact hx.nd) (by rw [hx.nms]; exact hy) (by rw [hx.sc]; exact hyl) hsw hi ok (fun s H C cl fp => hg _ (hx.blk scope s H C cl fp)) (fun s H C cl fp => ht _ (hx.blk scope s H C cl fp)) (fun s H C cl fp => he _ (hx.blk scope s H C cl fp))
    (by intro x; cases iter <;> first | rfl | (simp [isSet] at hset))
  rw [ownOf_snd] at h
  exact PS.imp h fun D σ H q => lc_of hown q
theorem pts_none {cl : CallT} : PTs X [] (TT' T.C Wd (evIf T.G cl .nil)) := by
  refine ⟨fun pins s σ H Q I q => pts_nil.run pins s σ H Q I ?_⟩
  obtain ⟨F, ρ, env, w, k0, en, r⟩ := q
  simp only [evIf] at r
  exact Res.here (C := T.C) (RR := fun _ _ a b => a = b) r k0 rfl
theorem pts_1 {a : Expr} {ea : E} {cl : CallT} (ha : PT X a (TT' T.C Wd (evT T.G cl ea))) : PTs X [a] (TT' T.C Wd (evIf T.G cl (.cons ea .nil))) := by
  refine ⟨fun pins s σ H Q I q => (pts_one ha).run pins s σ H Q I ?_⟩
  exact TG'.eq q fun env w => by simp only [evIf]
end
end Sv

set_option Elab.async false
set_option linter.all false
set_option maxRecDepth 100000
set_option maxHeartbeats 4000000
namespace Sv
open PySem L2
theorem keyA_key {k : D} (h : k.keyA = true) : ∃ y, keyD k = some y := by
  cases k <;> first | exact ⟨_, rfl⟩ | (simp [D.keyA] at h)
theorem eqv_key {k' k : D} {y' y : Key} (h : keyD k' = some y') (hk : keyD k = some y) : D.eqv k' k = decide (y' = y) := by
  cases k' <;> simp only [keyD] at h <;> cases h <;> cases k <;> simp only [keyD] at hk <;> cases hk <;> simp only [D.eqv]
  · rw [Bool.eq_iff_iff]; simp
  · simp
  · simp
  · rw [Bool.eq_iff_iff]; simp only [decide_eq_true_eq]; exact ⟨fun z => by rw [z], fun z => toStr_inj (Sum.inr.inj z)⟩
theorem RepK.anyEq {C : Cn} {F : Hp} {ρ : List Addr} {k : D} {y : Key} (hk : keyD k = some y) : ∀ {kvs : List (D × D)} {es : List (Key × V)}, RepK C F ρ kvs es → (kvs.any fun p => D.eqv p.1 k) = es.any fun kv => decide (kv.1 = y)
  | _, _, .nil => rfl
  | _, _, .cons h r q => by
    simp only [List.any_cons, eqv_key h hk, RepK.anyEq hk q]
theorem RepK.mapEq {C : Cn} {F : Hp} {ρ : List Addr} {k d : D} {y : Key} {v : V} (hk : keyD k = some y) (rd : Rep C F ρ d v) : ∀ {kvs : List (D × D)} {es : List (Key × V)}, RepK C F ρ kvs es →
    RepK C F ρ (kvs.map fun p => if D.eqv p.1 k then (p.1, d) else p) (es.map fun kv => if kv.1 = y then (kv.1, v) else kv)
  | _, _, .nil => .nil
  | _, _, .cons (y := y') h r q => by
    simp only [List.map_cons, eqv_key h hk]
    by_cases e : y' = y
    · simp only [e, decide_true, if_true]
      exact .cons (e ▸ h) rd (RepK.mapEq hk rd q)
    · simp only [e, decide_false, Bool.false_eq_true, if_false]
      exact .cons h r (RepK.mapEq hk rd q)
theorem RepK.app {C : Cn} {F : Hp} {ρ : List Addr} {k d : D} {y : Key} {v : V} (hk : keyD k = some y) (rd : Rep C F ρ d v) : ∀ {kvs : List (D × D)} {es : List (Key × V)}, RepK C F ρ kvs es → RepK C F ρ (kvs ++ [(k, d)]) (es ++ [(y, v)])
  | _, _, .nil => .cons hk rd .nil
  | _, _, .cons h r q => .cons h r (RepK.app hk rd q)
theorem RepK.putM {C : Cn} {F : Hp} {ρ : List Addr} {k d : D} {y : Key} {v : V} (hk : keyD k = some y) (rd : Rep C F ρ d v) {kvs : List (D × D)} {es : List (Key × V)} (q : RepK C F ρ kvs es) : RepK C F ρ (Sv.putM k d kvs) (L2.putK es y v) := by
  unfold Sv.putM L2.putK
  rw [RepK.anyEq hk q]
  split
  · exact RepK.mapEq hk rd q
  · exact RepK.app hk rd q
def ghostQ (Q : VK) : VK := fun v H => Q v H ∨ ∃ d u, H d = some u ∧ Mut (some u) ∧ ∀ od, Q v (upd H d (.frz od u))
theorem pe_ghost {X : Cx} {e : Expr} {t : TE} (h : PE X e t) : PE X e (fun σ H Q => t σ H (ghostQ Q)) := by
  refine ⟨fun pins s σ H Q I q => thn (h.run pins s σ H _ I q) fun v s1 ⟨x, H1, I1, r, q1⟩ => ?_⟩
  rcases q1 with q1 | ⟨d, u, hd, mu, q1⟩
  · exact ⟨x, H1, I1, r, q1⟩
  · obtain ⟨od, I2⟩ := I1.lock hd mu
    exact ⟨x, _, I2, r, q1 od⟩
theorem endK_ok {C : Cn} {Wd : WX} {F1 F2 : Hp} {r1 r2 : List Addr} {w1 w2 : W} {H : Hp} {Dd : Addr} {σ : St} {Q : VK} (hn : r1.length = w1.length) (e : Ext F1 (r1 ++ [Dd]) F2 r2) (k : WOk C F2 r2 w2 H) (r : Res C (Rep C) Wd F1 r1 (endK w1.length w2) σ Q) : ghostQ Q (.ref Dd) H := by
  have hx : r2[w1.length]? = some Dd := e.ix (by rw [← hn]; simp)
  unfold endK at r
  split at r
  · rename_i xs hw
    have ex0 : Ext F1 r1 F2 (r2.take w1.length) := by
      refine ⟨e.f, ?_⟩
      obtain ⟨t, ht⟩ := e.r
      rw [← ht, ← hn, List.append_assoc, List.take_left']
      · exact List.prefix_refl _
      · rfl
    obtain ⟨es, ho, rs, fa, k2⟩ := k.sealD hx hw
    refine .inr ⟨_, _, ho, trivial, fun od => ?_⟩
    obtain ⟨k2, e2⟩ := k2 od
    have k3 := k2.take (n := w1.length)
    rw [List.take_set_of_le (Nat.le_refl _)] at k3
    exact r _ _ _ _ ⟨fun a u z => e2.f a u (ex0.f a u z), ex0.r⟩ k3 (.dct upd_same (rs.up e2.f (fun i a z => by simp at z)))
  · exact r.elim
theorem dc_of {C : Cn} {Wd : WX} {G : Prog} {cl : CallT} {own : List Nat} {ek e : E} {t : T} {it : Sv.It} {ifs : Es} {σ : St} {H : Hp} {Q : VK} (hown : ∀ i, i ∈ slotsT t → i ∈ own) (q : TE' C Wd (ev G cl (.dcomp own ek e t it ifs)) σ H Q) :
    tDc (TI' C Wd (evI G cl it)) (tgS C.K t) (TT' C never (evIf G cl ifs)) (TE' C never (ev G cl ek)) (TE' C never (ev G cl e)) own σ H (ghostQ Q) := by
  obtain ⟨F, ρ, env, w, k0, en, r⟩ := q
  simp only [ev] at r
  refine ⟨F, ρ, env, w, k0, en, (Res.bind (RR := fun F ρ xs J => Wk C F ρ J xs) r).mono ?_⟩
  rintro J H1 ⟨F1, r1, xs, w1, e1, k1, wk, r⟩
  have en1 := en.up e1
  generalize hf : (fun (d : D) (w : W) => (asgN t d (wipeE env own)).elim R.bad fun env => (evIf G cl ifs env w).bind fun b w => if b = true then (ev G cl ek env w).bind fun y w => (ev G cl e env w).bind fun z w => R.ofO (appK w1.length y z w) else .ok () w) = f at r
  intro Dd hD
  refine ⟨fun i m' H => m' = xs.length - i ∧ i ≤ xs.length ∧ ∃ F2 r2 w2, Ext F1 (r1 ++ [Dd]) F2 r2 ∧ WOk C F2 r2 w2 H ∧ Res C (Rep C) Wd F1 r1 ((mapC f (xs.drop i) w2).bind fun _ w => endK w1.length w) σ Q,
    ⟨xs.length, rfl, Nat.zero_le _, F1, r1 ++ [Dd], w1 ++ [.dct []], .refl, k1.cell hD (.dct .nil), by rw [List.drop_zero]; exact r⟩, ?_⟩
  rintro i m' H ⟨rfl, hi, F2, r2, w2, e2, k2, r⟩
  by_cases hlt : i < xs.length
  · right
    refine ⟨wk.go i H (fun a o z => k2.frz a o (e2.f a o z)) hlt, fun H' => ∃ F2 r2 w2, Ext F1 (r1 ++ [Dd]) F2 r2 ∧ WOk C F2 r2 w2 H' ∧ Res C (Rep C) Wd F1 r1 ((mapC f (xs.drop (i + 1)) w2).bind fun _ w => endK w1.length w) σ Q, fun H' hN => ⟨_, by omega, rfl, hlt, hN⟩, fun x H' hy => ?_⟩
    obtain ⟨d, hd, hdr⟩ := drop_cons hlt
    rw [hdr, mapC_cons] at r
    have e2' : Ext F1 r1 F2 r2 := (Ext.cell (F := F1) (ρ := r1) (p := Dd)).trans e2
    obtain ⟨F3, k3, e3, rd⟩ := wk.yld i H F2 r2 w2 x H' d k2 e2' hd hy
    have enw : EnvOk C F3 r2 (wipeE env own) (L2.wipe σ own) := ((en1.up e2').up e3).wipe own
    have hok : ∃ w3, f d w2 = .ok () w3 ∧ Res C (Rep C) Wd F1 r1 ((mapC f (xs.drop (i + 1)) w3).bind fun _ w => endK w1.length w) σ Q := by
      cases hfd : f d w2 with
      | ok u w3 => rw [hfd] at r; exact ⟨w3, rfl, r⟩
      | exc x w3 => rw [hfd] at r; exact r.elim
      | bad => rw [hfd] at r; exact r.elim
    obtain ⟨w3, hfd, r⟩ := hok
    rw [← hf] at hfd
    cases ha : asgN t d (wipeE env own) with
    | none => simp only [ha, Option.elim] at hfd; cases hfd
    | some env2 =>
      simp only [ha, Option.elim] at hfd
      refine asgN_ok k3 enw rd ha fun σ2 en2 hl2 hs2 => ⟨wipe_same (fun j hj => hs2 j fun z => hj (hown j z)) (hl2.trans (wipe_length σ own)), F3, r2, env2, w2, k3, en2, ?_⟩
      cases hi2 : evIf G cl ifs env2 w2 with
      | bad => rw [hi2] at hfd; cases hfd
      | exc x w4 => rw [hi2] at hfd; cases hfd
      | ok b w4 =>
        rw [hi2] at hfd
        simp only [R.bind] at hfd
        intro F4 r4 H4 b' e4 k4 hb
        subst hb
        cases b with
        | false =>
          simp only [Bool.false_eq_true, if_false, R.ok.injEq] at hfd
          obtain ⟨_, rfl⟩ := hfd
          exact ⟨F4, r4, w4, e2.trans (e3.trans e4), k4, r⟩
        | true =>
          simp only [if_true] at hfd
          refine ⟨F4, r4, env2, w4, k4, en2.up e4, ?_⟩
          cases hek : ev G cl ek env2 w4 with
          | bad => rw [hek] at hfd; cases hfd
          | exc x w5 => rw [hek] at hfd; cases hfd
          | ok y w5 =>
            rw [hek] at hfd
            simp only [R.bind] at hfd
            intro F5 r5 H5 yv e5 k5 ry
            refine ⟨F5, r5, env2, w5, k5, (en2.up e4).up e5, ?_⟩
            cases he : ev G cl e env2 w5 with
            | bad => rw [he] at hfd; cases hfd
            | exc x w6 => rw [he] at hfd; cases hfd
            | ok z w6 =>
              rw [he] at hfd
              simp only [R.bind] at hfd
              intro F6 r6 H6 v e6 k6 rv
              cases hap : appK w1.length y z w6 with
              | none => rw [hap] at hfd; cases hfd
              | some w7 =>
                rw [hap] at hfd
                simp only [R.ofO, R.ok.injEq] at hfd
                obtain ⟨_, rfl⟩ := hfd
                unfold appK at hap
                split at hap
                · rename_i acc hacc
                  split at hap
                  · rename_i hc
                    simp only [Bool.and_eq_true, decide_eq_true_eq] at hc
                    cases hap
                    obtain ⟨yk, hyk⟩ := keyA_key hc.1.1
                    have ee : Ext F1 (r1 ++ [Dd]) F6 r6 := e2.trans (e3.trans (e4.trans (e5.trans e6)))
                    have hx : r6[w1.length]? = some Dd := ee.ix (by rw [← k1.len]; simp)
                    obtain ⟨_, o, ho, qo⟩ := k6.cel _ _ _ hx hacc (by intro z; cases z)
                    cases qo with
                    | @dct _ accv rs =>
                      refine ⟨accv, yk, keyV ry hyk, ho, ?_, F6, r6, _, ee, k6.set hx hacc (by intro z; cases z) (.dct (RepK.putM hyk (rv.noRef hc.1.2) rs)), r⟩
                      rw [← rs.length]; exact Nat.lt_of_lt_of_le hc.2 (small16 (Nat.le_refl _))
                  · cases hap
                · cases hap
  · left
    have hie : i = xs.length := by omega
    subst hie
    refine ⟨wk.stop _ H (fun a o z => k2.frz a o (e2.f a o z)) (Nat.le_refl _), ?_⟩
    rw [List.drop_length] at r
    exact endK_ok k1.len e2 k2 r
section
variable {T : Tb} {k : Nat} {c : Ck} {Wd : WX} {X : Cx}
theorem r_dcomp {kx elt tg iter : Expr} {ifs : List Expr} {scope : Scope} {pos : Pos} {own : List Nat} {ek e : E} {t : Sv.T} {it : Sv.It} {es : Es} {cl : CallT} (hx : XOk T k c Wd X) (hcalm : c.calm = true) (hb : blkC c.N c.S scope (ownOf c.N own) = true) (hown : ∀ i, i ∈ slotsT t → i ∈ own) (hset : isSet iter = false)
    (hi : PI X tg iter (TI' T.C Wd (evI T.G cl it))) (hg : ∀ X', XOk T k (c.blk scope) never X' → PG X' tg (tgS T.C.K t)) (ht : ∀ X', XOk T k (c.blk scope) never X' → PTs X' ifs (TT' T.C never (evIf T.G cl es)))
    (hk : ∀ X', XOk T k (c.blk scope) never X' → PE X' kx (TE' T.C never (ev T.G cl ek))) (he : ∀ X', XOk T k (c.blk scope) never X' → PE X' elt (TE' T.C never (ev T.G cl e))) :
    PE X (.DictComp kx elt [⟨tg, iter, ifs, 0⟩] scope pos) (TE' T.C Wd (ev T.G cl (.dcomp own ek e t it es))) := by
  have ok : BlkOk X.N X.env.scope scope (ownOf c.N own) := by rw [hx.nms, hx.sc]; exact blkOk_by hb
  have h := pe_dc (pos := pos) (hx.calm.trans hcalm) (by rw [hx.nms]; exact hx.nd) hi ok (fun s H C cl fp => hg _ (hx.blk scope s H C cl fp)) (fun s H C cl fp => ht _ (hx.blk scope s H C cl fp)) (fun s H C cl fp => hk _ (hx.blk scope s H C cl fp)) (fun s H C cl fp => he _ (hx.blk scope s H C cl fp))
    (by intro x; cases iter <;> first | rfl | (simp [isSet] at hset))
  rw [ownOf_snd] at h
  exact PE.imp (pe_ghost h) fun σ H Q q => dc_of hown q
end
end Sv

set_option Elab.async false
set_option linter.all false
set_option maxRecDepth 100000
set_option maxHeartbeats 4000000
namespace SvEnum
open PySem PyProof.Rows
open PySem.Sem (wp)
theorem meets_new {v : Value} {ob : Obj} {Hb : Heap → Prop} (B : Begins v ob Hb) :
    Meets (Builtin.«enumerate.__new__» ⟨[.type "enumerate", v], []⟩) (fun _ Rs s => Hb s.heap ∧
      Rs (.ok (.ret (.ref (s.heap.push ob).objs.size))) { s with heap := (s.heap.push ob).push { cls := .type "enumerate", data := .fields #[.none, .bool false, .ref s.heap.objs.size, rawInt 0, .none, .none] } }) :=
  .of_wp fun prog w A Rs s hyp => by
    obtain ⟨hp, gens, drawn, tk, os⟩ := s
    obtain ⟨b1, hyp⟩ := hyp
    have hsub := sub_enumerate
    have goes : ∀ {A' : Around} {E : Value → Shared → Prop} {Q : Value → Shared → Prop}, Q (.ref hp.objs.size) ⟨hp.push ob, gens, drawn, tk, os⟩ → wpAny (model prog w) A' (pyIter v) Q E ⟨hp, gens, drawn, tk, os⟩ :=
      fun q => B.iter prog w _ _ ⟨hp, gens, drawn, tk, os⟩ _ b1 q
    wp_walk using goes
    refine wpAny_stack_any fun stk => wpAny_pure ?_
    split
    · rename_i cc _ _ _ _ _
      cases (cc == Value.type "enumerate")
      · wp_walk using goes
        exact ⟨_, rfl, hyp⟩
      · wp_walk using goes
        exact ⟨_, rfl, hyp⟩
    · wp_walk using goes
      exact ⟨_, rfl, hyp⟩
section
variable {prog : Program} {w : World} {A : Around} {E : Value → Shared → Prop} {s : Shared}
theorem call_new {v : Value} {ob : Obj} {Hb : Heap → Prop} {Q : Value → Shared → Prop} (B : Begins v ob Hb) (b1 : Hb s.heap)
    (q : ∀ h', IsEnum h' (s.heap.objs.size + 1) s.heap.objs.size 0 .none → h'.get? s.heap.objs.size = some ob → (∀ b o, s.heap.get? b = some o → h'.get? b = some o) → Q (.ref (s.heap.objs.size + 1)) { s with heap := h' }) :
    wpAny (model prog w) A (call (.type "enumerate") [v]) Q E s := by
  refine callType_new F.called_enumerate (by decide) (F.typeCall_enumerate_1 _) (F.newCall_enumerate_1 _) (fun obj => F.args_object_init_2 obj _) F.entry_enumerate_new (meets_new B) ⟨b1, ?_⟩
  have sz : (s.heap.push ob).objs.size = s.heap.objs.size + 1 := Heap.size_push ..
  show _ ∧ _
  rw [sz]
  have there : IsEnum ((s.heap.push ob).push { cls := .type "enumerate", data := .fields #[.none, .bool false, .ref s.heap.objs.size, rawInt 0, .none, .none] }) (s.heap.objs.size + 1) s.heap.objs.size 0 .none := by
    have z := Heap.get?_push_size (s.heap.push ob) (o := { cls := .type "enumerate", data := .fields #[.none, .bool false, .ref s.heap.objs.size, rawInt 0, .none, .none] }) rfl
    rw [sz] at z; exact z
  exact ⟨⟨_, there, rfl⟩, q _ there (Heap.get?_push_of_some _ (Heap.get?_push_size _ B.free)) fun b o x => Heap.get?_push_of_some _ (Heap.get?_push_of_some _ x)⟩
theorem next_endT {e it t : Addr} {i : Nat} {items : Array Value} {old : Value} {Q : Option Value → Shared → Prop} (calm : A.handled = none) (there : IsEnum s.heap e it i old) (st : s.heap.IsTupleIter it t i) (tp : s.heap.IsTuple t items) (over : items[i]? = none)
    (q : ∀ h', Heap.ExtBut it s.heap h' → Q none { s with heap := h' }) : wpAny (model prog w) A (pyNext (.ref e)) Q E s := by
  have ty : s.TypeIs (.ref e) "enumerate" := ⟨_, there, rfl⟩
  unfold pyNext
  refine wpAny_bind (wpAny_attempt (wpAny_callSpecial?_slot (name := Str.ofString "__next__") ty F.slot_enumerate_next (wpAny_call_entry F.slot_enumerate_next ty F.entry_enumerate_next ?_ (F.args_enumerate_next_1 _))))
  show wpAny _ _ (field (.ref e) 2 >>= _) _ _ _
  refine wpAny_bind (wpAny_field there rfl (x := .ref it) rfl (wpAny_bind (wpAny_nextOf_tuple_end (A := A.in1) (show A.in1.handled = none from calm) st tp over fun h' x eb hx => ?_)))
  obtain ⟨o, ho, hc⟩ := hx
  exact wpAny_bind (wpAny_isInstance (T := "StopIteration") (b := true) ⟨o, ho, hc⟩ isSubtype_stop (wpAny_pure (q _ eb)))
end
end SvEnum
namespace Sv
open PySem PySem.Spec PyProof.Rows L2
def IteT (K : PySem.W.Frag) (a : Addr) : L2.It :=
  ⟨fun i H => ∃ (xs : List V) (x : V), SqT K H a xs ∧ xs[i]? = some x, fun i H v H' => ∃ p x, v = .ref p ∧ H p = none ∧ H' = upd H p (.tup [.int (i : Nat), x]) ∧ ∀ xs, SqT K H a xs → xs[i]? = some x, fun i H => ∃ xs : List V, SqT K H a xs ∧ xs.length ≤ i⟩
theorem turn_enumT {P : Program} {w : World} {K : PySem.W.Frag} {elts : List Expr} {kk : Nat} {tpos : Pos} (a e it : Addr) :
    Turn P w K (.Tuple elts kk tpos) (IteT K a) [e, it] e (fun i h => (∃ old, IsEnum h e it ((i : Nat) : Int) old) ∧ h.IsTupleIter it a i ∧ e ≠ it) where
  mem := by simp
  obj := fun i h st b hb => by
    obtain ⟨⟨old, he⟩, ⟨o, ho, hc, hd⟩, _⟩ := st
    rcases List.mem_cons.mp hb with rfl | hb
    · exact ⟨_, he, fun v q => nomatch q⟩
    · obtain rfl := List.mem_singleton.mp hb
      exact ⟨o, ho, fun v q => by rw [hd] at q; cases q⟩
  keep := fun i h h' st kp => by
    obtain ⟨⟨old, he⟩, hi, hne⟩ := st
    exact ⟨⟨old, kp e (by simp) _ he⟩, hi.at fun o q => kp it (by simp) o q, hne⟩
  item := by
    intro X hP hw hK hc i pins s σ H E I hf st hg
    subst hP hw hK
    obtain ⟨⟨old, he⟩, hit, hne⟩ := st
    obtain ⟨xs, x, hq, hx⟩ := hg
    obtain ⟨its, rv, pt, hz⟩ := I.tuple hq
    have pt' : s.heap.IsTuple a its.toArray := pt
    have ane : a ≠ it := fun z => by
      obtain ⟨o1, h1, c1, _⟩ := pt'
      obtain ⟨o2, h2, c2, _⟩ := hit
      rw [z] at h1
      rw [h1] at h2; cases h2
      have c1' : o1.cls = .type "tuple" := c1
      have c2' : o1.cls = .type "tuple_iterator" := c2
      rw [c1'] at c2'; exact absurd c2' (by decide)
    have hel : e < s.heap.objs.size := Heap.lt_size he
    have hil : it < s.heap.objs.size := by obtain ⟨_, q, _⟩ := hit; exact Heap.lt_size q
    have ena : e ∉ [it, a] := fun z => by
      rcases List.mem_cons.mp z with z | z
      · exact hne z
      · have z := List.mem_singleton.mp z
        obtain ⟨o1, h1, c1, _⟩ := pt'
        rw [← z] at h1
        rw [show s.heap.get? e = some _ from he] at h1; cases h1
        exact absurd (show Value.type "enumerate" = .type "tuple" from c1) (by decide)
    have D : Draws X.prog X.w X.A.in1 it [it, a] its.toArray.size (fun i v => its.toArray[i]? = some v) (fun i h => h.IsTupleIter it a i ∧ h.IsTuple a its.toArray) := Draws.tuple (A := X.A.in1) (show X.A.in1.handled = none from I.ok.hd hc) it a ane its.toArray
    have hilt : i < its.toArray.size := by
      have := (List.getElem?_eq_some_iff.mp hx).1
      rw [List.size_toArray, ← rv.length]; exact this
    refine wpAny_pyNext_enum_itemC D he ⟨hit, pt'⟩ hilt hne ena fun u h' tk hu ho hs' hT hsz hk => ?_
    have ru : RelV x u := by
      obtain ⟨u', hu', ru'⟩ := rv.get hx
      have : its.toArray[i]? = some u' := by simpa using hu'
      rw [this] at hu; cases hu; exact ru'
    refine ⟨_, rfl, wpAny_letOwnedTupleGo_enum (s := { s with heap := h', toks := tk + 1 }) ho fun h'' he' sb => ?_⟩
    have hT2 : h''.get? s.heap.objs.size = some { cls := .type "tuple", data := .seq #[.int i tk, u] } := (sb.2 _ (Nat.ne_of_gt hel)).trans hT
    have new : ObjOk X.prog X.w (upd H s.heap.objs.size (.tup [.int (i : Nat), x])) h'' s.heap.objs.size (.tup [.int (i : Nat), x]) :=
      ⟨by show 2 ≤ sizeLine; decide, [.int i tk, u], .cons ⟨_, rfl⟩ (.cons ru .nil), ⟨_, hT2, rfl, _, rfl⟩⟩
    have I1 : L2.Inv X pins σ (upd H s.heap.objs.size (.tup [.int (i : Nat), x])) { s with heap := h'', toks := tk + 1 } :=
      I.turnedNew (ch := [e, it]) (fun b ob hb q => (sb.2 b (fun z => hb (by simp [z]))).trans (hk b ob (fun z => hb (by simp [z])) (fun z => hb (by simp [z])) q)) hf (Nat.le_refl _) new
    refine ⟨.ref s.heap.objs.size, _, I1, rfl, ⟨_, x, rfl, I.hok.fresh (Nat.le_refl _), rfl, fun ys hy => by rw [I.tuple_inj hy hq]; exact hx⟩, ⟨⟨u, ?_⟩, hs'.1.at fun o q => (sb.2 it (Ne.symm hne)).trans q, hne⟩, fun b hb => ?_⟩
    · rw [show ((i + 1 : Nat) : Int) = (i : Int) + 1 by omega]; exact he'
    · have hb' : b < s.heap.objs.size := by
        rcases List.mem_cons.mp hb with rfl | hb
        · exact hel
        · rw [List.mem_singleton.mp hb]; exact hil
      rw [upd_ne (Nat.ne_of_lt hb')]
      exact (hf b hb).1
  done := by
    intro X hP hw hK hc i pins s σ H E I hf st hg
    subst hP hw hK
    obtain ⟨⟨old, he⟩, hit, hne⟩ := st
    obtain ⟨xs, hq, hx⟩ := hg
    obtain ⟨its, rv, pt, hz⟩ := I.tuple hq
    have pt' : s.heap.IsTuple a its.toArray := pt
    obtain ⟨f0, f1, f2, f3, f4, f5⟩ := hf it (by simp)
    exact SvEnum.next_endT (I.ok.hd hc) he hit pt' (by simp; have := rv.length; omega) fun h' eb => ⟨rfl, I.turned (t' := s.toks) (fun b o hb q => eb b o hb q) f0 f1 f3 f4 f5⟩
  self := fun A i s Q E st h => by
    obtain ⟨⟨_, he⟩, _⟩ := st
    exact wpAny_pyIter_enum he h
theorem wk_enumT {C : Cn} {F : Hp} {ρ : List Addr} {a : Addr} {xs : List D} {vs : List V} (h : SqT C.K F a vs) (r : Reps C F ρ xs vs) : Wk C F ρ (IteT C.K a) (enumD 0 xs) := by
  have len : ∀ (xs : List D) (n : Nat), (enumD n xs).length = xs.length := by
    intro xs
    induction xs with
    | nil => intro n; rfl
    | cons x xs ih => intro n; simp only [enumD, List.length_cons, ih]
  have at_ : ∀ (xs : List D) (n i : Nat), (enumD n xs)[i]? = (xs[i]?).map fun x => .tup [.int (((n + i : Nat)) : Int), x] := by
    intro xs
    induction xs with
    | nil => intro n i; rfl
    | cons x xs ih =>
      intro n i
      cases i with
      | zero => simp [enumD]
      | succ i =>
        simp only [enumD, List.getElem?_cons_succ, ih]
        rw [show n + 1 + i = n + (i + 1) by omega]
  refine ⟨fun i H k hi => ?_, fun i H k hi => ⟨vs, sqT_up k h, by rw [← r.length, ← len xs 0]; exact hi⟩, fun i H F1 r1 w x H' d k e1 hd y => ?_⟩
  · rw [len] at hi
    have hi' : i < vs.length := by rw [← r.length]; exact hi
    exact ⟨vs, vs[i], sqT_up k h, List.getElem?_eq_getElem hi'⟩
  · obtain ⟨p, x', rfl, hp, rfl, y⟩ := y
    rw [at_] at hd
    cases hx : xs[i]? with
    | none => rw [hx] at hd; cases hd
    | some d0 =>
      rw [hx] at hd
      simp only [Option.map_some, Option.some.injEq] at hd
      subst hd
      obtain ⟨v, hv, rv⟩ := r.get hx
      have := y vs (sqT_up (K := C.K) (fun a o z => k.frz a o (e1.f a o z)) h)
      rw [hv] at this; cases this
      have ex := k.newExt (o := .tup [.int (i : Nat), x']) hp
      refine ⟨_, k.new hp, ex, .tup (SqT.of upd_same) (.cons ?_ (.cons (ex.rep (e1.rep rv)) .nil))⟩
      rw [Nat.zero_add]; exact .int _
theorem wk_enumL {C : Cn} {F : Hp} {ρ : List Addr} {a : Addr} {xs : List D} {vs : List V} (h : SqL C.K F a vs) (r : Reps C F ρ xs vs) : Wk C F ρ (L2.Ite C.K a) (enumD 0 xs) := by
  have len : ∀ (xs : List D) (n : Nat), (enumD n xs).length = xs.length := by
    intro xs
    induction xs with
    | nil => intro n; rfl
    | cons x xs ih => intro n; simp only [enumD, List.length_cons, ih]
  have at_ : ∀ (xs : List D) (n i : Nat), (enumD n xs)[i]? = (xs[i]?).map fun x => .tup [.int (((n + i : Nat)) : Int), x] := by
    intro xs
    induction xs with
    | nil => intro n i; rfl
    | cons x xs ih =>
      intro n i
      cases i with
      | zero => simp [enumD]
      | succ i =>
        simp only [enumD, List.getElem?_cons_succ, ih]
        rw [show n + 1 + i = n + (i + 1) by omega]
  refine ⟨fun i H k hi => ?_, fun i H k hi => ⟨vs, sqL_up k h, by rw [← r.length, ← len xs 0]; exact hi⟩, fun i H F1 r1 w x H' d k e1 hd y => ?_⟩
  · rw [len] at hi
    have hi' : i < vs.length := by rw [← r.length]; exact hi
    exact ⟨vs, vs[i], sqL_up k h, List.getElem?_eq_getElem hi'⟩
  · obtain ⟨p, x', rfl, hp, rfl, y⟩ := y
    rw [at_] at hd
    cases hx : xs[i]? with
    | none => rw [hx] at hd; cases hd
    | some d0 =>
      rw [hx] at hd
      simp only [Option.map_some, Option.some.injEq] at hd
      subst hd
      obtain ⟨v, hv, rv⟩ := r.get hx
      have := y vs (sqL_up (K := C.K) (fun a o z => k.frz a o (e1.f a o z)) h)
      rw [hv] at this; cases this
      have ex := k.newExt (o := .tup [.int (i : Nat), x']) hp
      refine ⟨_, k.new hp, ex, .tup (SqT.of upd_same) (.cons ?_ (.cons (ex.rep (e1.rep rv)) .nil))⟩
      rw [Nat.zero_add]; exact .int _
def iEnumT (K : PySem.W.Frag) (ta : TA) : TI := fun σ H R => ta σ H fun vs H1 => ∃ a xs, vs = [.ref a] ∧ SqT K H1 a xs ∧ R (IteT K a) H1
theorem pi_enumT {X : Cx} {e : Expr} {ta : TA} {p pos tpos : Pos} {elts : List Expr} {kk : Nat} (hg : Gl X "enumerate") (hm : X.mg "enumerate" = none) (ha : PA X [e] ta) (hs : starEach [e] X.env = [(false, eval e X.env)]) :
    PI X (.Tuple elts kk tpos) (.Call (.Name "enumerate" p) [e] [] pos) (iEnumT X.K ta) := by
  refine ⟨fun pins s σ H R I q => Call_ (ld_blt I hg hm boot_enumerate (PyProof.Rows.callWith_type1 (thn (ha.run pos pins s σ H _ I q) fun us s1 ⟨vs, H1, I1, r1, a, xs, ex, hq, q⟩ => ?_) hs rfl))⟩
  subst ex
  obtain ⟨u, rfl, ru⟩ := vals1 r1
  obtain rfl : u = Value.ref a := ru
  obtain ⟨its, rv, pt, hz⟩ := I1.tuple hq
  have pt' : s1.heap.IsTuple a its.toArray := pt
  refine SvEnum.call_new (begins_tuple a its.toArray) pt' fun h' he hit hk => wpAny_pyIter_enum he ?_
  have I2 : L2.Inv X pins σ H1 { s1 with heap := h' } := I1.kept (t' := s1.toks) hk
  refine ⟨s1.heap.objs.size + 1, [s1.heap.objs.size + 1, s1.heap.objs.size], _, _, H1, rfl, I2, turn_enumT a (s1.heap.objs.size + 1) s1.heap.objs.size, ⟨⟨.none, he⟩, ⟨_, hit, rfl, rfl⟩, Nat.succ_ne_self _⟩, fun b hb => ?_, q⟩
  have hle : s1.heap.objs.size ≤ b := by
    rcases List.mem_cons.mp hb with rfl | hb
    · exact Nat.le_succ _
    · rw [List.mem_singleton.mp hb]; exact Nat.le_refl _
  exact I1.fpOk hle (I1.hok.fresh hle)
section
variable {T : Tb} {k : Nat} {c : Ck} {Wd : WX} {X : Cx}
theorem i_enum {elts : List Expr} {kk : Nat} {tpos : Pos} {a : Expr} {ea : E} {p pos : Pos} {cl : CallT} (hx : XOk T k c Wd X) (tb : TbOk T k) (hg : isGl c.S "enumerate" = true) (hfree : ("enumerate" : Str) ∈ T.bl) (hst : isStar a = false) (ha : PE X a (TE' T.C Wd (ev T.G cl ea))) :
    PI X (.Tuple elts kk tpos) (.Call (.Name "enumerate" p) [a] [] pos) (TI' T.C Wd (evI T.G cl (.enum ea))) := by
  have hK := hx.K
  have hm : X.mg "enumerate" = none := by rw [hx.mg]; exact tb.free _ hfree
  have hs : starEach [a] X.env = [(false, eval a X.env)] := star1 hst
  have pa : PA X [a] (tCons (TE' T.C Wd (ev T.G cl ea)) tNil) := pa_cons ha pa_nil (star1 hst)
  refine ⟨fun pins s σ H Rr I q => ?_⟩
  obtain ⟨F, ρ, env, w, k0, en, r⟩ := q
  simp only [evI] at r
  cases e : ev T.G cl ea env w with
  | bad => rw [e] at r; exact r.elim
  | exc x w1 =>
    rw [e] at r
    refine (pi_enum (hx.gl hg) hm pa hs).run pins s σ H Rr I ⟨F, ρ, env, w, k0, en, ?_⟩
    rw [e]; exact r
  | ok d w1 =>
    rw [e] at r
    simp only [R.bind] at r
    cases d with
    | lst xs =>
      refine (pi_enum (hx.gl hg) hm pa hs).run pins s σ H Rr I ⟨F, ρ, env, w, k0, en, ?_⟩
      rw [e]
      intro F' ρ' H' v ex k' rv
      cases rv with
      | lst hf rs => exact ⟨_, _, rfl, SqL.of (k'.frz _ _ hf), by rw [hK]; exact r F' ρ' H' _ ex k' (wk_enumL (SqL.of hf) rs)⟩
    | tup xs =>
      refine (pi_enumT (hx.gl hg) hm pa hs).run pins s σ H Rr I ⟨F, ρ, env, w, k0, en, ?_⟩
      rw [e]
      intro F' ρ' H' v ex k' rv
      cases rv with
      | tup hf rs => exact ⟨_, _, rfl, by rw [hK]; exact k'.sqT hf, by rw [hK]; exact r F' ρ' H' _ ex k' (wk_enumT hf rs)⟩
    | scr ns =>
      refine (pi_enum (hx.gl hg) hm pa hs).run pins s σ H Rr I ⟨F, ρ, env, w, k0, en, ?_⟩
      rw [e]
      intro F' ρ' H' v ex k' rv
      cases rv with
      | scr hf => exact ⟨_, _, rfl, by rw [hK]; exact k'.sqL hf, by rw [hK]; exact r F' ρ' H' _ ex k' (wk_enumL hf (Reps.ints ns))⟩
    | _ => exact r.elim
end
end Sv

set_option Elab.async false
set_option linter.all false
set_option maxRecDepth 100000
set_option maxHeartbeats 4000000
namespace SvZip
open PySem PySem.W
open PySem.Sem (wp)
section
variable {prog : Program} {w : World} {A : Around} {E : Value → Shared → Prop} {s : Shared}
theorem held_item {z TI TO p i1 i2 l1 l2 : Addr} {fl : Bool} {ob : Obj} {n1 n2 : Nat} {us vs : Array Value} {u v : Value} {Q : Value → Shared → Prop} (ap : ZipApart z TI TO i1 i2 l1 l2)
    (zh : IsZipHeld s.heap z TI TO p fl) (out : s.heap.get? p = some ob) (ti : IsPair s.heap TI (.ref i1) (.ref i2)) (t1 : s.heap.IsTupleIter i1 l1 n1) (t2 : s.heap.IsTupleIter i2 l2 n2) (e1 : s.heap.IsTuple l1 us) (e2 : s.heap.IsTuple l2 vs) (hu : us[n1]? = some u) (hv : vs[n2]? = some v)
    (fin : ∀ h', IsZipHeld h' z TI TO p true → h'.IsTupleIter i1 l1 (n1 + 1) → h'.IsTupleIter i2 l2 (n2 + 1) → IsPair h' s.heap.objs.size u v → h'.objs.size = s.heap.objs.size + 1 →
      (∀ b o, b ≠ z → b ≠ i1 → b ≠ i2 → s.heap.get? b = some o → h'.get? b = some o) → Q (.ref s.heap.objs.size) { s with heap := h' }) :
    wpAny (model prog w) A (Builtin.«zip.__next__» ⟨[.ref z], []⟩) (fun r s' => ∃ x, r = .done (.ret x) ∧ Q x s') E s := by
  show wpAny _ _ (field (.ref z) 2 >>= _) _ _ _
  refine wpAny_bind (wpAny_field zh rfl (x := .bool false) rfl ?_)
  show wpAny _ _ (field (.ref z) 3 >>= _) _ _ _
  refine wpAny_bind (wpAny_field zh rfl (x := .ref TI) rfl (wpAny_bind (wpAny_seqItems ti rfl ?_)))
  show wpAny _ _ (Builtin.SmallTypes.ownedTupleIsFree (.ref z) >>= _) _ _ _
  refine wpAny_bind (wpAny_tupleHeld_zip zh out fun ha zha sa => ?_)
  simp only [Bool.false_eq_true, if_false]
  refine wpAny_bind ?_
  rw [← Array.forIn_toList]
  simp only [List.forIn_cons, List.forIn_nil]
  refine wpAny_bind (wpAny_bind (wpAny_holding ?_))
  show wpAny _ _ (Builtin.SmallTypes.nextOf (.ref i1) >>= _) _ _ _
  refine wpAny_bind (RZ.nextOf_tuple_item (s := { s with heap := ha }) (t1.extBut sa.extBut ap.i1z) (e1.extBut sa.extBut ap.l1z) hu fun hb tb sb => wpAny_pure (wpAny_pure ?_))
  refine wpAny_bind (wpAny_bind (wpAny_holding ?_))
  show wpAny _ _ (Builtin.SmallTypes.nextOf (.ref i2) >>= _) _ _ _
  refine wpAny_bind (RZ.nextOf_tuple_item (s := { s with heap := hb }) ((t2.extBut sa.extBut ap.i2z).extBut sb.extBut ap.i12.symm) ((e2.extBut sa.extBut ap.l2z).extBut sb.extBut ap.l2i1) hv fun hc tc sc => wpAny_pure (wpAny_pure (wpAny_pure ?_)))
  show wpAny _ _ (newTuple [u, v] >>= _) _ _ _
  refine wpAny_bind (wpAny_newTuple (wpAny_pure ⟨_, rfl, ?_⟩))
  have size : hc.objs.size = s.heap.objs.size := by rw [sc.1, sb.1, sa.1]
  have zhc : IsZipHeld hc z TI TO p true := sc.extBut _ _ ap.i2z.symm (sb.extBut _ _ ap.i1z.symm zha)
  have kept : ∀ b o, b ≠ z → b ≠ i1 → b ≠ i2 → s.heap.get? b = some o → hc.get? b = some o := fun b o c1 c2 c3 e => sc.extBut _ _ c3 (sb.extBut _ _ c2 (sa.extBut _ _ c1 e))
  have t1c : hc.IsTupleIter i1 l1 (n1 + 1) := tb.extBut sc.extBut ap.i12
  show Q (.ref hc.objs.size) _
  have pr : IsPair (hc.push { cls := .type "tuple", data := .seq #[u, v] }) hc.objs.size u v := Heap.get?_push_size _ rfl
  have sz : (hc.push { cls := .type "tuple", data := .seq #[u, v] }).objs.size = hc.objs.size + 1 := Heap.size_push ..
  rw [size] at pr sz ⊢
  exact fin _ (Heap.get?_push_of_some _ zhc) (t1c.at fun o e => Heap.get?_push_of_some _ e) (tc.at fun o e => Heap.get?_push_of_some _ e) pr sz fun b o c1 c2 c3 e => Heap.get?_push_of_some _ (kept b o c1 c2 c3 e)
theorem held_end {z TI TO p i1 i2 l1 l2 : Addr} {fl : Bool} {ob : Obj} {n1 n2 : Nat} {us vs : Array Value} {Q : Fin → Shared → Prop} (calm : A.handled = none) (ap : ZipApart z TI TO i1 i2 l1 l2)
    (zh : IsZipHeld s.heap z TI TO p fl) (out : s.heap.get? p = some ob) (ti : IsPair s.heap TI (.ref i1) (.ref i2)) (t1 : s.heap.IsTupleIter i1 l1 n1) (t2 : s.heap.IsTupleIter i2 l2 n2) (e1 : s.heap.IsTuple l1 us) (e2 : s.heap.IsTuple l2 vs) (over : us[n1]? = none ∨ vs[n2]? = none)
    (fin : ∀ h' e, (∀ b o, b ≠ z → b ≠ i1 → b ≠ i2 → s.heap.get? b = some o → h'.get? b = some o) → (∃ o, h'.get? e = some o ∧ o.cls = .type "StopIteration") → E (.ref e) { s with heap := h' }) :
    wpAny (model prog w) A (Builtin.«zip.__next__» ⟨[.ref z], []⟩) Q E s := by
  show wpAny _ _ (field (.ref z) 2 >>= _) _ _ _
  refine wpAny_bind (wpAny_field zh rfl (x := .bool false) rfl ?_)
  show wpAny _ _ (field (.ref z) 3 >>= _) _ _ _
  refine wpAny_bind (wpAny_field zh rfl (x := .ref TI) rfl (wpAny_bind (wpAny_seqItems ti rfl ?_)))
  show wpAny _ _ (Builtin.SmallTypes.ownedTupleIsFree (.ref z) >>= _) _ _ _
  refine wpAny_bind (wpAny_tupleHeld_zip zh out fun ha zha sa => ?_)
  simp only [Bool.false_eq_true, if_false]
  refine wpAny_bind ?_
  rw [← Array.forIn_toList]
  simp only [List.forIn_cons, List.forIn_nil]
  refine wpAny_bind (wpAny_bind (wpAny_holding ?_))
  show wpAny _ _ (Builtin.SmallTypes.nextOf (.ref i1) >>= _) _ _ _
  cases hu : us[n1]? with
  | none =>
    refine wpAny_bind (RZ.nextOf_tuple_end (s := { s with heap := ha }) calm (t1.extBut sa.extBut ap.i1z) (e1.extBut sa.extBut ap.l1z) hu fun hb e sb he => ?_)
    exact fin hb e (fun b o c1 c2 _ x => sb _ _ c2 (sa.extBut _ _ c1 x)) he
  | some u =>
    have hv : vs[n2]? = none := over.resolve_left fun h => by rw [hu] at h; cases h
    refine wpAny_bind (RZ.nextOf_tuple_item (s := { s with heap := ha }) (t1.extBut sa.extBut ap.i1z) (e1.extBut sa.extBut ap.l1z) hu fun hb tb sb => wpAny_pure (wpAny_pure ?_))
    refine wpAny_bind (wpAny_bind (wpAny_holding ?_))
    show wpAny _ _ (Builtin.SmallTypes.nextOf (.ref i2) >>= _) _ _ _
    refine wpAny_bind (RZ.nextOf_tuple_end (s := { s with heap := hb }) calm ((t2.extBut sa.extBut ap.i2z).extBut sb.extBut ap.i12.symm) ((e2.extBut sa.extBut ap.l2z).extBut sb.extBut ap.l2i1) hv fun hc e sc he => ?_)
    exact fin hc e (fun b o c1 c2 c3 x => sc _ _ c3 (sb.extBut _ _ c2 (sa.extBut _ _ c1 x))) he
structure ZSt (h : Heap) (z TI TO i1 i2 l1 l2 : Addr) (us vs : Array Value) (k : Nat) (own : Addr → Prop) : Prop where
  st : (IsZip h z TI TO .none ∧ ∃ a b, IsPair h TO a b) ∨ ∃ p fl ob, IsZipHeld h z TI TO p fl ∧ h.get? p = some ob ∧ p ≠ z ∧ p ≠ TO ∧ p ≠ i1 ∧ p ≠ i2 ∧ ¬ own p
  ti : IsPair h TI (.ref i1) (.ref i2)
  t1 : h.IsTupleIter i1 l1 k
  t2 : h.IsTupleIter i2 l2 k
  e1 : h.IsTuple l1 us
  e2 : h.IsTuple l2 vs
theorem ZSt.item {z TI TO i1 i2 l1 l2 : Addr} {us vs : Array Value} {k : Nat} {own : Addr → Prop} {u v : Value} {Q : Option Value → Shared → Prop} (ap : ZipApart z TI TO i1 i2 l1 l2) (st : ZSt s.heap z TI TO i1 i2 l1 l2 us vs k own) (hu : us[k]? = some u) (hv : vs[k]? = some v)
    (ol : ∀ a, own a → a < s.heap.objs.size) (lz : z < s.heap.objs.size) (lt : TO < s.heap.objs.size) (li1 : i1 < s.heap.objs.size) (li2 : i2 < s.heap.objs.size)
    (fin : ∀ h', ZSt h' z TI TO i1 i2 l1 l2 us vs (k + 1) own → IsPair h' s.heap.objs.size u v → h'.objs.size = s.heap.objs.size + 1 → (∀ b o, b ≠ z → b ≠ TO → b ≠ i1 → b ≠ i2 → s.heap.get? b = some o → h'.get? b = some o) → Q (some (.ref s.heap.objs.size)) { s with heap := h' }) :
    wpAny (model prog w) A (pyNext (.ref z)) Q E s := by
  obtain ⟨st, ti, t1, t2, e1, e2⟩ := st
  rcases st with ⟨hz, a, b, hTO⟩ | ⟨p, fl, ob, zh, out, pz, pt, p1, p2, po⟩
  · refine RZ.pyNext_zipT_item ap hz ti hTO t1 t2 e1 e2 hu hv fun h' a1 a2 a3 a4 a5 a6 a7 => fin h' ⟨.inr ⟨s.heap.objs.size, false, _, a1, a5, Nat.ne_of_gt lz, Nat.ne_of_gt lt, Nat.ne_of_gt li1, Nat.ne_of_gt li2, fun z => Nat.lt_irrefl _ (ol _ z)⟩, ?_, a3, a4, ?_, ?_⟩ a5 a6 a7
    · exact a7 _ _ ap.TIz ap.TITO ap.TIi1 ap.TIi2 ti
    · exact e1.at fun o q => a7 _ _ ap.l1z ap.l1TO ap.l1i1 ap.l1i2 q
    · exact e2.at fun o q => a7 _ _ ap.l2z ap.l2TO ap.l2i1 ap.l2i2 q
  · have ty : s.TypeIs (.ref z) "zip" := ⟨_, zh, rfl⟩
    unfold pyNext
    refine wpAny_bind (wpAny_attempt (wpAny_callSpecial?_slot (name := Str.ofString "__next__") ty F.slot_zip_next (wpAny_call_entry F.slot_zip_next ty F.entry_zip_next
      (held_item ap zh out ti t1 t2 e1 e2 hu hv fun h' a1 a3 a4 a5 a6 a7 => wpAny_pure (fin h' ⟨.inr ⟨p, true, ob, a1, a7 p ob pz p1 p2 out, pz, pt, p1, p2, po⟩, ?_, a3, a4, ?_, ?_⟩ a5 a6 fun b o c1 _ c3 c4 q => a7 b o c1 c3 c4 q)) (F.args_zip_next_1 _))))
    · exact a7 _ _ ap.TIz ap.TIi1 ap.TIi2 ti
    · exact e1.at fun o q => a7 _ _ ap.l1z ap.l1i1 ap.l1i2 q
    · exact e2.at fun o q => a7 _ _ ap.l2z ap.l2i1 ap.l2i2 q
theorem ZSt.done {z TI TO i1 i2 l1 l2 : Addr} {us vs : Array Value} {k : Nat} {own : Addr → Prop} {Q : Option Value → Shared → Prop} (calm : A.handled = none) (ap : ZipApart z TI TO i1 i2 l1 l2) (st : ZSt s.heap z TI TO i1 i2 l1 l2 us vs k own) (over : us[k]? = none ∨ vs[k]? = none)
    (fin : ∀ h', (∀ b o, b ≠ z → b ≠ TO → b ≠ i1 → b ≠ i2 → s.heap.get? b = some o → h'.get? b = some o) → Q none { s with heap := h' }) : wpAny (model prog w) A (pyNext (.ref z)) Q E s := by
  obtain ⟨st, ti, t1, t2, e1, e2⟩ := st
  rcases st with ⟨hz, a, b, hTO⟩ | ⟨p, fl, ob, zh, out, pz, pt, p1, p2, po⟩
  · exact RZ.pyNext_zipT_end calm ap hz ti hTO t1 t2 e1 e2 over fin
  · have ty : s.TypeIs (.ref z) "zip" := ⟨_, zh, rfl⟩
    unfold pyNext
    refine wpAny_bind (wpAny_attempt (wpAny_callSpecial?_slot (name := Str.ofString "__next__") ty F.slot_zip_next (wpAny_call_entry F.slot_zip_next ty F.entry_zip_next
      (held_end calm ap zh out ti t1 t2 e1 e2 over fun h' e kp he => ?_) (F.args_zip_next_1 _))))
    obtain ⟨o, ho, hc⟩ := he
    exact wpAny_bind (wpAny_isInstance (T := "StopIteration") (b := true) ⟨o, ho, hc⟩ isSubtype_stop (wpAny_pure (fin _ fun b o c1 _ c3 c4 q => kp b o c1 c3 c4 q)))
end
end SvZip

set_option Elab.async false
set_option linter.all false
set_option maxRecDepth 100000
set_option maxHeartbeats 4000000
namespace SvZip
open PySem PySem.Spec PyProof.Rows L2
inductive ZipTo (S : Addr) : List V → List V → List V → Hp → Hp → Prop
  | done {xs ys acc : List V} {H : Hp} : (xs = [] ∨ ys = []) → ZipTo S xs ys acc H H
  | step {x y : V} {xs ys acc : List V} {H H' : Hp} {p : Addr} : H p = none → ZipTo S xs ys (acc ++ [.ref p]) (upd (upd H p (.tup [x, y])) S (.lst (acc ++ [.ref p]))) H' → ZipTo S (x :: xs) (y :: ys) acc H H'
theorem ZSt.keep {h h' : Heap} {z TI TO i1 i2 l1 l2 S : Addr} {us vs its : Array Value} {k n : Nat} (st : ZSt h z TI TO i1 i2 l1 l2 us vs k (fun c => c = S)) (up : ∀ c o, c ≠ S → h.get? c = some o → h'.get? c = some o) (hz : z ≠ S) (hTI : TI ≠ S) (hTO : TO ≠ S) (h1 : i1 ≠ S) (h2 : i2 ≠ S)
    (hS : h.get? S = some { cls := .type "list", data := .seq its n }) (own : ∀ p : Addr, p ≠ S → p ≠ S) : ZSt h' z TI TO i1 i2 l1 l2 us vs k (fun c => c = S) := by
  obtain ⟨st, ti, t1, t2, e1, e2⟩ := st
  have ne : ∀ {l : Addr} {xs : Array Value}, h.IsTuple l xs → l ≠ S := fun {l xs} e z => by
    obtain ⟨o, ho, hc, _⟩ := e
    rw [z, hS] at ho; cases ho
    exact absurd (show Value.type "list" = .type "tuple" from hc) (by decide)
  refine ⟨?_, up _ _ hTI ti, t1.at fun o q => up _ _ h1 q, t2.at fun o q => up _ _ h2 q, e1.at fun o q => up _ _ (ne e1) q, e2.at fun o q => up _ _ (ne e2) q⟩
  rcases st with ⟨a, x, y, b⟩ | ⟨p, fl, ob, zh, out, c1, c2, c3, c4, po⟩
  · exact .inl ⟨up _ _ hz a, x, y, up _ _ hTO b⟩
  · exact .inr ⟨p, fl, ob, up _ _ hz zh, up _ _ po out, c1, c2, c3, c4, po⟩
theorem loop {X : Cx} {pins : List (Addr × Obj)} {σ : L2.St} {A : Around} {R : Result → Shared → Prop} {z TI TO i1 i2 a b S : Addr} {us vs : List Value} {xs ys : List V} (calm : A.handled = none) (ap : ZipApart z TI TO i1 i2 a b) (ru : Vals xs us) (rv : Vals ys vs) (res : Value) (few : xs.length ≤ sizeLine) :
    ∀ (m i : Nat) (s : Shared) (H : Hp) (acc : List V), xs.length - i = m → i ≤ xs.length → acc.length = i → L2.Inv X pins σ H s → H S = some (.lst acc) → ZSt s.heap z TI TO i1 i2 a b us.toArray vs.toArray i (fun c => c = S) → (∀ c ∈ [z, TI, TO, i1, i2], FpOk X pins H c) → (∀ c ∈ [z, TI, TO, i1, i2], c < s.heap.objs.size) → S < s.heap.objs.size →
      (∀ s' H', L2.Inv X pins σ H' s' → ZipTo S (xs.drop i) (ys.drop i) acc H H' → R (.ok (.ret res)) s') →
      codeAny (model X.prog X.w) A (.builtin "list.extend.loop" ⟨[.ref S, .ref z, res], []⟩) R s := by
  intro m
  induction m with
  | zero =>
    intro i s H acc hm hi hl I hS st hf hlt hSl fin
    have hie : i = xs.length := by omega
    refine codeAny_builtin PySem.F.entry_extend_loop ?_
    rw [Around.under_plainId PySem.F.plain_extend_loop _]
    show wpAny _ A.in1 (pyNext (.ref z) >>= _) _ _ _
    refine wpAny_bind (st.done (A := A.in1) calm ap (.inl (by simp; rw [← ru.length]; omega)) fun h' kp => ?_)
    have I2 : L2.Inv X pins σ H { s with heap := h' } := I.turnedL (t' := s.toks) (ch := [z, TI, TO, i1, i2]) (fun c o hb q => kp c o (fun e => hb (by simp [e])) (fun e => hb (by simp [e])) (fun e => hb (by simp [e])) (fun e => hb (by simp [e])) q) hf
    exact wpAny_pure (fin _ H I2 (.done (.inl (by rw [hie, List.drop_length]))))
  | succ m ih =>
    intro i s H acc hm hi hl I hS st hf hlt hSl fin
    have hix : i < xs.length := by omega
    by_cases hiy : i < ys.length
    · obtain ⟨u, hu, ru1⟩ := ru.get (List.getElem?_eq_getElem hix)
      obtain ⟨v, hv, rv1⟩ := rv.get (List.getElem?_eq_getElem hiy)
      refine codeAny_builtin PySem.F.entry_extend_loop ?_
      rw [Around.under_plainId PySem.F.plain_extend_loop _]
      show wpAny _ A.in1 (pyNext (.ref z) >>= _) _ _ _
      refine wpAny_bind (st.item ap (by simpa using hu) (by simpa using hv) (fun c e => by rw [e]; exact hSl) (hlt z (by simp)) (hlt TO (by simp)) (hlt i1 (by simp)) (hlt i2 (by simp)) fun h' st' pr sz kp => ?_)
      have new : ObjOk X.prog X.w (upd H s.heap.objs.size (.tup [xs[i], ys[i]])) h' s.heap.objs.size (.tup [xs[i], ys[i]]) := ⟨by show 2 ≤ sizeLine; decide, [u, v], .cons ru1 (.cons rv1 .nil), ⟨_, pr, rfl, _, rfl⟩⟩
      have I1 : L2.Inv X pins σ (upd H s.heap.objs.size (.tup [xs[i], ys[i]])) { s with heap := h' } :=
        I.turnedNew (t' := s.toks) (ch := [z, TI, TO, i1, i2]) (fun c o hb q => kp c o (fun e => hb (by simp [e])) (fun e => hb (by simp [e])) (fun e => hb (by simp [e])) (fun e => hb (by simp [e])) q) hf (Nat.le_refl _) new
      have hS1 : (upd H s.heap.objs.size (.tup [xs[i], ys[i]])) S = some (.lst acc) := by rw [upd_ne (Nat.ne_of_lt hSl)]; exact hS
      obtain ⟨its, n, rits, hget, _⟩ := I1.lst hS1
      have hsz2 : its.toArray.size = i := by rw [List.size_toArray, ← rits.length, hl]
      show wpAny _ A.in1 (updateSeq S (·.push (Value.ref s.heap.objs.size)) >>= _) _ _ _
      refine wpAny_bind ?_
      have I2 : L2.Inv X pins σ (upd (upd H s.heap.objs.size (.tup [xs[i], ys[i]])) S (.lst (acc ++ [.ref s.heap.objs.size]))) { s with heap := h'.update S (Obj.mapSeq (·.push (Value.ref s.heap.objs.size))) } := by
        have := I1.lstUpd (ys := acc ++ [.ref s.heap.objs.size]) (its' := its ++ [Value.ref s.heap.objs.size]) (f := Obj.mapSeq (·.push (Value.ref s.heap.objs.size))) (n' := _) hS1 hget (by unfold Obj.mapSeq; simp only [List.push_toArray]; rfl) (rits.append (.cons (show RelV (.ref s.heap.objs.size) (.ref s.heap.objs.size) from rfl) .nil)) (by rw [List.length_append, List.length_singleton]; omega) s.toks
        exact this
      refine wpAny_updateSeq hget rfl (wpAny_pure ⟨plainId_quiet PySem.F.plain_extend_loop _, ?_⟩) (by rw [hsz2]; omega) (by show (its.toArray.push (Value.ref s.heap.objs.size)).size ≤ sizeLine + 1; rw [Array.size_push, hsz2]; omega)
      have up : ∀ c o, c ≠ S → h'.get? c = some o → (h'.update S (Obj.mapSeq (·.push (Value.ref s.heap.objs.size)))).get? c = some o := fun c o hc e => (Heap.get?_update_other _ _ (Ne.symm hc)).trans e
      have cS : ∀ c ∈ [z, TI, TO, i1, i2], c ≠ S := fun c hc e => by
        have := (hf c hc).1
        rw [e, hS] at this; cases this
      refine ih (i + 1) _ _ (acc ++ [.ref s.heap.objs.size]) (by omega) hix (by rw [List.length_append, hl]; rfl) I2 upd_same ?_ (fun c hc => ⟨?_, (hf c hc).2⟩) (fun c hc => ?_) ?_ fun s' H' J zt => fin s' H' J ?_
      · exact st'.keep (fun c o hc e => up c o hc e) (cS z (by simp)) (cS TI (by simp)) (cS TO (by simp)) (cS i1 (by simp)) (cS i2 (by simp)) hget (fun p hp => hp)
      · rw [upd_ne (cS c hc), upd_ne (Nat.ne_of_lt (hlt c hc))]; exact (hf c hc).1
      · rw [Heap.size_update]; show c < h'.objs.size; rw [sz]; exact Nat.lt_succ_of_lt (hlt c hc)
      · rw [Heap.size_update]; show S < h'.objs.size; rw [sz]; exact Nat.lt_succ_of_lt hSl
      · rw [List.drop_eq_getElem_cons hix, List.drop_eq_getElem_cons hiy]
        exact .step (I.hok.fresh (Nat.le_refl _)) zt
    · refine codeAny_builtin PySem.F.entry_extend_loop ?_
      rw [Around.under_plainId PySem.F.plain_extend_loop _]
      show wpAny _ A.in1 (pyNext (.ref z) >>= _) _ _ _
      refine wpAny_bind (st.done (A := A.in1) calm ap (.inr (by simp; rw [← rv.length]; omega)) fun h' kp => ?_)
      have I2 : L2.Inv X pins σ H { s with heap := h' } := I.turnedL (t' := s.toks) (ch := [z, TI, TO, i1, i2]) (fun c o hb q => kp c o (fun e => hb (by simp [e])) (fun e => hb (by simp [e])) (fun e => hb (by simp [e])) (fun e => hb (by simp [e])) q) hf
      exact wpAny_pure (fin _ H I2 (.done (.inr (List.drop_eq_nil_of_le (by omega)))))
end SvZip

set_option Elab.async false
set_option linter.all false
set_option maxRecDepth 100000
set_option maxHeartbeats 4000000
namespace SvZip
open PySem PySem.Spec PyProof.Rows L2
theorem zip_no_len : typeLookup (.type "zip") "__len__" = pure none := by rw [typeLookup_type, builtinLookup_eq_fast]; kernel_rfl
theorem zip_no_hint : typeLookup (.type "zip") "__length_hint__" = pure none := by rw [typeLookup_type, builtinLookup_eq_fast]; kernel_rfl
theorem call_list {X : Cx} {pins : List (Addr × Obj)} {σ : L2.St} {H : Hp} {s : Shared} {z TI TO i1 i2 a b : Addr} {us vs : List Value} {xs ys : List V} {Q : VK} (hc : X.calm = true) (I : L2.Inv X pins σ H s) (ap : ZipApart z TI TO i1 i2 a b) (ru : Vals xs us) (rv : Vals ys vs) (few : xs.length ≤ sizeLine)
    (st : ∀ own : Addr → Prop, ZSt s.heap z TI TO i1 i2 a b us.toArray vs.toArray 0 own) (hf : ∀ c ∈ [z, TI, TO, i1, i2], FpOk X pins H c) (hlt : ∀ c ∈ [z, TI, TO, i1, i2], c < s.heap.objs.size) (hz : IsZip s.heap z TI TO .none)
    (q : ∀ S H', H S = none → ZipTo S xs ys [] (upd H S (.lst [])) H' → Q (.ref S) H') :
    wpAny (model X.prog X.w) X.A (call (.type "list") [.ref z]) (EP X pins σ Q) X.xe s := by
  have hn : H s.heap.objs.size = none := I.hok.fresh (Nat.le_refl _)
  have hS : (s.heap.push { cls := .type "list", data := .seq #[] }).get? s.heap.objs.size = some { cls := .type "list", data := .seq #[] } := Heap.get?_push_size _ rfl
  have zS : z ≠ s.heap.objs.size := Nat.ne_of_lt (hlt z (by simp))
  refine callType_codes (Q₁ := fun obj s1 => obj = .ref s.heap.objs.size ∧ s1 = { s with heap := s.heap.push { cls := .type "list", data := .seq #[] } }) F.called_list (F.typeCall_list_1 _) F.entry_list_init
    (code_list_new _ ⟨rfl, rfl⟩) fun obj s1 h1 => ?_
  obtain ⟨rfl, rfl⟩ := h1
  refine ⟨⟨_, hS, rfl⟩, F.args_list_init_2 _ _, ?_⟩
  -- the list is tracked at once
  have I1 : L2.Inv X pins σ (upd H s.heap.objs.size (.lst [])) { s with heap := s.heap.push { cls := .type "list", data := .seq #[] } } :=
    I.laid (t' := s.toks) (fun b u e => Heap.get?_push_of_some _ e) (Nat.le_refl _) ⟨Nat.zero_le _, [], 0, .nil, hS⟩
  show wpAny _ _ (do let old ← Builtin.List.listItems (.ref s.heap.objs.size); Builtin.List.listUpdate (.ref s.heap.objs.size) (fun _ => #[]); letGo old.toList.reverse; Builtin.List.listExtendWith (.ref s.heap.objs.size) (.ref z) .none) _ _ _
  refine wpAny_bind ?_
  unfold Builtin.List.listItems
  refine wpAny_bind (wpAny_seqItems hS rfl (wpAny_pure ?_))
  show wpAny _ _ (updateSeq s.heap.objs.size (fun _ => #[]) >>= fun _ => letGo (#[] : Array Value).toList.reverse >>= fun _ => Builtin.List.listExtendWith (.ref s.heap.objs.size) (.ref z) .none) _ _ _
  refine wpAny_bind (wpAny_updateSeq hS rfl ?_)
  have I2 := I1.lstUpd (ys := []) (its := []) (its' := []) (n' := _) (f := Obj.mapSeq (fun _ => (#[] : Array Value))) upd_same hS (by rfl) .nil (Nat.zero_le _) s.toks
  have hS2 := Heap.get?_update_self (Obj.mapSeq (fun _ => (#[] : Array Value))) hS rfl
  refine wpAny_bind (wpAny_letGo ?_)
  have up2 : ∀ c o, c ≠ s.heap.objs.size → s.heap.get? c = some o → ((s.heap.push { cls := .type "list", data := .seq #[] }).update s.heap.objs.size (Obj.mapSeq (fun _ => (#[] : Array Value)))).get? c = some o :=
    fun c o hb e => (Heap.get?_update_other _ _ (Ne.symm hb)).trans (Heap.get?_push_of_some _ e)
  have tz := up2 z _ zS hz
  have ty : ∀ {h : Heap}, h.get? z = some { cls := .type "zip", dict := none, data := .fields #[.none, .bool false, .bool false, .ref TI, .ref TO], slots := #[] } → ({ s with heap := h } : Shared).TypeIs (.ref z) "zip" := fun e => ⟨_, e, rfl⟩
  unfold Builtin.List.listExtendWith
  refine wpAny_bind (wpAny_typeOf (ty tz) ?_)
  have q1 : Builtin.List.listSameRef (.ref s.heap.objs.size) (.ref z) = false := by simp [Builtin.List.listSameRef, Ne.symm zS]
  have q2 : (Value.type "zip" == Value.type "list") = false := by decide
  have q3 : (Value.type "zip" == Value.type "tuple") = false := by decide
  simp only [q1, q2, q3, Bool.or_false, Bool.false_eq_true, if_false]
  refine wpAny_bind (wpAny_pyIter_zip tz ?_)
  refine wpAny_bind (wpAny_holding ?_)
  unfold Builtin.List.listLengthHint
  refine wpAny_bind (wpAny_specialOf (ty tz) zip_no_len ?_)
  show wpAny _ _ (specialOf (Value.ref z) (Str.ofString "__length_hint__") >>= _) _ _ _
  refine wpAny_bind (wpAny_specialOf (ty tz) zip_no_hint ?_)
  refine wpAny_pure ?_
  show wpAny _ _ (rule "list.extend.makes-room" >>= fun _ => Builtin.List.listTouch (.ref s.heap.objs.size) >>= fun _ => again (.builtin "list.extend.loop" ⟨[.ref s.heap.objs.size, .ref z, .none], []⟩)) _ _ _
  refine wpAny_bind (wpAny_rule (wpAny_bind ?_))
  show wpAny _ _ (updateSeq s.heap.objs.size (·.push .none) >>= fun _ => updateSeq s.heap.objs.size (·.pop)) _ _ _
  refine wpAny_bind (wpAny_updateSeq hS2 rfl ?_)
  have hS3 := Heap.get?_update_self (Obj.mapSeq (·.push Value.none)) hS2 rfl
  have I3 := I2.lstUpd (ys := [.non]) (its := []) (its' := [Value.none]) (n' := _) (f := Obj.mapSeq (·.push Value.none)) upd_same hS2 (by rfl) (.cons (show RelV .non Value.none from rfl) .nil) (by show 1 ≤ sizeLine; decide) s.toks
  refine wpAny_updateSeq (hz := by seq_fits) hS3 rfl ?_
  have hS4 := Heap.get?_update_self (Obj.mapSeq (·.pop)) hS3 rfl
  have I4 := I3.lstUpd (ys := []) (its := [Value.none]) (its' := []) (n' := _) (f := Obj.mapSeq (·.pop)) upd_same hS3 (by rfl) .nil (Nat.zero_le _) s.toks
  have up4 : ∀ c o, c ≠ s.heap.objs.size → s.heap.get? c = some o → ((((s.heap.push { cls := .type "list", data := .seq #[] }).update s.heap.objs.size (Obj.mapSeq (fun _ => (#[] : Array Value)))).update s.heap.objs.size (Obj.mapSeq (·.push Value.none))).update s.heap.objs.size (Obj.mapSeq (·.pop))).get? c = some o :=
    fun c o hb e => (Heap.get?_update_other _ _ (Ne.symm hb)).trans ((Heap.get?_update_other _ _ (Ne.symm hb)).trans (up2 c o hb e))
  have same : upd (upd (upd (upd H s.heap.objs.size (.lst [])) s.heap.objs.size (.lst [])) s.heap.objs.size (.lst [.non])) s.heap.objs.size (.lst []) = upd H s.heap.objs.size (.lst []) := by
    funext c
    by_cases h : c = s.heap.objs.size
    · subst h; simp only [upd_same]
    · simp only [upd_ne h]
  rw [same] at I4
  have big : s.heap.objs.size < ((((s.heap.push { cls := .type "list", data := .seq #[] }).update s.heap.objs.size (Obj.mapSeq (fun _ => (#[] : Array Value)))).update s.heap.objs.size (Obj.mapSeq (·.push Value.none))).update s.heap.objs.size (Obj.mapSeq (·.pop))).objs.size := Heap.lt_size hS4
  refine wpAny_pure ⟨plainId_quiet PySem.F.plain_extend_loop _, loop (X := X) (pins := pins) (σ := σ) (show X.A.in1.handled = none from I.ok.hd hc) ap ru rv .none few xs.length 0 _ _ [] (Nat.sub_zero _) (Nat.zero_le _) rfl I4 upd_same ?_ (fun c hcm => ⟨?_, (hf c hcm).2⟩) (fun c hcm => Nat.lt_trans (hlt c hcm) big) big fun s' H' J zt => ⟨rfl, .ref s.heap.objs.size, H', J, rfl, q _ H' hn (by simpa using zt)⟩⟩
  · obtain ⟨st0, ti, t1, t2, e1, e2⟩ := st fun c => c = s.heap.objs.size
    have lt1 : ∀ {l : Addr} {xs : Array Value}, s.heap.IsTuple l xs → l ≠ s.heap.objs.size := fun {l xs} ⟨o, ho, _⟩ => Nat.ne_of_lt (Heap.lt_size ho)
    refine ⟨?_, up4 _ _ (Nat.ne_of_lt (hlt TI (by simp))) ti, t1.at fun o z => up4 _ _ (Nat.ne_of_lt (hlt i1 (by simp))) z, t2.at fun o z => up4 _ _ (Nat.ne_of_lt (hlt i2 (by simp))) z, e1.at fun o z => up4 _ _ (lt1 e1) z, e2.at fun o z => up4 _ _ (lt1 e2) z⟩
    rcases st0 with ⟨h1, x, y, h2⟩ | ⟨p, fl, ob, zh, out, c1, c2, c3, c4, po⟩
    · exact .inl ⟨up4 _ _ zS h1, x, y, up4 _ _ (Nat.ne_of_lt (hlt TO (by simp))) h2⟩
    · exact .inr ⟨p, fl, ob, up4 _ _ zS zh, up4 _ _ po out, c1, c2, c3, c4, po⟩
  · rw [upd_ne (Nat.ne_of_lt (hlt c hcm))]; exact (hf c hcm).1
end SvZip

set_option Elab.async false
set_option linter.all false
set_option maxRecDepth 100000
set_option maxHeartbeats 4000000
namespace Sv
open PySem PySem.Spec PyProof.Rows L2 SvZip
def tLz (K : PySem.W.Frag) (ta : TA) : TE := fun σ H Q => ta σ H fun zs H1 => ∃ a b xs ys, zs = [V.ref a, V.ref b] ∧ SqT K H1 a xs ∧ SqT K H1 b ys ∧ ∀ S H', H1 S = none → ZipTo S xs ys [] (upd H1 S (.lst [])) H' → Q (.ref S) H'
theorem pe_lzip {X : Cx} {e e2 : Expr} {ta : TA} {p p2 q pos : Pos} (hc : X.calm = true) (hg : Gl X "list") (hm : X.mg "list" = none) (hg2 : Gl X "zip") (hm2 : X.mg "zip" = none) (ha : PA X [e, e2] ta)
    (hs : starEach [e, e2] X.env = (false, eval e X.env) :: starEach [e2] X.env) (hpl : (backTo q (starEach [e2] X.env)).any (·.1) = false) : PE X (.Call (.Name "list" p) [.Call (.Name "zip" p2) [e, e2] [] q] [] pos) (tLz X.K ta) := by
  refine ⟨fun pins s σ H Q I h => ?_⟩
  refine Call_ (ld_blt I hg hm PyProof.Rows.boot_list ?_)
  refine PyProof.Rows.callWith_type1 (PyProof.Rows.args_cons ?_ rfl) rfl rfl
  refine Call_ (ld_blt I hg2 hm2 PyProof.Rows.boot_zip (PyProof.Rows.callWith_type1 (thn (ha.run q pins s σ H _ I h) fun us s1 hh => ?_) hs hpl))
  obtain ⟨zs, H1, I1, r1, a, b, xs, ys, ex, hqx, hqy, fin⟩ := hh
  subst ex
  obtain ⟨u1, u2, rfl, ra, rb⟩ := vals2 r1
  obtain rfl : u1 = Value.ref a := ra
  obtain rfl : u2 = Value.ref b := rb
  obtain ⟨its, rv, t1, few⟩ := I1.tuple hqx
  obtain ⟨its2, rv2, t2, _⟩ := I1.tuple hqy
  have t1' : s1.heap.IsTuple a its.toArray := t1
  have t2' : s1.heap.IsTuple b its2.toArray := t2
  obtain ⟨o1, ho1, _⟩ := id t1'
  obtain ⟨o2, ho2, _⟩ := id t2'
  refine RZ.call_zipT t1' t2' fun h' hz hTI hTO h1 h2 hsz hk => PyProof.Rows.args_nil ?_
  have I2 : L2.Inv X pins σ H1 { s1 with heap := h' } := I1.kept (t' := s1.toks) hk
  have inFive : ∀ c, c ∈ [s1.heap.objs.size + 4, s1.heap.objs.size + 2, s1.heap.objs.size + 3, s1.heap.objs.size, s1.heap.objs.size + 1] → s1.heap.objs.size ≤ c ∧ c < s1.heap.objs.size + 5 := fun c hcm => by
    simp only [List.mem_cons, List.not_mem_nil, or_false] at hcm
    rcases hcm with z | z | z | z | z <;> subst z <;> exact ⟨by first | exact Nat.le_add_right _ _ | exact Nat.le_refl _, by omega⟩
  exact SvZip.call_list hc I2 (PySem.W.ktu_apart s1.heap.objs.size a b (Heap.lt_size ho1) (Heap.lt_size ho2)) rv rv2 few (fun own => ⟨.inl ⟨hz, _, _, hTO⟩, hTI, h1, h2, t1'.at fun o z => hk _ o z, t2'.at fun o z => hk _ o z⟩)
    (fun c hcm => I1.fpOk (inFive c hcm).1 (I1.hok.fresh (inFive c hcm).1)) (fun c hcm => by show c < h'.objs.size; rw [hsz]; exact (inFive c hcm).2) hz fin
section
variable {C : Cn} {F : Hp} {ρ : List Addr} {w : Sv.W} {H : Hp}
theorem WOk.touch {S : Addr} {o : HO} (k : WOk C F ρ w H) (hF : F S = none) (hr : S ∉ ρ) : WOk C F ρ w (upd H S o) :=
  ⟨fun a u e => by rw [upd_ne (ne_of_none e hF)]; exact k.frz a u e, k.len, k.nd, fun i a c h1 h2 h3 => by
    obtain ⟨f, u, e, q⟩ := k.cel i a c h1 h2 h3
    have ne : a ≠ S := fun z => hr (z ▸ List.mem_iff_getElem?.mpr ⟨i, h1⟩)
    exact ⟨f, u, by rw [upd_ne ne]; exact e, q⟩, fun i a h1 => by
    obtain ⟨u, e⟩ := k.old i a h1
    have ne : a ≠ S := fun z => hr (z ▸ List.mem_iff_getElem?.mpr ⟨i, h1⟩)
    exact ⟨u, by rw [upd_ne ne]; exact e⟩⟩
theorem WOk.frz1 {S : Addr} {o : HO} (k : WOk C F ρ w H) (hS : H S = some o) (hF : F S = none) (hr : S ∉ ρ) : WOk C (upd F S o) ρ w H ∧ Ext F ρ (upd F S o) ρ := by
  have up : ∀ b x, F b = some x → upd F S o b = some x := fun b x y => by rw [upd_ne (ne_of_none y hF)]; exact y
  refine ⟨⟨fun a u e => ?_, k.len, k.nd, fun i a c h1 h2 h3 => ?_, k.old⟩, up, List.prefix_refl _⟩
  · by_cases ha : a = S
    · subst ha; rw [upd_same] at e; cases e; exact hS
    · rw [upd_ne ha] at e; exact k.frz a u e
  · obtain ⟨f, u, e, q⟩ := k.cel i a c h1 h2 h3
    have ne : a ≠ S := fun z => hr (z ▸ List.mem_iff_getElem?.mpr ⟨i, h1⟩)
    exact ⟨by rw [upd_ne ne]; exact f, u, e, q.up up⟩
theorem zip_world {S : Addr} : ∀ {xs ys acc : List V} {H H' : Hp}, ZipTo S xs ys acc H H' → ∀ {F : Hp} {dx dy da : List D}, WOk C F ρ w H → F S = none → S ∉ ρ → H S = some (.lst acc) → Reps C F ρ dx xs → Reps C F ρ dy ys → Reps C F ρ da acc →
    ∃ F' accs, Ext F ρ F' ρ ∧ WOk C F' ρ w H' ∧ F' S = none ∧ H' S = some (.lst accs) ∧ Reps C F' ρ (da ++ zipD dx dy) accs := by
  intro xs ys acc H H' z
  induction z with
  | done h =>
    intro F dx dy da k hF hr hS rx ry ra
    refine ⟨F, _, .refl, k, hF, hS, ?_⟩
    have : zipD dx dy = [] := by
      rcases h with rfl | rfl
      · cases rx; simp [zipD]
      · cases ry; cases dx <;> simp [zipD]
    rw [this, List.append_nil]; exact ra
  | @step x y xs ys acc H H' p hp z ih =>
    intro F dx dy da k hF hr hS rx ry ra
    cases rx with
    | cons rx0 rx =>
      cases ry with
      | cons ry0 ry =>
        rename_i d1 ds1 d2 ds2
        have pS : p ≠ S := fun e => by rw [e, hS] at hp; cases hp
        have k1 := k.new (o := .tup [x, y]) hp
        have e1 := k.newExt (o := .tup [x, y]) hp
        have hF1 : upd F p (.tup [x, y]) S = none := by rw [upd_ne (Ne.symm pS)]; exact hF
        have k2 := k1.touch (o := .lst (acc ++ [.ref p])) hF1 hr
        have rt : Rep C (upd F p (.tup [x, y])) ρ (.tup [d1, d2]) (.ref p) := .tup (SqT.of upd_same) (.cons (e1.rep rx0) (.cons (e1.rep ry0) .nil))
        obtain ⟨F', accs, ex, k', h1, h2, rs⟩ := ih k2 hF1 hr upd_same (e1.reps rx) (e1.reps ry) ((e1.reps ra).append (.cons rt .nil))
        refine ⟨F', accs, e1.trans ex, k', h1, h2, ?_⟩
        rw [List.append_assoc] at rs
        exact rs
end
section
variable {T : Tb} {k : Nat} {c : Ck} {Wd : WX} {X : Cx}
theorem r_lzip {a b : Expr} {p p2 q pos : Pos} {es : Es} {cl : CallT} (hx : XOk T k c Wd X) (tb : TbOk T k) (hcalm : c.calm = true) (hg : isGl c.S "list" = true) (h1 : ("list" : Str) ∈ T.bl) (hg2 : isGl c.S "zip" = true) (h2 : ("zip" : Str) ∈ T.bl) (s1 : isStar a = false) (s2 : isStar b = false)
    (ha : PA X [a, b] (TA' T.C Wd (evs T.G cl es))) : PE X (.Call (.Name "list" p) [.Call (.Name "zip" p2) [a, b] [] q] [] pos) (TE' T.C Wd (ev T.G cl (.lzip es))) := by
  refine PE.imp (pe_lzip (hx.calm.trans hcalm) (hx.gl hg) (by rw [hx.mg]; exact tb.free _ h1) (hx.gl hg2) (by rw [hx.mg]; exact tb.free _ h2) ha (star1 s1) (by rw [star1 s2]; rfl)) fun σ H Q qq => ?_
  have qq := TG'.eq (g := fun env w => (evs T.G cl es env w).bind fun ds w => (fun ds env w => match ds with | [.tup a, .tup b] => newL false (zipD a b) w | _ => .bad) ds env w) qq fun env w => by simp only [ev] <;> rfl
  refine TG'.thn (TG'.one (RA := Reps T.C) qq) fun vs H1 q1 => ?_
  obtain ⟨F, ρ, env, w, ds, k0, en, rs, r⟩ := q1
  split at r
  · rename_i xa xb
    obtain ⟨va, vb, rfl, ra, rb⟩ := reps2 rs
    cases ra with
    | tup ha1 rsa =>
      cases rb with
      | tup hb1 rsb =>
        refine ⟨_, _, _, _, rfl, by rw [hx.K]; exact k0.sqT ha1, by rw [hx.K]; exact k0.sqT hb1, fun S H' hS zt => ?_⟩
        have kS : WOk T.C F ρ w (upd H1 S (.lst [])) := k0.more hS
        obtain ⟨F', accs, ex, k', f1, f2, rr⟩ := zip_world zt kS (k0.free hS) (k0.out hS) upd_same rsa rsb .nil
        obtain ⟨k2, e2⟩ := k'.frz1 f2 f1 (k0.out hS)
        unfold newL at r
        split at r
        · exact r.elim
        · simp only [Bool.false_eq_true, if_false] at r
          exact r _ ρ H' _ (ex.trans e2) k2 (.lst upd_same (e2.reps (by simpa using rr)))
  · exact r.elim
end
end Sv

set_option Elab.async false
set_option linter.all false
set_option maxRecDepth 100000
set_option maxHeartbeats 4000000
namespace Sv
open PySem L2
theorem bindOk {α β : Type} {x : R α} {f : α → W → R β} {y : β} {w : W} (h : x.bind f = .ok y w) : ∃ a w', x = .ok a w' ∧ f a w' = .ok y w := by
  cases x with
  | ok a w' => exact ⟨a, w', rfl, h⟩
  | exc e w' => cases h
  | bad => cases h
theorem nxOk {α : Type} {x : R α} {y : α} {w : W} (h : x.nx = .ok y w) : x = .ok y w := by
  cases x with
  | ok a w' => exact h
  | exc e w' => cases h
  | bad => cases h
theorem lc2_of {C : Cn} {Wd : WX} {G : Prog} {cl : CallT} {own own1 : List Nat} {e : E} {t t1 : T} {it it1 : Sv.It} {ifs ifs1 : Es} {σ : St} {H : Hp} {Q : VK} (hown : ∀ i, i ∈ slotsT t → i ∈ own) (hown1 : ∀ i, i ∈ slotsT t1 → i ∈ own1) (q : TE' C Wd (ev G cl (.comp2 own e t it ifs own1 t1 it1 ifs1)) σ H Q) :
    tLc2 (TI' C Wd (evI G cl it)) (tgS C.K t) (TT' C never (evIf G cl ifs)) (TI' C never (evI G cl it1)) (tgS C.K t1) (TT' C never (evIf G cl ifs1)) (TE' C never (ev G cl e)) own own1 σ H Q := by
  obtain ⟨F, ρ, env, w, k0, en, r⟩ := q
  simp only [ev] at r
  refine ⟨F, ρ, env, w, k0, en, (Res.bind (RR := fun F ρ xs J => Wk C F ρ J xs) r).mono ?_⟩
  rintro J H1 ⟨F1, r1, xs, w1, e1, k1, wk, r⟩
  have en1 := en.up e1
  generalize hf1 : (fun (env : Env) (d1 : D) (w : W) => (asgN t1 d1 (wipeE env own1)).elim R.bad fun env => (evIf G cl ifs1 env w).bind fun b w => if b = true then (ev G cl e env w).bind fun y w => R.ofO (appC w1.length y w) else .ok () w) = f1 at r
  have hf1' : ∀ env d1 w, f1 env d1 w = (asgN t1 d1 (wipeE env own1)).elim R.bad fun env => (evIf G cl ifs1 env w).bind fun b w => if b = true then (ev G cl e env w).bind fun y w => R.ofO (appC w1.length y w) else .ok () w := fun env d1 w => by rw [← hf1]
  generalize hf : (fun (d : D) (w : W) => (asgN t d (wipeE env own)).elim R.bad fun env => (evIf G cl ifs env w).bind fun b w => if b = true then (evI G cl it1 env w).bind fun xs1 w => mapC (f1 env) xs1 w else .ok () w) = f
  have r : Res C (Rep C) Wd F1 r1 ((mapC f xs (w1 ++ [.lst []])).bind fun _ w => endC false w1.length w) σ Q := by
    rw [← hf, ← hf1]; exact r
  intro Dd hD
  refine ⟨fun i m' H => m' = xs.length - i ∧ i ≤ xs.length ∧ ∃ F2 r2 w2, Ext F1 (r1 ++ [Dd]) F2 r2 ∧ WOk C F2 r2 w2 H ∧ Res C (Rep C) Wd F1 r1 ((mapC f (xs.drop i) w2).bind fun _ w => endC false w1.length w) σ Q,
    ⟨xs.length, rfl, Nat.zero_le _, F1, r1 ++ [Dd], w1 ++ [.lst []], .refl, k1.cell hD (.lst .nil), by rw [List.drop_zero]; exact r⟩, ?_⟩
  rintro i m' H ⟨rfl, hi, F2, r2, w2, e2, k2, r⟩
  by_cases hlt : i < xs.length
  · right
    refine ⟨wk.go i H (fun a o z => k2.frz a o (e2.f a o z)) hlt, fun H' => ∃ F2 r2 w2, Ext F1 (r1 ++ [Dd]) F2 r2 ∧ WOk C F2 r2 w2 H' ∧ Res C (Rep C) Wd F1 r1 ((mapC f (xs.drop (i + 1)) w2).bind fun _ w => endC false w1.length w) σ Q, fun H' hN => ⟨_, by omega, rfl, hlt, hN⟩, fun x H' hy => ?_⟩
    obtain ⟨d, hd, hdr⟩ := drop_cons hlt
    rw [hdr, mapC_cons] at r
    have e2' : Ext F1 r1 F2 r2 := (Ext.cell (F := F1) (ρ := r1) (p := Dd)).trans e2
    obtain ⟨F3, k3, e3, rd⟩ := wk.yld i H F2 r2 w2 x H' d k2 e2' hd hy
    have enw : EnvOk C F3 r2 (wipeE env own) (L2.wipe σ own) := ((en1.up e2').up e3).wipe own
    have hok : ∃ w3, f d w2 = .ok () w3 ∧ Res C (Rep C) Wd F1 r1 ((mapC f (xs.drop (i + 1)) w3).bind fun _ w => endC false w1.length w) σ Q := by
      cases hfd : f d w2 with
      | ok u w3 => rw [hfd] at r; exact ⟨w3, rfl, r⟩
      | exc x w3 => rw [hfd] at r; exact r.elim
      | bad => rw [hfd] at r; exact r.elim
    obtain ⟨w3, hfd, r⟩ := hok
    rw [← hf] at hfd
    cases ha : asgN t d (wipeE env own) with
    | none => simp only [ha, Option.elim] at hfd; cases hfd
    | some env2 =>
      simp only [ha, Option.elim] at hfd
      refine asgN_ok k3 enw rd ha fun σ2 en2 hl2 hs2 => ⟨wipe_same (fun j hj => hs2 j fun z => hj (hown j z)) (hl2.trans (wipe_length σ own)), F3, r2, env2, w2, k3, en2, ?_⟩
      obtain ⟨b, w4, hi2, hfd⟩ := bindOk hfd
      rw [hi2]
      intro F4 r4 H4 b' e4 k4 hb
      subst hb
      cases b with
      | false =>
        simp only [Bool.false_eq_true, if_false, R.ok.injEq] at hfd
        obtain ⟨_, rfl⟩ := hfd
        exact ⟨F4, r4, w4, e2.trans (e3.trans e4), k4, r⟩
      | true =>
        simp only [if_true] at hfd
        refine ⟨F4, r4, env2, w4, k4, en2.up e4, ?_⟩
        obtain ⟨xs1, w5, hi3, hfd⟩ := bindOk hfd
        rw [hi3]
        intro F5 r5 H5 J1 e5 k5 wk1
        have ee5 : Ext F1 (r1 ++ [Dd]) F5 r5 := e2.trans (e3.trans (e4.trans e5))
        refine ⟨fun j m' H => m' = xs1.length - j ∧ j ≤ xs1.length ∧ ∃ F6 r6 w6, Ext F5 r5 F6 r6 ∧ WOk C F6 r6 w6 H ∧ mapC (f1 env2) (xs1.drop j) w6 = .ok () w3,
          ⟨xs1.length, rfl, Nat.zero_le _, F5, r5, w5, .refl, k5, by rw [List.drop_zero]; exact hfd⟩, ?_⟩
        rintro j m' H ⟨rfl, hj, F6, r6, w6, e6, k6, hm⟩
        by_cases hlt1 : j < xs1.length
        · right
          refine ⟨wk1.go j H (fun a o z => k6.frz a o (e6.f a o z)) hlt1, fun H' => ∃ F6 r6 w6, Ext F5 r5 F6 r6 ∧ WOk C F6 r6 w6 H' ∧ mapC (f1 env2) (xs1.drop (j + 1)) w6 = .ok () w3, fun H' hN => ⟨_, by omega, rfl, hlt1, hN⟩, fun x1 H' hy1 => ?_⟩
          obtain ⟨d1, hd1, hdr1⟩ := drop_cons hlt1
          rw [hdr1, mapC_cons] at hm
          obtain ⟨_, w7, hm1, hm2⟩ := bindOk hm
          have hm1 := nxOk hm1
          rw [hf1'] at hm1
          obtain ⟨F7, k7, e7, rd1⟩ := wk1.yld j H F6 r6 w6 x1 H' d1 k6 e6 hd1 hy1
          have enw1 : EnvOk C F7 r6 (wipeE env2 own1) (L2.wipe σ2 own1) := ((((en2.up e4).up e5).up e6).up e7).wipe own1
          cases ha1 : asgN t1 d1 (wipeE env2 own1) with
          | none => simp only [ha1, Option.elim] at hm1; cases hm1
          | some env3 =>
            simp only [ha1, Option.elim] at hm1
            refine asgN_ok k7 enw1 rd1 ha1 fun σ3 en3 hl3 hs3 => ⟨wipe_same (fun j hj => hs3 j fun z => hj (hown1 j z)) (hl3.trans (wipe_length σ2 own1)), F7, r6, env3, w6, k7, en3, ?_⟩
            obtain ⟨b1, w8, hi8, hm1⟩ := bindOk hm1
            rw [hi8]
            intro F8 r8 H8 b1' e8 k8 hb1
            subst hb1
            cases b1 with
            | false =>
              simp only [Bool.false_eq_true, if_false, R.ok.injEq] at hm1
              obtain ⟨_, rfl⟩ := hm1
              exact ⟨F8, r8, w8, e6.trans (e7.trans e8), k8, hm2⟩
            | true =>
              simp only [if_true] at hm1
              have ee8 : Ext F5 r5 F8 r8 := e6.trans (e7.trans e8)
              -- the element, over the inner walk's own world
              refine ⟨F8, r8, env3, w8, k8, en3.up e8, ?_⟩
              obtain ⟨y, w9, he9, hm1⟩ := bindOk hm1
              rw [he9]
              intro F9 r9 H9 v e9 k9 rv
              cases hap : appC w1.length y w9 with
              | none => rw [hap] at hm1; cases hm1
              | some w10 =>
                rw [hap] at hm1
                simp only [R.ofO, R.ok.injEq] at hm1
                obtain ⟨_, rfl⟩ := hm1
                unfold appC at hap
                split at hap
                · rename_i acc hacc
                  split at hap
                  · rename_i hc
                    simp only [Bool.and_eq_true, decide_eq_true_eq] at hc
                    cases hap
                    have ee9 : Ext F5 r5 F9 r9 := ee8.trans e9
                    have hx : r9[w1.length]? = some Dd := (ee5.trans ee9).ix (by rw [← k1.len]; simp)
                    obtain ⟨_, o, ho, qo⟩ := k9.cel _ _ _ hx hacc (by intro z; cases z)
                    cases qo with
                    | @lst _ accv rs =>
                      refine ⟨accv, ho, ?_, F9, r9, _, ee9, k9.set hx hacc (by intro z; cases z) (.lst (rs.append (.cons (rv.noRef hc.1) .nil))), hm2⟩
                      rw [← rs.length]; exact Nat.lt_of_lt_of_le hc.2 (small16 (Nat.le_refl _))
                  · cases hap
                · cases hap
        · left
          have hje : j = xs1.length := by omega
          subst hje
          refine ⟨wk1.stop _ H (fun a o z => k6.frz a o (e6.f a o z)) (Nat.le_refl _), ?_⟩
          rw [List.drop_length] at hm
          simp only [mapC, R.ok.injEq] at hm
          obtain ⟨_, rfl⟩ := hm
          exact ⟨F6, r6, w6, ee5.trans e6, k6, r⟩
  · left
    have hie : i = xs.length := by omega
    subst hie
    refine ⟨wk.stop _ H (fun a o z => k2.frz a o (e2.f a o z)) (Nat.le_refl _), ?_⟩
    rw [List.drop_length] at r
    exact endC_ok k1.len e2 k2 r
section
variable {T : Tb} {k : Nat} {c : Ck} {Wd : WX} {X : Cx}
theorem r_comp2 {elt tg iter tg1 iter1 : Expr} {ifs ifs1 : List Expr} {scope : Scope} {pos : Pos} {own own1 : List Nat} {e : E} {t t1 : Sv.T} {it it1 : Sv.It} {es es1 : Es} {cl : CallT} (hx : XOk T k c Wd X) (hcalm : c.calm = true) (hb : blkC c.N c.S scope (ownOf c.N own) = true) (hown : ∀ i, i ∈ slotsT t → i ∈ own) (hown1 : ∀ i, i ∈ slotsT t1 → i ∈ own1) (hsub : ∀ i, i ∈ own1 → i ∈ own) (hset : isSet iter = false) (hset1 : isSet iter1 = false)
    (hi : PI X tg iter (TI' T.C Wd (evI T.G cl it))) (hg : ∀ X', XOk T k (c.blk scope) never X' → PG X' tg (tgS T.C.K t)) (ht : ∀ X', XOk T k (c.blk scope) never X' → PTs X' ifs (TT' T.C never (evIf T.G cl es)))
    (hi1 : ∀ X', XOk T k (c.blk scope) never X' → PI X' tg1 iter1 (TI' T.C never (evI T.G cl it1))) (hg1 : ∀ X', XOk T k (c.blk scope) never X' → PG X' tg1 (tgS T.C.K t1)) (ht1 : ∀ X', XOk T k (c.blk scope) never X' → PTs X' ifs1 (TT' T.C never (evIf T.G cl es1)))
    (he : ∀ X', XOk T k (c.blk scope) never X' → PE X' elt (TE' T.C never (ev T.G cl e))) :
    PE X (.ListComp elt [⟨tg, iter, ifs, 0⟩, ⟨tg1, iter1, ifs1, 0⟩] scope pos) (TE' T.C Wd (ev T.G cl (.comp2 own e t it es own1 t1 it1 es1))) := by
  have ok : BlkOk X.N X.env.scope scope (ownOf c.N own) := by rw [hx.nms, hx.sc]; exact blkOk_by hb
  have h := pe_lc2 (pos := pos) (vs1 := own1) (hx.calm.trans hcalm) (by rw [hx.nms]; exact hx.nd) hi ok (by rw [ownOf_snd]; exact hsub) (fun s H C cl fp => hg _ (hx.blk scope s H C cl fp)) (fun s H C cl fp => ht _ (hx.blk scope s H C cl fp)) (fun s H C cl fp => hi1 _ (hx.blk scope s H C cl fp)) (fun s H C cl fp => hg1 _ (hx.blk scope s H C cl fp)) (fun s H C cl fp => ht1 _ (hx.blk scope s H C cl fp)) (fun s H C cl fp => he _ (hx.blk scope s H C cl fp))
    (by intro x; cases iter <;> first | rfl | (simp [isSet] at hset)) (by intro env x; cases iter1 <;> first | rfl | (simp [isSet] at hset1))
  rw [ownOf_snd] at h
  exact PE.imp h fun σ H Q q => lc2_of hown hown1 q
end
end Sv

set_option Elab.async false
set_option linter.all false
set_option maxRecDepth 100000
set_option maxHeartbeats 4000000
namespace Sv
open PySem L2
theorem zipD_len : ∀ (xs ys : List D), (zipD xs ys).length = min xs.length ys.length
  | [], _ => by simp [zipD]
  | _ :: _, [] => by simp [zipD]
  | x :: xs, y :: ys => by simp only [zipD, List.length_cons, zipD_len xs ys]; omega
theorem zipD_at : ∀ (xs ys : List D) (i : Nat) (d : D), (zipD xs ys)[i]? = some d → ∃ x y, xs[i]? = some x ∧ ys[i]? = some y ∧ d = .tup [x, y]
  | [], _, _, _, h => by simp [zipD] at h
  | _ :: _, [], _, _, h => by simp [zipD] at h
  | x :: xs, y :: ys, 0, d, h => by simp [zipD] at h; exact ⟨x, y, rfl, rfl, h.symm⟩
  | x :: xs, y :: ys, i + 1, d, h => by
    simp only [zipD, List.getElem?_cons_succ] at h
    obtain ⟨a, b, h1, h2, h3⟩ := zipD_at xs ys i d h
    exact ⟨a, b, by simpa using h1, by simpa using h2, h3⟩
theorem wk_zipL {C : Cn} {F : Hp} {ρ : List Addr} {a b : Addr} {xs ys : List D} {vs us : List V} (h : SqL C.K F a vs) (r : Reps C F ρ xs vs) (h' : SqL C.K F b us) (r' : Reps C F ρ ys us) : Wk C F ρ (L2.Itz C.K a b) (zipD xs ys) := by
  refine ⟨fun i H k hi => ?_, fun i H k hi => ⟨vs, us, sqL_up k h, sqL_up k h', ?_⟩, fun i H F1 r1 w x H' d k e1 hd y => ?_⟩
  · rw [zipD_len] at hi
    have l1 := r.length; have l2 := r'.length
    exact ⟨vs, us, vs[i]'(by omega), us[i]'(by omega), sqL_up k h, sqL_up k h', List.getElem?_eq_getElem _, List.getElem?_eq_getElem _⟩
  · rw [zipD_len] at hi
    have l1 := r.length; have l2 := r'.length
    omega
  · obtain ⟨p, x', y', rfl, hp, rfl, q1, q2⟩ := y
    obtain ⟨dx, dy, h1, h2, rfl⟩ := zipD_at _ _ _ _ hd
    obtain ⟨v, hv, rv⟩ := r.get h1
    obtain ⟨u, hu, ru⟩ := r'.get h2
    have a1 := q1 vs (sqL_up (K := C.K) (fun a o z => k.frz a o (e1.f a o z)) h)
    have a2 := q2 us (sqL_up (K := C.K) (fun a o z => k.frz a o (e1.f a o z)) h')
    rw [hv] at a1; cases a1
    rw [hu] at a2; cases a2
    have ex := k.newExt (o := .tup [x', y']) hp
    exact ⟨_, k.new hp, ex, .tup (SqT.of upd_same) (.cons (ex.rep (e1.rep rv)) (.cons (ex.rep (e1.rep ru)) .nil))⟩
theorem wk_zipT {C : Cn} {F : Hp} {ρ : List Addr} {a b : Addr} {xs ys : List D} {vs us : List V} (h : SqT C.K F a vs) (r : Reps C F ρ xs vs) (h' : SqT C.K F b us) (r' : Reps C F ρ ys us) : Wk C F ρ (RZ.ItzT C.K a b) (zipD xs ys) := by
  refine ⟨fun i H k hi => ?_, fun i H k hi => ⟨vs, us, sqT_up k h, sqT_up k h', ?_⟩, fun i H F1 r1 w x H' d k e1 hd y => ?_⟩
  · rw [zipD_len] at hi
    have l1 := r.length; have l2 := r'.length
    exact ⟨vs, us, vs[i]'(by omega), us[i]'(by omega), sqT_up k h, sqT_up k h', List.getElem?_eq_getElem _, List.getElem?_eq_getElem _⟩
  · rw [zipD_len] at hi
    have l1 := r.length; have l2 := r'.length
    omega
  · obtain ⟨p, x', y', rfl, hp, rfl, q1, q2⟩ := y
    obtain ⟨dx, dy, h1, h2, rfl⟩ := zipD_at _ _ _ _ hd
    obtain ⟨v, hv, rv⟩ := r.get h1
    obtain ⟨u, hu, ru⟩ := r'.get h2
    have a1 := q1 vs (sqT_up (K := C.K) (fun a o z => k.frz a o (e1.f a o z)) h)
    have a2 := q2 us (sqT_up (K := C.K) (fun a o z => k.frz a o (e1.f a o z)) h')
    rw [hv] at a1; cases a1
    rw [hu] at a2; cases a2
    have ex := k.newExt (o := .tup [x', y']) hp
    exact ⟨_, k.new hp, ex, .tup (SqT.of upd_same) (.cons (ex.rep (e1.rep rv)) (.cons (ex.rep (e1.rep ru)) .nil))⟩
section
variable {T : Tb} {k : Nat} {c : Ck} {Wd : WX} {X : Cx}
theorem i_zip {elts : List Expr} {kk : Nat} {tpos : Pos} {a b : Expr} {es : Es} {p pos : Pos} {cl : CallT} (hx : XOk T k c Wd X) (tb : TbOk T k) (hg : isGl c.S "zip" = true) (hfree : ("zip" : Str) ∈ T.bl) (hst : isStar a = false) (hst2 : isStar b = false) (hl : es.len = 2) (ha : PA X [a, b] (TA' T.C Wd (evs T.G cl es))) :
    PI X (.Tuple elts kk tpos) (.Call (.Name "zip" p) [a, b] [] pos) (TI' T.C Wd (evI T.G cl (.zip es))) := by
  have hK := hx.K
  have hm : X.mg "zip" = none := by rw [hx.mg]; exact tb.free _ hfree
  have hs : starEach [a, b] X.env = (false, eval a X.env) :: starEach [b] X.env := by
    cases a <;> first | rfl | (simp [isStar] at hst)
  have hpl : (backTo pos (starEach [b] X.env)).any (·.1) = false := by
    rw [star1 hst2]; rfl
  refine ⟨fun pins s σ H Rr I q => (RZ.pi_zipA (hx.gl hg) hm ha hs hpl).run pins s σ H Rr I ?_⟩
  obtain ⟨F, ρ, env, w, k0, en, r⟩ := q
  simp only [evI] at r
  refine ⟨F, ρ, env, w, k0, en, ?_⟩
  cases e : evs T.G cl es env w with
  | bad => rw [e] at r; exact r.elim
  | exc x w1 => rw [e] at r; exact r
  | ok ds w1 =>
    rw [e] at r
    simp only [R.bind] at r
    intro F' ρ' H' vs ex k' rv
    have hl2 : ds.length = 2 := by rw [evs_len e]; exact hl
    match ds, hl2, rv with
    | [d1, d2], _, .cons q1 (.cons q2 .nil) =>
      obtain ⟨l, hz, r⟩ := r.lift
      unfold zipOf at hz
      split at hz
      · rename_i xs ys e2
        cases e2; cases hz
        cases q1 with
        | lst h1 r1 =>
          cases q2 with
          | lst h2 r2 =>
            exact ⟨_, _, _, _, rfl, .inl ⟨SqL.of (k'.frz _ _ h1), SqL.of (k'.frz _ _ h2), by rw [hK]; exact r F' ρ' H' _ ex k' (wk_zipL (SqL.of h1) r1 (SqL.of h2) r2)⟩⟩
      · rename_i xs ys e2
        cases e2; cases hz
        cases q1 with
        | tup h1 r1 =>
          cases q2 with
          | tup h2 r2 =>
            exact ⟨_, _, _, _, rfl, .inr ⟨by rw [hK]; exact k'.sqT h1, by rw [hK]; exact k'.sqT h2, by rw [hK]; exact r F' ρ' H' _ ex k' (wk_zipT h1 r1 h2 r2)⟩⟩
      · cases hz
theorem s_aug {x : Str} {i : Nat} {o : BOp} {e : Expr} {ee : E} {pos pos' : Pos} {cl : CallT} (hx : XOk T k c Wd X) (ho : o = .add ∨ o = .sub) (hi : c.N[i]? = some x) (hl : c.S.names.lookup x = some .local) (he : PE X e (TE' T.C Wd (ev T.G cl ee))) :
    PS X (.AugAssign (.Name x pos') (opPy o) e pos) (fun D σ H => ∃ F ρ env w, WOk T.C F ρ w H ∧ EnvOk T.C F ρ env σ ∧ ∃ d, locF env i = some d ∧ Res T.C (Rep T.C) Wd F ρ (ev T.G cl ee env w) σ fun v H1 => ∃ F1 r1 y w1 z, Ext F ρ F1 r1 ∧ WOk T.C F1 r1 w1 H1 ∧ Rep T.C F1 r1 y v ∧ augF o d y = some z ∧ ∀ u, Rep T.C F1 r1 z u → D.nx (σ.set i (some u)) H1) := by
  have hN : X.N.Nodup := by rw [hx.nms]; exact hx.nd
  have hi' : X.N[i]? = some x := by rw [hx.nms]; exact hi
  have hlo : Loc X.env.scope x := by rw [hx.sc]; exact .inl hl
  have hfn : X.fn x = true ∨ X.env.scope.names.lookup x = some .local := .inr (by rw [hx.sc]; exact hl)
  have main : ∀ (f : Int → Int → Int), PIp X (opPy o) (ipI f) → (∀ d y z, augF o d y = some z → ∃ a b, d = .int a ∧ y = .int b ∧ z = .int (f a b)) → PS X (.AugAssign (.Name x pos') (opPy o) e pos) (fun D σ H => ∃ F ρ env w, WOk T.C F ρ w H ∧ EnvOk T.C F ρ env σ ∧ ∃ d, locF env i = some d ∧ Res T.C (Rep T.C) Wd F ρ (ev T.G cl ee env w) σ fun v H1 => ∃ F1 r1 y w1 z, Ext F ρ F1 r1 ∧ WOk T.C F1 r1 w1 H1 ∧ Rep T.C F1 r1 y v ∧ augF o d y = some z ∧ ∀ u, Rep T.C F1 r1 z u → D.nx (σ.set i (some u)) H1) := by
    intro f hp hf
    refine PS.imp (ps_aug hN hi' hlo he hp hfn) fun D σ H q => ?_
    obtain ⟨F, ρ, env, w, k0, en, d, hd, r⟩ := q
    have e2 : env[i]? = some (some d) := by
      unfold locF at hd
      split at hd
      · rename_i d' h; rw [h]; cases hd; rfl
      · cases hd
    obtain ⟨v, h1, h2⟩ := en.at_ i d e2
    refine ⟨v, h1, F, ρ, env, w, k0, en, r.mono ?_⟩
    rintro u H1 ⟨F1, r1, y, w1, z, ex, k1, ry, hz, q⟩
    obtain ⟨a, b, rfl, rfl, rfl⟩ := hf _ _ _ hz
    cases h2
    cases ry
    exact ⟨a, b, rfl, rfl, q _ (.int _)⟩
  rcases ho with rfl | rfl
  · exact main (fun i j => i + j) ip_add fun d y z h => by
      cases d <;> cases y <;> simp [augF] at h
      exact ⟨_, _, rfl, rfl, h.symm⟩
  · exact main (fun i j => i - j) ip_sub fun d y z h => by
      cases d <;> cases y <;> simp [augF] at h
      exact ⟨_, _, rfl, rfl, h.symm⟩
end
end Sv

set_option Elab.async false
set_option linter.all false
set_option maxRecDepth 100000
set_option maxHeartbeats 4000000
namespace Sv
open PySem L2
section
variable {T : Tb} {k : Nat} {c : Ck} {Wd : WX} {X : Cx}
theorem a_spNil {cl : CallT} : PA X [] (TA' T.C Wd (evsp T.G cl [] .nil)) := by
  refine PA.imp pa_nil fun σ H Q q => ?_
  obtain ⟨F, ρ, env, w, k0, en, r⟩ := q
  simp only [evsp] at r
  exact Res.here (C := T.C) (RR := Reps T.C) r k0 .nil
theorem a_sp {a : Expr} {as : List Expr} {ea : E} {ss : List Bool} {es : Es} {cl : CallT} (hs : isStar a = false) (ha : PE X a (TE' T.C Wd (ev T.G cl ea))) (hr : PA X as (TA' T.C Wd (evsp T.G cl ss es))) : PA X (a :: as) (TA' T.C Wd (evsp T.G cl (false :: ss) (.cons ea es))) := by
  refine PA.imp (pa_cons ha hr (star1 hs)) fun σ H Q q => ?_
  obtain ⟨F, ρ, env, w, k0, en, r⟩ := q
  simp only [evsp] at r
  refine ⟨F, ρ, env, w, k0, en, (Res.bind (RR := Rep T.C) r).mono ?_⟩
  rintro v H1 ⟨F1, r1, x, w1, e1, k1, rx, q1⟩
  refine ⟨F1, r1, env, w1, k1, en.up e1, (Res.bind (RR := Reps T.C) q1).mono ?_⟩
  rintro vs H2 ⟨F2, r2, xs, w2, e2, k2, rxs, q2⟩
  exact Res.here (C := T.C) (RR := Reps T.C) q2 k2 (.cons (e2.rep rx) rxs)
theorem a_spS {a : Expr} {as : List Expr} {ea : E} {ss : List Bool} {es : Es} {p : Pos} {cl : CallT} (hx : XOk T k c Wd X) (ha : PE X a (TE' T.C Wd (ev T.G cl ea))) (hr : PA X as (TA' T.C Wd (evsp T.G cl ss es))) : PA X (.Starred a p :: as) (TA' T.C Wd (evsp T.G cl (true :: ss) (.cons ea es))) := by
  refine PA.imp (StX.pa_star ha hr rfl) fun σ H Q q => ?_
  obtain ⟨F, ρ, env, w, k0, en, r⟩ := q
  simp only [evsp] at r
  refine ⟨F, ρ, env, w, k0, en, (Res.bind (RR := Rep T.C) r).mono ?_⟩
  rintro v H1 ⟨F1, r1, x, w1, e1, k1, rx, q1⟩
  have key : ∀ {xs : List D} {vs : List V}, Reps T.C F1 r1 xs vs → seqOf x = some xs → TA' T.C Wd (evsp T.G cl ss es) σ H1 fun ys H2 => Q (vs ++ ys) H2 := by
    intro xs vs rs hj
    rw [hj] at q1
    refine ⟨F1, r1, env, w1, k1, en.up e1, (Res.bind (RR := Reps T.C) q1).mono ?_⟩
    rintro us H2 ⟨F2, r2, ys, w2, e2, k2, ry, q2⟩
    exact Res.here (C := T.C) (RR := Reps T.C) q2 k2 ((e2.reps rs).append ry)
  cases x with
  | lst xs => cases rx with | lst hf rs => exact ⟨_, _, rfl, .inr (SqL.of (k1.frz _ _ hf)), key rs rfl⟩
  | tup xs => cases rx with | tup hf rs => exact ⟨_, _, rfl, .inl (by rw [hx.K]; exact k1.sqT hf), key rs rfl⟩
  | _ => exact q1.elim
def unstar : List Bool → List Expr → Option (List Expr)
  | [], [] => some []
  | false :: ss, x :: xs => if isStar x then none else (unstar ss xs).map (x :: ·)
  | true :: ss, .Starred x _ :: xs => (unstar ss xs).map (x :: ·)
  | _, _ => none
theorem sp_of {cl : CallT} (hx : XOk T k c Wd X) : ∀ {ss : List Bool} {es : Es} {xs ys : List Expr}, unstar ss xs = some ys → PJ X ys (jS T.C Wd T.G cl es) → PA X xs (TA' T.C Wd (evsp T.G cl ss es))
  | [], es, [], ys, h, hj => by
    simp only [unstar, Option.some.injEq] at h
    subst h
    cases es with
    | nil => exact a_spNil
    | cons e r => cases hj
  | [], _, _ :: _, _, h, _ => by simp [unstar] at h
  | b :: _, _, [], _, h, _ => by cases b <;> simp [unstar] at h
  | false :: ss, es, x :: xs, ys, h, hj => by
    simp only [unstar] at h
    split at h
    · cases h
    rename_i hs
    cases hu : unstar ss xs with
    | none => rw [hu] at h; cases h
    | some zs =>
      rw [hu] at h
      simp only [Option.map_some, Option.some.injEq] at h
      subst h
      cases es with
      | nil => cases hj
      | cons e r =>
        rw [show jS T.C Wd T.G cl (.cons e r) = TE' T.C Wd (ev T.G cl e) :: jS T.C Wd T.G cl r from rfl] at hj
        cases hj with
        | cons h1 h2 => exact a_sp (by simpa using hs) h1 (sp_of hx hu h2)
  | true :: ss, es, x :: xs, ys, h, hj => by
    cases x with
    | Starred x p =>
      simp only [unstar] at h
      cases hu : unstar ss xs with
      | none => rw [hu] at h; cases h
      | some zs =>
        rw [hu] at h
        simp only [Option.map_some, Option.some.injEq] at h
        subst h
        cases es with
        | nil => cases hj
        | cons e r =>
          rw [show jS T.C Wd T.G cl (.cons e r) = TE' T.C Wd (ev T.G cl e) :: jS T.C Wd T.G cl r from rfl] at hj
          cases hj with
          | cons h1 h2 => exact a_spS hx h1 (sp_of hx hu h2)
    | _ => simp [unstar] at h
theorem r_lsts {as : List Expr} {ss : List Bool} {es : Es} {m : Bool} {p : Pos} {cl : CallT} (ha : PA X as (TA' T.C Wd (evsp T.G cl ss es))) : PE X (.List as p) (TE' T.C Wd (ev T.G cl (.lsts m ss es))) := by
  refine PE.imp (pe_lst ha) fun σ H Q q => ?_
  have q := TG'.eq (g := fun env w => (evsp T.G cl ss es env w).bind fun ds w => (fun ds env w => newL m ds w) ds env w) q fun env w => by simp only [ev]
  refine TG'.thn (TG'.one (RA := Reps T.C) q) fun vs H1 q1 => ?_
  obtain ⟨F, ρ, env, w, ds, k0, en, rs, r⟩ := q1
  exact newL_ok k0 rs r
theorem r_tups {as : List Expr} {ss : List Bool} {es : Es} {x1 : Nat} {p : Pos} {cl : CallT} (ha : PA X as (TA' T.C Wd (evsp T.G cl ss es))) : PE X (.Tuple as x1 p) (TE' T.C Wd (ev T.G cl (.tups ss es))) := by
  refine PE.imp (pe_tup ha) fun σ H Q q => ?_
  have q := TG'.eq (g := fun env w => (evsp T.G cl ss es env w).bind fun ds w => (fun ds env w => (if ds.length ≤ 100000 then (.ok (.tup ds) w : R D) else .bad)) ds env w) q fun env w => by simp only [ev]
  refine TG'.thn (TG'.one (RA := Reps T.C) q) fun vs H1 q1 => ?_
  obtain ⟨F, ρ, env, w, ds, k0, en, rs, r⟩ := q1
  split at r
  · exact ⟨small16 (by rw [← rs.length]; omega), fun p hp => r.aft.tup k0 rs hp⟩
  · exact r.elim
end
end Sv

set_option Elab.async false
set_option linter.all false
set_option maxRecDepth 100000
set_option maxHeartbeats 4000000
namespace Sv
open PySem L2
def pairTE : List TE → List (TE × TE)
  | a :: b :: r => (a, b) :: pairTE r | _ => []
def evenEs : Es → Bool
  | .nil => true | .cons _ (.cons _ r) => evenEs r | _ => false
def flatKV : List (Option Expr) → List Expr → Option (List Expr)
  | [], [] => some []
  | some k :: ks, v :: vs => (flatKV ks vs).map fun r => k :: v :: r
  | _, _ => none
def flat2 (ps : List (V × V)) : List V := ps.flatMap fun p => [p.1, p.2]
section
variable {T : Tb} {k : Nat} {c : Ck} {Wd : WX} {X : Cx}
theorem pps_of {pos : Pos} : ∀ {ks : List (Option Expr)} {vs xs : List Expr} {ts : List TE}, flatKV ks vs = some xs → PJ X xs ts → PPs X pos ks vs (pairTE ts) ∧ ks.all (·.isSome) = true ∧ ks.length = vs.length
  | [], [], xs, ts, h, hj => by
    simp only [flatKV, Option.some.injEq] at h
    subst h
    cases hj
    exact ⟨pps_nil, rfl, rfl⟩
  | [], _ :: _, _, _, h, _ => by simp [flatKV] at h
  | none :: _, _, _, _, h, _ => by simp [flatKV] at h
  | some _ :: _, [], _, _, h, _ => by simp [flatKV] at h
  | some k :: ks, v :: vs, xs, ts, h, hj => by
    simp only [flatKV] at h
    cases hr : flatKV ks vs with
    | none => rw [hr] at h; cases h
    | some r =>
      rw [hr] at h
      simp only [Option.map_some, Option.some.injEq] at h
      subst h
      cases hj with
      | cons h1 hj =>
        cases hj with
        | cons h2 hj =>
          obtain ⟨q1, q2, q3⟩ := pps_of hr hj
          exact ⟨pps_cons h1 h2 q1, by simpa using q2, by simp [q3]⟩
theorem evs_step {C : Cn} {G : Prog} {cl : CallT} {a : E} {es : Es} {σ : St} {H : Hp} {K : List V → Hp → Prop} (q : TG' C (Reps C) Wd (evs G cl (.cons a es)) σ H K) : TE' C Wd (ev G cl a) σ H fun x H1 => TG' C (Reps C) Wd (evs G cl es) σ H1 fun vs H2 => K (x :: vs) H2 := by
  obtain ⟨F, ρ, env, w, k0, en, r⟩ := q
  simp only [evs] at r
  refine ⟨F, ρ, env, w, k0, en, (Res.bind (RR := Rep C) r).mono ?_⟩
  rintro v H1 ⟨F1, r1, x, w1, e1, k1, rx, q1⟩
  refine ⟨F1, r1, env, w1, k1, en.up e1, (Res.bind (RR := Reps C) q1).mono ?_⟩
  rintro vs H2 ⟨F2, r2, xs, w2, e2, k2, rxs, q2⟩
  exact Res.here (C := C) (RR := Reps C) q2 k2 (.cons (e2.rep rx) rxs)
theorem tPairs_of {C : Cn} {G : Prog} {cl : CallT} : ∀ {es : Es}, evenEs es = true → ∀ {σ : St} {H : Hp} {Q : List (V × V) → Hp → Prop}, TG' C (Reps C) Wd (evs G cl es) σ H (fun vs H' => ∃ ps, flat2 ps = vs ∧ Q ps H') → tPairs (pairTE (jS C Wd G cl es)) σ H Q
  | .nil, _, σ, H, Q, q => by
    obtain ⟨F, ρ, env, w, k0, en, r⟩ := q
    simp only [evs] at r
    obtain ⟨ps, h1, h2⟩ := Res.here (C := C) (RR := Reps C) r k0 .nil
    cases ps with
    | nil => exact h2
    | cons p r => simp [flat2] at h1
  | .cons a .nil, h, _, _, _, _ => by simp [evenEs] at h
  | .cons a (.cons b es), h, σ, H, Q, q => by
    simp only [evenEs] at h
    show TE' C Wd (ev G cl a) σ H fun x H1 => TE' C Wd (ev G cl b) σ H1 fun y H2 => tPairs (pairTE (jS C Wd G cl es)) σ H2 fun ps H3 => Q ((x, y) :: ps) H3
    refine TG'.thn (evs_step q) fun x H1 q1 => TG'.thn (evs_step q1) fun y H2 q2 => tPairs_of h (TG'.thn q2 fun vs H3 => ?_)
    rintro ⟨ps, h1, h2⟩
    cases ps with
    | nil => simp [flat2] at h1
    | cons p r =>
      obtain ⟨p1, p2⟩ := p
      simp only [flat2, List.flatMap_cons, List.cons_append, List.nil_append, List.cons.injEq] at h1
      obtain ⟨rfl, rfl, h1⟩ := h1
      exact ⟨r, h1, h2⟩
theorem mk_of {C : Cn} {F : Hp} {ρ : List Addr} : ∀ {ds : List D} {vs : List V} {acc out : List (D × D)} {es : List (Key × V)}, Reps C F ρ ds vs → mkA ds acc = some out → RepK C F [] acc es →
    ∃ kvs : List (Key × V), flat2 (kvs.map fun kv => (kV kv.1, kv.2)) = vs ∧ kvs.length * 2 = ds.length ∧ RepK C F [] out (mergeK es kvs)
  | [], _, acc, out, es, rs, h, q => by
    cases rs
    simp only [mkA, Option.some.injEq] at h
    subst h
    exact ⟨[], rfl, rfl, q⟩
  | [_], _, _, _, _, _, h, _ => by simp [mkA] at h
  | k :: v :: ds, _, acc, out, es, rs, h, q => by
    simp only [mkA] at h
    split at h
    · rename_i hc
      simp only [Bool.and_eq_true] at hc
      cases rs with
      | cons rk rs =>
        cases rs with
        | cons rv rs =>
          obtain ⟨yk, hyk⟩ := keyA_key hc.1
          obtain ⟨kvs, h1, h2, h3⟩ := mk_of rs h (RepK.putM hyk (rv.noRef hc.2) q)
          refine ⟨(yk, _) :: kvs, ?_, by simp; omega, h3⟩
          rw [keyV rk hyk]
          simp only [List.map_cons, flat2, List.flatMap_cons, List.cons_append, List.nil_append]
          rw [← h1]; rfl
    · cases h
theorem r_dct {ks : List (Option Expr)} {vs xs : List Expr} {es : Es} {m : Bool} {p : Pos} {cl : CallT} (hk : flatKV ks vs = some xs) (hev : evenEs es = true) (h0 : ks ≠ []) (h15 : ks.length ≤ 15) (ha : PJ X xs (jS T.C Wd T.G cl es)) : PE X (.Dict ks vs p) (TE' T.C Wd (ev T.G cl (.dct m es))) := by
  obtain ⟨q1, q2, q3⟩ := pps_of (pos := p) hk ha
  refine PE.imp (pe_ghost (pe_disp q1 q2 q3 h0 h15)) fun σ H Q q => ?_
  obtain ⟨F, ρ, env, w, k0, en, r⟩ := q
  simp only [ev] at r
  intro a hn
  have k1 := k0.cell (c := .dct []) (o := .dK []) hn (.dct .nil)
  have e1 : Ext F ρ F (ρ ++ [a]) := ⟨fun _ _ h => h, List.prefix_append _ _⟩
  refine tPairs_of hev ⟨F, ρ ++ [a], env, _, k1, en.up e1, ?_⟩
  cases hes : evs T.G cl es env (w ++ [.dct []]) with
  | bad => rw [hes] at r; exact r.elim
  | exc e w1 =>
    rw [hes] at r
    exact fun F' ρ' H' cl dd e' k' q' => r F' ρ' H' cl dd (e1.trans e') k' q'
  | ok ds w2 =>
    rw [hes] at r
    simp only [R.bind] at r
    intro F2 r2 H2 us e2 k2 rds
    have hx : r2[w.length]? = some a := e2.ix (by rw [← k0.len]; simp)
    unfold dispF at r
    split at r
    · rename_i hw
      split at r
      · rename_i hl
        cases hm : mkA ds [] with
        | none => rw [hm] at r; exact r.elim
        | some kvs =>
          rw [hm] at r
          obtain ⟨out, h1, h2, h3⟩ := mk_of rds hm .nil
          obtain ⟨_, o, ho, qo⟩ := k2.cel _ _ _ hx hw (by intro z; cases z)
          cases qo with
          | @dct _ accv rs =>
            cases rs
            refine ⟨_, h1, ho, out, rfl, by omega, ?_⟩
            have k3 := k2.set hx hw (by intro z; cases z) (.dct h3)
            cases m with
            | true =>
              simp only [if_true] at r
              exact .inl (r F2 r2 _ _ (e1.trans e2) k3 (.cel hx))
            | false =>
              simp only [Bool.false_eq_true, if_false] at r
              exact endK_ok k0.len e2 k3 r
      · exact r.elim
    · exact r.elim
theorem r_dct0 {m : Bool} {p : Pos} {cl : CallT} : PE X (.Dict [] [] p) (TE' T.C Wd (ev T.G cl (.dct m .nil))) := by
  refine PE.imp (pe_ghost pe_dnewK) fun σ H Q q => ?_
  obtain ⟨F, ρ, env, w, k0, en, r⟩ := q
  intro a hn
  have k1 := k0.cell (c := .dct []) (o := .dK []) hn (.dct .nil)
  have e1 : Ext F ρ F (ρ ++ [a]) := ⟨fun _ _ h => h, List.prefix_append _ _⟩
  have hx : (ρ ++ [a])[w.length]? = some a := by rw [← k0.len]; simp
  simp only [ev, evs, R.bind] at r
  unfold dispF at r
  have hw : (w ++ [Cell.dct []])[w.length]? = some (.dct []) := by simp
  rw [hw] at r
  simp only [List.length_nil, Nat.zero_le, if_true, mkA] at r
  have hs : (w ++ [Cell.dct []]).set w.length (.dct []) = w ++ [Cell.dct []] := by simp
  rw [hs] at r
  cases m with
  | true =>
    simp only [if_true] at r
    exact .inl (r F (ρ ++ [a]) _ _ e1 k1 (.cel hx))
  | false =>
    simp only [Bool.false_eq_true, if_false] at r
    exact endK_ok k0.len .refl k1 r
end
end Sv

set_option Elab.async false
set_option linter.all false
set_option maxRecDepth 100000
set_option maxHeartbeats 8000000
namespace Sv
open PySem PySem.Spec PyProof.Rows L2
theorem key_call {P : Program} {w : World} {K : PySem.W.Frag} {A : Around} {s : Shared} {f t : Addr} {its : Array Value} {v : Value} {Q : Value → Shared → Prop} {E : Value → Shared → Prop} (kf : KeyF K f) (inK : K.In s.heap) (lim : s.heap.NoLimit) (dp : A.depth < recursionLimit)
    (ht : IsTup s.heap t its) (hv : its[1]? = some v) (h : ∀ h' tk, (∀ b o, s.heap.get? b = some o → h'.get? b = some o) → Q v { s with heap := h', toks := tk }) :
    wpAny (model P w) A (PySem.call (.ref f) [.ref t]) Q E s := by
  obtain ⟨name, qual, params, body, scope, fd, x, p1, p2, p3, p4, kd, F, rfl, hk, hco, hgen, hcell, hx, hok, hb⟩ := kf.ex
  obtain ⟨oc, od, dV, kV, doc, pm, an, cdv, ct, osl, rfl, lk, hcd, _, _⟩ := F.ex
  refine wpAny_call (codeAny_call_function dp (inK _ _ lk) rfl hco hgen rfl (PySem.W.codeRec_of inK hcd) (hb s [.ref t] inK rfl _ _ _ _ ?_))
  refine wpAny_newFunctionEnv hcell (fun y hy => ?_) (fun h' hn hs => ?_) hk
  · simp only [List.append_nil, List.zip_cons_cons, List.zip_nil_right, List.mem_singleton] at hy
    subst hy; exact hx
  · have keep : ∀ b o, s.heap.get? b = some o → h'.get? b = some o := fun b o e => hs.extBut b o (Nat.ne_of_lt (Heap.lt_size e)) (Heap.get?_push_of_some _ e)
    refine ⟨lim.fresh _ hs, codeAny_func ?_⟩
    refine wpAny_execs_cons (wpAny_Return_some ?_)
    refine Subscript_ (wpAny_Name (wpAny_loadName_local hk hx hn (v := .ref t) (by simp) ?_) hok)
    refine wpAny_Constant_int ?_
    have hsz : 1 < its.size := by
      by_cases z : 1 < its.size
      · exact z
      · rw [Array.getElem?_eq_none (by omega)] at hv; cases hv
    have hgood : Builtin.List.listFitsIndex 1 = true := by rfl
    refine subscriptTail_builtinR (x := v) (ht.keeps keep).typeIs slot_tuple_getitem.lookup ?_ ?_
    · exact getItem_tuple (j := 1) (ht.keeps keep) (by decide) (by decide) (by unfold seqIndex?; simp; omega) hv ⟨rfl, h h' _ keep⟩
    · with_unfolding_all rfl


theorem ns_one {h : Heap} {a : Addr} {m m' : Str → Option Value} (x : h.Ns a m) (y : h.Ns a m') : m = m' := by
  obtain ⟨o, es, ep, e, d, _, q⟩ := x
  obtain ⟨o', es', ep', e', d', _, q'⟩ := y
  rw [e] at e'; cases e'
  rw [d] at d'; cases d'
  funext n
  rw [← q, ← q']
def rSortK (K : PySem.W.Frag) (b : Bool) : List V → List V → Hp → VK → Prop := fun vs zs H Q => ∃ (a f : Addr) (xs : List V) (kz : List Int), vs = [V.ref a] ∧ zs = [V.ref f, V.bl b] ∧ SqL K H a xs ∧ KeyF K f ∧ kz.length = xs.length ∧
  (∀ (i : Nat) x k, xs[i]? = some x → kz[i]? = some k → ∃ t ys, x = V.ref t ∧ SqT K H t ys ∧ ys[1]? = some (V.int k)) ∧ ∀ p, H p = none → Q (.ref p) (upd H p (.lst ((sortZ b (kz.zip xs)).map (·.2))))
theorem stable_one {α : Type} (le : Int → Int → Prop) (hr : ∀ a, le a a) (ha : ∀ a b, le a b → le b a → a = b) : ∀ {l m : List (Int × α)}, l.Pairwise (fun p q => le p.1 q.1) → m.Pairwise (fun p q => le p.1 q.1) → (∀ c, l.filter (fun p => p.1 == c) = m.filter (fun p => p.1 == c)) → l = m
  | [], [], _, _, _ => rfl
  | [], q :: m, _, _, h => by have := h q.1; simp at this
  | p :: l, [], _, _, h => by have := h p.1; simp at this
  | p :: l, q :: m, h1, h2, h => by
    rw [List.pairwise_cons] at h1 h2
    have mem : ∀ (x : Int × α), x ∈ p :: l → x ∈ q :: m := fun x hx => by
      have : x ∈ (p :: l).filter (fun z => z.1 == x.1) := List.mem_filter.mpr ⟨hx, by simp⟩
      rw [h x.1] at this
      exact (List.mem_filter.mp this).1
    have mem2 : ∀ (x : Int × α), x ∈ q :: m → x ∈ p :: l := fun x hx => by
      have : x ∈ (q :: m).filter (fun z => z.1 == x.1) := List.mem_filter.mpr ⟨hx, by simp⟩
      rw [← h x.1] at this
      exact (List.mem_filter.mp this).1
    have e1 : le q.1 p.1 := by
      have := mem p (by simp)
      rw [List.mem_cons] at this
      rcases this with rfl | z
      · exact hr _
      · exact h2.1 _ z
    have e2 : le p.1 q.1 := by
      have := mem2 q (by simp)
      rw [List.mem_cons] at this
      rcases this with rfl | z
      · exact hr _
      · exact h1.1 _ z
    have e : p.1 = q.1 := ha _ _ e2 e1
    have hp := h p.1
    rw [List.filter_cons_of_pos (by simp), List.filter_cons_of_pos (by simp [e])] at hp
    obtain ⟨rfl, _⟩ := List.cons.inj hp
    refine congrArg _ (stable_one le hr ha h1.2 h2.2 fun c => ?_)
    have := h c
    by_cases hc : p.1 = c
    · rw [List.filter_cons_of_pos (by simp [hc]), List.filter_cons_of_pos (by simp [hc])] at this
      exact (List.cons.inj this).2
    · rw [List.filter_cons_of_neg (by simp [hc]), List.filter_cons_of_neg (by simp [hc])] at this
      exact this
theorem filter_mergeSort {α : Type} {le : α → α → Bool} (tr : ∀ a b c, le a b = true → le b c = true → le a c = true) (tot : ∀ a b, (le a b || le b a) = true) (p : α → Bool) (hp : ∀ a b, p a = true → p b = true → le a b = true) (l : List α) : (l.mergeSort le).filter p = l.filter p := by
  have hs : (l.filter p).Sublist (l.mergeSort le) := List.sublist_mergeSort tr tot (List.pairwise_iff_forall_sublist.mpr fun {a b} h => by
    have h1 : a ∈ l.filter p := h.subset (by simp)
    have h2 : b ∈ l.filter p := h.subset (by simp)
    exact hp a b (List.mem_filter.mp h1).2 (List.mem_filter.mp h2).2) List.filter_sublist
  have h1 := hs.filter p
  rw [List.filter_filter] at h1
  simp only [Bool.and_self] at h1
  refine (h1.eq_of_length ?_).symm
  exact ((List.mergeSort_perm l le).filter p).length_eq.symm
theorem sortZ_one {α : Type} {b : Bool} {ps qs : List (Int × α)} (h : qs.Pairwise (fun p q => if b then q.1 ≤ p.1 else p.1 ≤ q.1)) (hf : ∀ c, qs.filter (fun p => p.1 == c) = ps.filter (fun p => p.1 == c)) : qs = sortZ b ps := by
  unfold sortZ
  cases b with
  | true =>
    simp only [if_true] at h ⊢
    have tr : ∀ (a b c : Int × α), decide (b.1 ≤ a.1) = true → decide (c.1 ≤ b.1) = true → decide (c.1 ≤ a.1) = true := fun a b c h1 h2 => by simp only [decide_eq_true_eq] at *; omega
    have tot : ∀ (a b : Int × α), (decide (b.1 ≤ a.1) || decide (a.1 ≤ b.1)) = true := fun a b => by simp only [Bool.or_eq_true, decide_eq_true_eq]; omega
    refine stable_one (fun a b => b ≤ a) (fun _ => Int.le_refl _) (fun a b h1 h2 => by omega) h ?_ fun c => ?_
    · exact (List.pairwise_mergeSort tr tot ps).imp fun h => by simpa using h
    · rw [filter_mergeSort tr tot _ (fun a b h1 h2 => by simp only [beq_iff_eq] at h1 h2; simp [h1, h2])]
      exact hf c
  | false =>
    simp only [Bool.false_eq_true, if_false] at h ⊢
    have tr : ∀ (a b c : Int × α), decide (a.1 ≤ b.1) = true → decide (b.1 ≤ c.1) = true → decide (a.1 ≤ c.1) = true := fun a b c h1 h2 => by simp only [decide_eq_true_eq] at *; omega
    have tot : ∀ (a b : Int × α), (decide (a.1 ≤ b.1) || decide (b.1 ≤ a.1)) = true := fun a b => by simp only [Bool.or_eq_true, decide_eq_true_eq]; omega
    refine stable_one (fun a b => a ≤ b) (fun _ => Int.le_refl _) (fun a b h1 h2 => by omega) h ?_ fun c => ?_
    · exact (List.pairwise_mergeSort tr tot ps).imp fun h => by simpa using h
    · rw [filter_mergeSort tr tot _ (fun a b h1 h2 => by simp only [beq_iff_eq] at h1 h2; simp [h1, h2])]
      exact hf c
theorem sortZ_map {α β : Type} {b : Bool} (f : Int × α → Int × β) (hf : ∀ p, (f p).1 = p.1) (l : List (Int × α)) : (sortZ b l).map f = sortZ b (l.map f) := by
  unfold sortZ
  cases b with
  | true => simp only [if_true]; exact List.map_mergeSort fun p _ q _ => by rw [hf, hf]
  | false => simp only [Bool.false_eq_true, if_false]; exact List.map_mergeSort fun p _ q _ => by rw [hf, hf]
theorem sortZ_perm {α : Type} {b : Bool} {l : List (Int × α)} : (sortZ b l).Perm l := by
  unfold sortZ
  cases b with
  | true => exact List.mergeSort_perm _ _
  | false => exact List.mergeSort_perm _ _
theorem sortZ_length {α : Type} {b : Bool} {l : List (Int × α)} : (sortZ b l).length = l.length := sortZ_perm.length_eq
theorem vals_all : ∀ {l : List (Int × (V × Value))}, (∀ p ∈ l, RelV p.2.1 p.2.2) → Vals (l.map fun p => p.2.1) (l.map fun p => p.2.2)
  | [], _ => .nil
  | p :: l, h => .cons (h p (by simp)) (vals_all fun q hq => h q (by simp [hq]))
theorem vals_zip : ∀ {xs : List V} {us : List Value}, Vals xs us → ∀ p ∈ xs.zip us, RelV p.1 p.2
  | _, _, .nil, p, h => by simp at h
  | _, _, .cons r q, p, h => by
    rw [List.zip_cons_cons, List.mem_cons] at h
    rcases h with rfl | h
    · exact r
    · exact vals_zip q p h
theorem zip_three {α β : Type} {kz : List Int} {xs : List α} {ys : List β} (h : xs.length = ys.length) : kz.zip xs = (kz.zip (xs.zip ys)).map (fun p => (p.1, p.2.1)) ∧ kz.zip ys = (kz.zip (xs.zip ys)).map (fun p => (p.1, p.2.2)) := by
  constructor
  · conv => lhs; rw [← List.map_fst_zip (l₁ := xs) (l₂ := ys) (by omega)]
    rw [List.zip_map_right]; rfl
  · conv => lhs; rw [← List.map_snd_zip (l₁ := xs) (l₂ := ys) (by omega)]
    rw [List.zip_map_right]; rfl
theorem vals_sort {b : Bool} {kz : List Int} {xs : List V} {its : List Value} (rv : Vals xs its) (hl : kz.length = xs.length) : Vals ((sortZ b (kz.zip xs)).map (·.2)) ((sortZ b (kz.zip its)).map (·.2)) := by
  obtain ⟨h1, h2⟩ := zip_three (kz := kz) rv.length
  rw [h1, h2, ← sortZ_map (fun p : Int × (V × Value) => (p.1, p.2.1)) (fun _ => rfl), ← sortZ_map (fun p : Int × (V × Value) => (p.1, p.2.2)) (fun _ => rfl), List.map_map, List.map_map]
  exact vals_all fun p hp => vals_zip rv p.2 (List.of_mem_zip (sortZ_perm.mem_iff.mp hp)).2
theorem objOk_get {P : Program} {w : World} {H : Hp} {h : Heap} {a : Addr} {o : HO} (x : ObjOk P w H h a o) : ∃ u, h.get? a = some u := by
  cases o with
  | lst xs => obtain ⟨_, _, _, _, e⟩ := x; exact ⟨_, e⟩
  | tup xs => obtain ⟨_, _, _, _, e, _⟩ := x; exact ⟨_, e⟩
  | dK kvs => obtain ⟨_, _, _, _, o, _, _, e, _⟩ := x; exact ⟨_, e⟩
  | dT kvs => obtain ⟨_, _, _, _, o, _, _, e, _⟩ := x; exact ⟨_, e⟩
  | set S n => obtain ⟨o, _, _, _, e, _⟩ := x; exact ⟨_, e⟩
  | ins C dx fs => obtain ⟨_, _, _, e, _⟩ := x; exact ⟨_, e⟩
  | own y => obtain ⟨_, e⟩ := x; exact ⟨_, e⟩
  | xd fs => obtain ⟨_, ⟨_, _, _, e, _⟩, _⟩ := x; exact ⟨_, e⟩
  | rng lo hi => obtain ⟨_, _, _, e⟩ := x; exact ⟨_, e⟩
  | frz ob u => obtain ⟨e, _⟩ := x; exact ⟨_, e⟩
  | tbl ps => exact ⟨_, (show h.get? a = some _ from x)⟩
  | met f y => exact ⟨_, (show h.get? a = some _ from x)⟩
  | ext φ => obtain ⟨_, ⟨_, e⟩, _⟩ := x; exact ⟨_, e⟩
section
variable {X : Cx}
theorem cr_sortKey {b : Bool} (hd : X.A.depth + 5 < recursionLimit) : CallRK X (.builtin "sorted") [Str.ofString "key", Str.ofString "reverse"] (rSortK X.K b) := by
  intro pins s σ H vs zs us ws Q I r rz h
  obtain ⟨a, f, xs, kz, rfl, rfl, hs, kf, hlen, hx, q⟩ := h
  obtain ⟨its, rv, hl, hz⟩ := I.list hs
  obtain ⟨u, rfl, ru⟩ := vals1 r
  obtain rfl : u = Value.ref a := ru
  obtain ⟨w1, w2, rfl, e1, e2⟩ := vals2 rz
  obtain rfl : w1 = Value.ref f := e1
  obtain rfl : w2 = Value.bool b := e2
  obtain ⟨m, F⟩ := I.fr
  let news : List (Addr × Obj) := (List.range s.heap.objs.size).filterMap fun c => match s.heap.get? c with
    | some o => if c = X.env.locals ∨ (X.base.get? c).isSome then none else some (c, o)
    | none => none
  have mem : ∀ c o, s.heap.get? c = some o → c ≠ X.env.locals → X.base.get? c = none → (c, o) ∈ news := fun c o e h1 h2 => by
    refine List.mem_filterMap.mpr ⟨c, List.mem_range.mpr (Heap.lt_size e), ?_⟩
    rw [e]
    simp [h1, h2]
  have N : News X.base X.env.locals s.heap news := fun p hp => by
    obtain ⟨c, _, e⟩ := List.mem_filterMap.mp hp
    split at e
    · rename_i o ho
      split at e
      · cases e
      · rename_i hn
        cases e
        refine ⟨ho, fun z => hn (.inl z), ?_⟩
        cases hb : X.base.get? c with
        | none => rfl
        | some o' => exact absurd (.inr (by rw [hb]; rfl)) hn
    · cases e
  have keeps : ∀ {h' : Heap} {more : List (Addr × Obj)} {m' : Str → Option Value}, Fr X.base X.env.locals h' m' → News X.base X.env.locals h' more → (∀ p ∈ news, p ∈ more) → ∀ c o, c ≠ X.env.locals → s.heap.get? c = some o → h'.get? c = some o := fun {h' more m'} F' N' sub c o h1 e => by
    cases hb : X.base.get? c with
    | none => exact (N' _ (sub _ (mem c o e h1 hb))).1
    | some o' =>
      have := I.bk c o' hb
      rw [e] at this; cases this
      exact F'.keep c o hb
  have hil : its.length = xs.length := rv.length.symm
  refine ksk_sortedSt (h₀ := X.base) (L := X.env.locals) (m := m) (news := news) (kz := kz) (vs := its) (f := .ref f) (b := b) F N hl.isList (by rw [hlen, hil]) (by rw [hil]; exact hz) (ksk_s2 _ _ _) (fun x => ksk_l2 _ _ _) (fun x => ksk_t2 f x b) (fun i v k hv hk h' tk own F' N' => ?_) fun D h' tk out c F' N' hD ko => ?_
  · obtain ⟨x, hxi, rx⟩ : ∃ x, xs[i]? = some x ∧ RelV x v := by
      have : ∀ {ys : List V} {us : List Value} {i : Nat} {u : Value}, Vals ys us → us[i]? = some u → ∃ x, ys[i]? = some x ∧ RelV x u := by
        intro ys us i u r
        induction r generalizing i with
        | nil => intro h; simp at h
        | cons r0 _ ih =>
          intro h
          cases i with
          | zero => simp at h; subst h; exact ⟨_, rfl, r0⟩
          | succ i => simpa using ih (by simpa using h)
      exact this rv hv
    obtain ⟨t, ys, rfl, hq, hy⟩ := hx i x k hxi hk
    obtain rfl : v = Value.ref t := rx
    obtain ⟨its2, r2, pl, _⟩ := I.tuple hq
    obtain ⟨kv, hkv, rk⟩ := r2.get hy
    obtain ⟨t', rfl⟩ := rk
    have tL : t ≠ X.env.locals := fun z => by
      rw [z] at pl
      obtain ⟨o, ho, _, n, hd⟩ := pl
      obtain ⟨_, ⟨o', es, ep, ho', hd', _⟩, _⟩ := I.loc
      rw [ho] at ho'; cases ho'; rw [hd] at hd'; cases hd'
    have pl' : IsTup h' t its2.toArray := by
      obtain ⟨o, ho, r⟩ := pl
      exact ⟨o, keeps F' N' (fun p hp => List.mem_append_left _ hp) t o tL ho, r⟩
    refine key_call (s := { s with heap := h', toks := tk }) kf (I.ok.mod.kin.keeps F'.keep) (I.ok.mod.nolimit.keeps F'.keep) (by show X.A.depth < _; omega) pl' (v := .int k t') (by simpa using hkv) fun h2 tk2 kp => ?_
    obtain ⟨oL, es, ep, hoL, rL⟩ := F'.ns
    exact ⟨h2, tk2, t', rfl, rfl, ⟨⟨oL, es, ep, kp _ _ hoL, rL⟩, fun c o e => kp c o (F'.keep c o e), F'.above⟩, fun p hp => ⟨kp _ _ (N' p hp).1, (N' p hp).2⟩⟩
  · have kp : ∀ c o, c ≠ X.env.locals → s.heap.get? c = some o → h'.get? c = some o := keeps F' N' fun p hp => List.mem_cons_of_mem _ hp
    obtain ⟨nD1, nD2, nD3⟩ := N' (D, seqObj "list" out c) (by simp)
    have sD : s.heap.get? D = none := by
      cases e : s.heap.get? D with
      | none => rfl
      | some o => exact absurd (hD _ (mem D o e nD2 nD3)) (Nat.lt_irrefl _)
    have hDn : H D = none := by
      cases e : H D with
      | none => rfl
      | some u =>
        obtain ⟨o, ho⟩ := objOk_get (I.hok D u e)
        rw [sD] at ho; cases ho
    obtain ⟨ps, hp, ho, hpw, hst⟩ := ko
    have hps : ps = sortZ b (kz.zip its) := sortZ_one hpw hst
    have hv := vals_sort (b := b) rv hlen
    have hout : out.toList = (sortZ b (kz.zip its)).map (·.2) := by rw [ho, hps]
    have hlo : ((sortZ b (kz.zip xs)).map (·.2)).length ≤ sizeLine := by
      have : ((sortZ b (kz.zip xs)).map (·.2)).length = xs.length := by
        rw [List.length_map, sortZ_length, List.length_zip, hlen, Nat.min_self]
      rw [this]; exact hz
    have hDt : h'.get? D = some (seqObj "list" out c) := (N' (D, seqObj "list" out c) (by simp)).1
    refine ⟨.ref D, upd H D (.lst ((sortZ b (kz.zip xs)).map (·.2))), ?_, rfl, q D hDn⟩
    have neD : ∀ b o, H b = some o → b ≠ D := fun b o e z => by rw [z, hDn] at e; cases e
    have neL : ∀ b o, H b = some o → b ≠ X.env.locals := fun b o e z => by rw [z, I.free] at e; cases e
    refine I.step (g' := s.gens) (d' := s.drawn) (ch := []) (fun _ z => nomatch z) (fun b o hL _ _ e _ => kp b o hL e) (fun b o hL _ _ e _ => ⟨o.slots, kp b o hL e⟩) (fun b o _ e n => ?_) (fun b o _ e => ?_) (fun b xs e => ?_) (fun b o u e => ?_) (fun b ps e => ⟨#[], ?_⟩) (fun m' hm => ?_) (fun b u e => ?_) I.bare
    · rw [upd_ne fun z => by rw [z, sD] at e; cases e]; exact n
    · by_cases hL : b = X.env.locals
      · subst hL
        obtain ⟨oL, es, ep, hoL, _⟩ := F'.ns
        exact ⟨oL, hoL⟩
      · exact ⟨o, kp b o hL e⟩
    · rw [upd_ne (neD _ _ e)]; exact e
    · rw [upd_ne (neD _ _ e)]; exact e
    · rw [upd_ne (neD _ _ e), e]; simp
    · rw [ns_one hm F.ns]; exact F'.ns
    · by_cases hb : b = D
      · subst hb
        rw [upd_same] at e; cases e
        exact ⟨hlo, out.toList, c, by rw [hout]; exact hv, hDt⟩
      · rw [upd_ne hb] at e
        refine (I.hok b u e).stay (fun c v hc q => kp c v ?_ q) (fun d q => ?_) fun d xs q => ?_
        · rcases hc with rfl | hc
          · exact neL _ _ e
          · exact neL _ _ hc
        · rw [upd_ne (neD _ _ q)]; exact q
        · rw [upd_ne (neD _ _ q)]; exact q
end
theorem Reps.reverse {C : Cn} {F : Hp} {ρ : List Addr} : ∀ {xs : List D} {vs : List V}, Reps C F ρ xs vs → Reps C F ρ xs.reverse vs.reverse
  | _, _, .nil => .nil
  | _, _, .cons r q => by rw [List.reverse_cons, List.reverse_cons]; exact (Reps.reverse q).append (.cons r .nil)
theorem reps_keys {C : Cn} {F : Hp} {ρ : List Addr} : ∀ {xs : List D} {vs : List V} {kz : List Int}, keyL xs = some kz → Reps C F ρ xs vs → kz.length = vs.length ∧ ∀ (i : Nat) x k, vs[i]? = some x → kz[i]? = some k → ∃ t ys, x = V.ref t ∧ SqT C.K F t ys ∧ ys[1]? = some (V.int k)
  | [], _, kz, h, .nil => by simp [keyL] at h; subst h; exact ⟨rfl, fun i x k h => by simp at h⟩
  | x :: xs, _, kz, h, .cons rd rs => by
    unfold keyL at h
    split at h
    · rename_i e; cases e
    · rename_i d0 k0 r0 xs' e
      cases e
      obtain ⟨kz', h1, rfl⟩ := Option.map_eq_some_iff.mp h
      obtain ⟨h2, h3⟩ := reps_keys h1 rs
      refine ⟨by simp [h2], fun i x k hx hk => ?_⟩
      cases i with
      | zero =>
        simp at hx hk
        subst hx hk
        cases rd with
        | tup hq rr =>
          cases rr with
          | cons a rr => cases rr with
            | cons b rr => cases b; exact ⟨_, _, rfl, hq, rfl⟩
      | succ i => exact h3 i x k (by simpa using hx) (by simpa using hk)
    · cases h
theorem reps_zip {C : Cn} {F : Hp} {ρ : List Addr} : ∀ {xs : List D} {vs : List V}, Reps C F ρ xs vs → ∀ p ∈ xs.zip vs, Rep C F ρ p.1 p.2
  | _, _, .nil, p, h => by simp at h
  | _, _, .cons r q, p, h => by
    rw [List.zip_cons_cons, List.mem_cons] at h
    rcases h with rfl | h
    · exact r
    · exact reps_zip q p h
theorem reps_all {C : Cn} {F : Hp} {ρ : List Addr} : ∀ {l : List (Int × (D × V))}, (∀ p ∈ l, Rep C F ρ p.2.1 p.2.2) → Reps C F ρ (l.map fun p => p.2.1) (l.map fun p => p.2.2)
  | [], _ => .nil
  | p :: l, h => .cons (h p (by simp)) (reps_all fun q hq => h q (by simp [hq]))
theorem reps_sort {C : Cn} {F : Hp} {ρ : List Addr} {b : Bool} {kz : List Int} {xs : List D} {vs : List V} (r : Reps C F ρ xs vs) : Reps C F ρ ((sortZ b (kz.zip xs)).map (·.2)) ((sortZ b (kz.zip vs)).map (·.2)) := by
  obtain ⟨h1, h2⟩ := zip_three (kz := kz) r.length
  rw [h1, h2, ← sortZ_map (fun p : Int × (D × V) => (p.1, p.2.1)) (fun _ => rfl), ← sortZ_map (fun p : Int × (D × V) => (p.1, p.2.2)) (fun _ => rfl), List.map_map, List.map_map]
  exact reps_all fun p hp => reps_zip r p.2 (List.of_mem_zip (sortZ_perm.mem_iff.mp hp)).2
section
variable {T : Tb} {k : Nat} {c : Ck} {Wd : WX} {X : Cx}
theorem r_sortk {a : Expr} {ea : E} {p pos py k1 k2 pb : Pos} {j : Nat} {y : Str} {g : Nat} {b : Bool} {cl : CallT} (hx : XOk T k c Wd X) (tb : TbOk T k) (hg : isGl c.S "sorted" = true) (hfree : ("sorted" : Str) ∈ T.bl) (hgy : T.gt.lookup y = some g) (hy : isGl c.S y = true) (ho : okName y = true) (hk : g ∈ T.keys) (hs : isStar a = false)
    (ha : PE X a (TE' T.C Wd (ev T.G cl ea))) : PE X (.Call (.Name "sorted" p) [a] [⟨some "key", .Name y py, k1⟩, ⟨some "reverse", .Constant (.bool b) j pb, k2⟩] pos) (TE' T.C Wd (ev T.G cl (.sortk ea g (some b)))) := by
  obtain ⟨f, hm, kf⟩ := tb.key y g hgy hk
  have cr := cr_sortKey (X := X) (b := b) (by have := hx.room.dp; omega)
  have h1 : starEach [a] X.env = [(false, eval a X.env)] := by rw [star1 hs]; rfl
  refine PE.imp (pe_callBK cr (hx.gl hg) (by rw [hx.mg]; exact tb.free _ hfree) (by decide +kernel) (pa_cons ha pa_nil (by first | exact star1 hs | skip)) (pk_cons (pe_glob (hx.gl hy) (by rw [hx.mg]; exact hm) (show RelV (.ref f) (.ref f) from rfl) (okName_eq ho).1) (pk_cons pe_bl pk_nil)) (by decide) (by decide) (by rw [h1]; rfl) (by rw [h1]; rfl)) fun σ H Q q => ?_
  have q := TG'.eq (g := fun env w => (ev T.G cl ea env w).bind fun d w => (fun d env w => R.lift (sortKF b d) w) d env w) q fun env w => by simp only [ev]
  refine TG'.thn (TG'.one (RA := Rep T.C) q) fun v1 H1 q1 => ?_
  obtain ⟨F, ρ, env, w, d, k0, en, rd, r⟩ := q1
  obtain ⟨d', e, r⟩ := r.lift
  unfold sortKF at e
  split at e
  · rename_i xs
    obtain ⟨kz, e1, rfl⟩ := Option.map_eq_some_iff.mp e
    cases rd with
    | @lst ad _ vs hf rs =>
      obtain ⟨h2, h3⟩ := reps_keys e1 rs
      refine ⟨ad, f, vs, kz, rfl, rfl, SqL.of (k0.frz _ _ hf), by rw [hx.K]; exact kf, h2, fun i x k hx' hk' => ?_, fun p hp => ?_⟩
      · obtain ⟨t, ys, e2, e3, e4⟩ := h3 i x k hx' hk'
        exact ⟨t, ys, e2, by rw [hx.K]; exact k0.sqT e3, e4⟩
      · exact r.aft.lst k0 (reps_sort rs) hp
  · cases e
theorem r_rev {a : Expr} {ea : E} {kk : Nat} {p1 p2 p3 pos : Pos} {cl : CallT} (hx : XOk T k c Wd X) (ha : PE X a (TE' T.C Wd (ev T.G cl ea))) : PE X (.Subscript a (.Slice none none (some (.UnaryOp .USub (.Constant (.int 1) kk p1) p2)) p3) pos) (TE' T.C Wd (ev T.G cl (.rev ea))) := by
  refine PE.imp (pe_revL ha) fun σ H Q q => ?_
  have q := TG'.eq (g := fun env w => (ev T.G cl ea env w).bind fun d w => (fun d env w => R.lift (revF d) w) d env w) q fun env w => by simp only [ev]
  refine TG'.thn (TG'.one (RA := Rep T.C) q) fun v1 H1 q1 => ?_
  obtain ⟨F, ρ, env, w, d, k0, en, rd, r⟩ := q1
  obtain ⟨d', e, r⟩ := r.lift
  unfold revF at e
  split at e
  · rename_i xs
    cases e
    cases rd with
    | lst hf rs => exact ⟨_, _, rfl, SqL.of (k0.frz _ _ hf), fun p hp => r.aft.lst k0 rs.reverse hp⟩
  · cases e
end
end Sv

set_option Elab.async false
set_option linter.all false
set_option maxRecDepth 100000
set_option maxHeartbeats 8000000
namespace Sv
open PySem L2
def vAttP : Expr → Option (Expr × Str × Pos) | .Attribute a f p => some (a, f, p) | _ => none
theorem vAttP_eq {e a : Expr} {f : Str} {p : Pos} (h : vAttP e = some (a, f, p)) : e = .Attribute a f p := by cases e <;> simp [vAttP] at h; obtain ⟨rfl, rfl, rfl⟩ := h; rfl
def isBO : E → Bool | .and _ _ => true | .or _ _ => true | _ => false
def vRev : Expr → Bool | .Slice none none (some (.UnaryOp .USub (.Constant (.int i) _ _) _)) _ => decide (i = 1) | _ => false
theorem vRev_eq {e : Expr} (h : vRev e = true) : ∃ kk p1 p2 p3, e = .Slice none none (some (.UnaryOp .USub (.Constant (.int 1) kk p1) p2)) p3 := by
  unfold vRev at h
  split at h
  · simp only [decide_eq_true_eq] at h; subst h; exact ⟨_, _, _, _, rfl⟩
  · cases h
def sortKw (l : List Keyword) : Option (Str × Bool) := match l with
  | [⟨some n, .Name y _, _⟩, ⟨some m, .Constant (.bool b) _ _, _⟩] => if n = ("key" : Str) ∧ m = ("reverse" : Str) then some (y, b) else none
  | _ => none
theorem sortKw_eq {l : List Keyword} {y : Str} {b : Bool} (h : sortKw l = some (y, b)) : ∃ p1 k1 j p2 k2, l = [⟨some "key", .Name y p1, k1⟩, ⟨some "reverse", .Constant (.bool b) j p2, k2⟩] := by
  unfold sortKw at h
  split at h
  · split at h
    · rename_i hc
      obtain ⟨rfl, rfl⟩ := hc
      cases h
      exact ⟨_, _, _, _, _, rfl⟩
    · cases h
  · cases h
def isNonE : E → Bool | .non => true | _ => false
mutual
def chkE (T : Tb) (c : Ck) : E → Expr → Bool
  | .bad, _ => true
  | .loc i, e => match vName e with | some x => decide (c.N[i]? = some x) && isVis c.S x && okName x | _ => false
  | .glob g, e => match vName e with | some x => decide (T.gt.lookup x = some g) && isGl c.S x && okName x | _ => false
  | .non, e => match vConst e with | some .none => true | _ => false
  | .bl b, e => match vConst e with | some (.bool b') => decide (b' = b) | _ => false
  | .int i, e => match vConst e with | some (.int j) => decide (j = i) | _ => false
  | .str s, e => match vConst e with | some (.str x) => decide (x = toStr s) | _ => false
  | .bin o a b, e => match vBin e with | some (x, op, y) => decide (op = opPy o) && chkE T c a x && chkE T c b y | _ => false
  | .catm a b, e => match vBin e with | some (x, op, y) => decide (op = opPy .add) && chkE T c a x && chkE T c b y | _ => false
  | .neg a, e => match vUn e with | some (.USub, x) => chkE T c a x | _ => false
  | .not a, e => match vUn e with | some (.Not, x) => chkE T c a x | _ => false
  | .and a b, e => match vBool e with
    | some (.And, [x, y], _) => chkE T c a x && chkE T c b y
    | some (.And, x :: y :: z :: r, p) => chkE T c a x && isBO b && chkE T c b (.BoolOp .And (y :: z :: r) p)
    | _ => false
  | .or a b, e => match vBool e with
    | some (.Or, [x, y], _) => chkE T c a x && chkE T c b y
    | some (.Or, x :: y :: z :: r, p) => chkE T c a x && isBO b && chkE T c b (.BoolOp .Or (y :: z :: r) p)
    | _ => false
  | .cmp o a b, e => match vCmp e with | some (x, [op], [y]) => decide (op = copPy o) && !behindInMarks op y && chkE T c a x && chkE T c b y | _ => false
  | .cmp2 o o' a b d, e => match vCmp e with | some (x, [op, op'], [y, z]) => decide (op = copPy o) && decide (op' = copPy o') && !lastMarks [op, op'] [y, z] && chkE T c a x && chkE T c b y && chkE T c d z | _ => false
  | .cmp3 o o' o2 a b d f, e => match vCmp e with | some (x, [op, op', op2], [y, z, u]) => decide (op = copPy o) && decide (op' = copPy o') && decide (op2 = copPy o2) && !lastMarks [op, op', op2] [y, z, u] && chkE T c a x && chkE T c b y && chkE T c d z && chkE T c f u | _ => false
  | .ite t a b, e => match vIf e with | some (z, x, y) => chkE T c t z && chkE T c a x && chkE T c b y | _ => false
  | .tup es, e => match vTup e with | some xs => decide (es.len ≤ 100000) && chkEs T c es xs | _ => false
  | .lst _ es, e => match vLst e with | some xs => chkEs T c es xs | _ => false
  | .sub o i, e => match vSub e with | some (x, y) => !isSlice y && chkE T c o x && chkE T c i y | _ => false
  | .slc o lo hi, e => match vSub e with
    | some (x, y) => (match vSlc y with
      | some (l, h) => chkE T c o x && (match l with | none => isNonE lo | some l => !isNonE lo && chkE T c lo l) && (match h with | none => isNonE hi | some h => !isNonE hi && chkE T c hi h)
      | _ => false)
    | _ => false
  | .attr o f, e => match vAtt e with | some (x, n) => decide (n = T.C.nm f) && decide (f ∈ T.flds) && notSuper x && chkE T c o x | _ => false
  | .call g es kwi ks, e => match vCall e with
    | some (f, as, kws, _) => (match vName f with
      | some x => decide (T.gt.lookup x = some g) && isGl c.S x && okName x && decide ((g, es.len, kwi) ∈ T.sh) && decide (kwNames kws = some (kwi.map fun i => (T.ps g).getD i Str.empty)) && decide (ks.len = kwi.length) && chkEs T c es as && chkKs T c ks kws
      | _ => false)
    | _ => false
  | .make cn es kwi ks, e => match vCall e with
    | some (f, as, kws, _) => (match vName f, T.G.cls cn with
      | some x, some q => (match q.init with
        | some g => decide (T.gt.lookup x = some cn) && isGl c.S x && okName x && decide ((g, es.len + 1, kwi) ∈ T.mh) && decide (kwNames kws = some (kwi.map fun i => (T.ps g).getD i Str.empty)) && decide (ks.len = kwi.length) && chkEs T c es as && chkKs T c ks kws
        | _ => false)
      | _, _ => false)
    | _ => false
  | .bi b es, e => match vCall e with
    | some (f, a :: as, [], _) => (match vName f with
      | some x => decide (x = Str.ofString (biS b)) && decide (x ∈ T.bl) && c.calm && isGl c.S x && okName x && chkEs T c es (a :: as)
      | _ => false)
    | _ => false
  | .bm m o es, e => match vCall e with
    | some (f, a :: as, [], p) => (match vAttP f with
      | some (x, n, ap) => decide (n = Str.ofString (bmS m)) && decide (bmId m ≠ "") && notSuper x && (ap.endLine == p.line) && decide (as.length < 20) && chkE T c o x && chkEs T c es (a :: as)
      | _ => false)
    | _ => false
  | .isi a ts _, e => match vCall e with
    | some (f, [x, y], [], _) => (match vName f with
      | some n => decide (n = ("isinstance" : Str)) && decide (n ∈ T.bl) && isGl c.S n && okName n && !isStar x && chkE T c a x && (match ts with
        | [t] => isN T c y t
        | ts => (match vTup y with | some ys => isNs T c ys ts && !ts.isEmpty && decide (ys.length ≤ 100) | _ => false))
      | _ => false)
    | _ => false
  | .fst es, e => match vJoin e with | some (x :: y :: r) => chkEs T c es (x :: y :: r) | _ => false
  | .fmt a, e => match vFmt e with | some x => chkE T c a x | _ => false
  | .comp _ own el t it ifs, e => match vLc e with
    | some (x, [⟨tg, iter, fs, 0⟩], sc, _) => c.calm && blkC c.N c.S sc (ownOf c.N own) && decide (∀ i, i ∈ slotsT t → i ∈ own) && !isSet iter && chkI T c it tg iter && chkTn (c.blk sc) t tg && chkE T (c.blk sc) el x && (match ifs, fs with
      | .nil, [] => true | .cons i .nil, [f] => chkE T (c.blk sc) i f | _, _ => false)
    | _ => false
  | .comp2 own el t it ifs own1 t1 it1 ifs1, e => match vLc e with
    | some (x, [⟨tg, iter, fs, 0⟩, ⟨tg1, iter1, fs1, 0⟩], sc, _) => c.calm && blkC c.N c.S sc (ownOf c.N own) && decide (∀ i, i ∈ slotsT t → i ∈ own) && decide (∀ i, i ∈ slotsT t1 → i ∈ own1) && decide (∀ i, i ∈ own1 → i ∈ own) && !isSet iter && !isSet iter1 && chkI T c it tg iter && chkTn (c.blk sc) t tg && chkI T (c.blk sc) it1 tg1 iter1 && chkTn (c.blk sc) t1 tg1 && chkE T (c.blk sc) el x && (match ifs, fs with
      | .nil, [] => true | .cons i .nil, [f] => chkE T (c.blk sc) i f | _, _ => false) && (match ifs1, fs1 with
      | .nil, [] => true | .cons i .nil, [f] => chkE T (c.blk sc) i f | _, _ => false)
    | _ => false
  | .dcomp own ek el t it ifs, e => match vDc e with
    | some (kx, x, [⟨tg, iter, fs, 0⟩], sc, _) => c.calm && blkC c.N c.S sc (ownOf c.N own) && decide (∀ i, i ∈ slotsT t → i ∈ own) && !isSet iter && chkI T c it tg iter && chkTn (c.blk sc) t tg && chkE T (c.blk sc) ek kx && chkE T (c.blk sc) el x && (match ifs, fs with
      | .nil, [] => true | .cons i .nil, [f] => chkE T (c.blk sc) i f | _, _ => false)
    | _ => false
  | .dct _ es, e => match vDict e with
    | some (ks, vs, _) => (match flatKV ks vs with
      | some xs => evenEs es && decide (ks.length ≤ 15) && chkEs T c es xs | _ => false)
    | _ => false
  | .lsts _ ss es, e => match vLst e with | some xs => (match unstar ss xs with | some ys => chkEs T c es ys | _ => false) | _ => false
  | .tups ss es, e => match vTup e with | some xs => (match unstar ss xs with | some ys => chkEs T c es ys | _ => false) | _ => false
  | .lzip es, e => match vCall e with
    | some (f, [z], [], _) => (match vName f, vCall z with
      | some n, some (g, [a, b], [], _) => (match vName g with
        | some m => decide (n = ("list" : Str)) && decide (m = ("zip" : Str)) && decide (n ∈ T.bl) && decide (m ∈ T.bl) && isGl c.S n && isGl c.S m && c.calm && chkEs T c es [a, b]
        | _ => false)
      | _, _ => false)
    | _ => false
  | .rev a, e => match vSub e with | some (x, y) => vRev y && chkE T c a x | _ => false
  | .sortk a g (some b), e => match vCall e with
    | some (f, [x], kws, _) => (match vName f, sortKw kws with
      | some n, some (y, b') => decide (n = ("sorted" : Str)) && decide (b' = b) && decide (n ∈ T.bl) && decide (T.gt.lookup y = some g) && decide (g ∈ T.keys) && isGl c.S n && isGl c.S y && okName y && !isStar x && chkE T c a x
      | _, _ => false)
    | _ => false
  | _, _ => false
def chkEs (T : Tb) (c : Ck) : Es → List Expr → Bool
  | .nil, [] => true
  | .cons e r, x :: xs => !isStar x && chkE T c e x && chkEs T c r xs
  | _, _ => false
def chkKs (T : Tb) (c : Ck) : Es → List Keyword → Bool
  | .nil, [] => true
  | .cons e r, ⟨_, x, _⟩ :: xs => chkE T c e x && chkKs T c r xs
  | _, _ => false
def chkI (T : Tb) (c : Ck) : It → Expr → Expr → Bool
  | .e e, _, x => chkE T c e x
  | .range es, _, x => match vCall x with
    | some (f, as, [], _) => (match vName f with
      | some n => decide (n = ("range" : Str)) && decide (n ∈ T.bl) && isGl c.S n && (es.len == as.length) && (as.length == 1 || as.length == 2) && chkEs T c es as
      | _ => false)
    | _ => false
  | .zip es, tg, x => match vTup tg, vCall x with
    | some _, some (f, [y, z], [], _) => (match vName f with
      | some n => decide (n = ("zip" : Str)) && decide (n ∈ T.bl) && isGl c.S n && !isStar y && !isStar z && decide (es.len = 2) && chkEs T c es [y, z]
      | _ => false)
    | _, _ => false
  | .enum a, tg, x => match vTup tg, vCall x with
    | some _, some (f, [y], [], _) => (match vName f with
      | some n => decide (n = ("enumerate" : Str)) && decide (n ∈ T.bl) && isGl c.S n && !isStar y && chkE T c a y
      | _ => false)
    | _, _ => false
  | _, _, _ => false
end
structure Both (T : Tb) (k : Nat) (Wd : WX) (X : Cx) (ee : E) (x : Expr) : Prop where
  e : PE X x (TE' T.C Wd (ev T.G (run T.G k) ee))
  t : PT X x (TT' T.C Wd (evT T.G (run T.G k) ee))
  w : isBO ee = true → PW X x (TT' T.C Wd (evT T.G (run T.G k) ee))
theorem Both.plain {T : Tb} {k : Nat} {Wd : WX} {X : Cx} {e : E} {x : Expr} (hK : X.K = T.C.K) (hb : isBO e = false) (h : PE X x (TE' T.C Wd (ev T.G (run T.G k) e))) (he : ∀ whole, PySem.isTrue x X.env whole = (do let v ← whole; standAt x.pos; holding [v] (truthy v))) : Both T k Wd X e x :=
  ⟨h, r_truth hK h he, fun z => by rw [hb] at z; cases z⟩
theorem evT_bad {G : Prog} {cl : CallT} {env : Env} {w : W} : evT G cl .bad env w = .bad := by simp only [evT, ev]
theorem tt_bad {T : Tb} {Wd : WX} {cl : CallT} {σ : St} {H : Hp} {Q : Bool → Hp → Prop} (q : TT' T.C Wd (evT T.G cl .bad) σ H Q) : False := by
  obtain ⟨F, ρ, env, w, k0, en, r⟩ := q
  rw [evT_bad] at r
  exact r
theorem both_bad {T : Tb} {k : Nat} {Wd : WX} {X : Cx} {x : Expr} : Both T k Wd X .bad x := ⟨pe_bad, ⟨fun _ _ _ _ _ _ q => (tt_bad q).elim⟩, fun z => by cases z⟩
section
variable {T : Tb} {k : Nat} {c : Ck} {Wd : WX} {X : Cx}
theorem nstar_of : ∀ {es : Es} {xs : List Expr}, chkEs T c es xs = true → xs.all (fun e => !isStar e) = true
  | .nil, [], _ => rfl
  | .nil, _ :: _, h => by simp [chkEs] at h
  | .cons _ _, [], h => by simp [chkEs] at h
  | .cons e r, x :: xs, h => by
    simp only [chkEs, Bool.and_eq_true] at h
    simp only [List.all_cons, Bool.and_eq_true]
    exact ⟨h.1.1, nstar_of h.2⟩
theorem nil_of : ∀ {es : Es} {xs : List Expr}, chkEs T c es xs = true → xs = [] → es = .nil
  | .nil, _, _, _ => rfl
  | .cons e r, [], h, _ => by simp [chkEs] at h
  | .cons e r, x :: xs, h, z => by cases z
mutual
theorem soE (tb : TbOk T k) {Wd : WX} {c : Ck} {X : Cx} (hx : XOk T k c Wd X) : ∀ {e : E} {x : Expr}, chkE T c e x = true → Both T k Wd X e x
  | .bad, x, _ => both_bad
  | .loc i, x, h => by
    simp only [chkE] at h
    split at h
    · rename_i n hv
      obtain ⟨p, rfl⟩ := vName_eq hv
      simp only [Bool.and_eq_true, decide_eq_true_eq] at h
      exact .plain hx.K rfl (r_var hx h.1.1 h.1.2 h.2) (by intro whole; rfl)
    · cases h
  | .glob g, x, h => by
    simp only [chkE] at h
    split at h
    · rename_i n hv
      obtain ⟨p, rfl⟩ := vName_eq hv
      simp only [Bool.and_eq_true, decide_eq_true_eq] at h
      exact .plain hx.K rfl (r_glob hx tb h.1.1 h.1.2 h.2) (by intro whole; rfl)
    · cases h
  | .non, x, h => by
    simp only [chkE] at h
    split at h
    · rename_i hv
      obtain ⟨j, p, rfl⟩ := vConst_eq hv
      exact .plain hx.K rfl (r_const (d := .non) pe_non (fun env w => by simp [ev]) fun F ρ => .non) (by intro whole; rfl)
    · cases h
  | .bl b, x, h => by
    simp only [chkE] at h
    split at h
    · rename_i b' hv
      obtain ⟨j, p, rfl⟩ := vConst_eq hv
      simp only [decide_eq_true_eq] at h
      subst h
      exact .plain hx.K rfl (r_const (d := .bl b') pe_bl (fun env w => by simp [ev]) fun F ρ => .bl _) (by intro whole; rfl)
    · cases h
  | .int b, x, h => by
    simp only [chkE] at h
    split at h
    · rename_i b' hv
      obtain ⟨j, p, rfl⟩ := vConst_eq hv
      simp only [decide_eq_true_eq] at h
      subst h
      exact .plain hx.K rfl (r_const (d := .int b') pe_int (fun env w => by simp [ev]) fun F ρ => .int _) (by intro whole; rfl)
    · cases h
  | .str s, x, h => by
    simp only [chkE] at h
    split at h
    · rename_i b' hv
      obtain ⟨j, p, rfl⟩ := vConst_eq hv
      simp only [decide_eq_true_eq] at h
      subst h
      exact .plain hx.K rfl (r_const (d := .str s) pe_str (fun env w => by simp [ev]) fun F ρ => .str _) (by intro whole; rfl)
    · cases h
  | .bin o a b, x, h => by
    simp only [chkE] at h
    split at h
    · rename_i x y op hv
      obtain ⟨p, rfl⟩ := vBin_eq hv
      simp only [Bool.and_eq_true, decide_eq_true_eq] at h
      obtain ⟨⟨rfl, h1⟩, h2⟩ := h
      exact .plain hx.K rfl (r_bin (soE tb hx h1).e (soE tb hx h2).e) (by intro whole; rfl)
    · cases h
  | .catm a b, x, h => by
    simp only [chkE] at h
    split at h
    · rename_i x y op hv
      obtain ⟨p, rfl⟩ := vBin_eq hv
      simp only [Bool.and_eq_true, decide_eq_true_eq] at h
      obtain ⟨⟨rfl, h1⟩, h2⟩ := h
      exact .plain hx.K rfl (r_catm (soE tb hx h1).e (soE tb hx h2).e) (by intro whole; rfl)
    · cases h
  | .neg a, x, h => by
    simp only [chkE] at h
    split at h
    · rename_i y hv
      obtain ⟨p, rfl⟩ := vUn_eq hv
      exact .plain hx.K rfl (r_neg (soE tb hx h).e) (by intro whole; rfl)
    · cases h
  | .not a, x, h => by
    simp only [chkE] at h
    split at h
    · rename_i y hv
      obtain ⟨p, rfl⟩ := vUn_eq hv
      have ih := soE tb hx h
      exact ⟨r_notE hx.K ih.e, r_not ih.t, fun z => by cases z⟩
    · cases h
  | .and a b, x, h => by
    simp only [chkE] at h
    split at h
    · rename_i x y p hv
      rw [vBool_eq hv]
      simp only [Bool.and_eq_true] at h
      have h1 := soE tb hx h.1
      have h2 := soE tb hx h.2
      have wb : PW X (.BoolOp .And [y] p) (TT' T.C Wd (evT T.G (run T.G k) b)) := pw_and1 h2.t
      exact ⟨r_and hx.K h1.e (pe_one h2.e), (w_and h1.t wb).pt, fun _ => w_and h1.t wb⟩
    · rename_i x y z r p hv
      rw [vBool_eq hv]
      simp only [Bool.and_eq_true] at h
      have h1 := soE tb hx h.1.1
      have h2 := soE tb hx h.2
      exact ⟨r_and hx.K h1.e h2.e, (w_and h1.t (h2.w h.1.2)).pt, fun _ => w_and h1.t (h2.w h.1.2)⟩
    · cases h
  | .or a b, x, h => by
    simp only [chkE] at h
    split at h
    · rename_i x y p hv
      rw [vBool_eq hv]
      simp only [Bool.and_eq_true] at h
      have h1 := soE tb hx h.1
      have h2 := soE tb hx h.2
      have wb : PW X (.BoolOp .Or [y] p) (TT' T.C Wd (evT T.G (run T.G k) b)) := pw_or1 h2.t
      exact ⟨r_or hx.K h1.e (pe_one h2.e), (w_or h1.t wb).pt, fun _ => w_or h1.t wb⟩
    · rename_i x y z r p hv
      rw [vBool_eq hv]
      simp only [Bool.and_eq_true] at h
      have h1 := soE tb hx h.1.1
      have h2 := soE tb hx h.2
      exact ⟨r_or hx.K h1.e h2.e, (w_or h1.t (h2.w h.1.2)).pt, fun _ => w_or h1.t (h2.w h.1.2)⟩
    · cases h
  | .cmp o a b, x, h => by
    simp only [chkE] at h
    split at h
    · rename_i x op y hv
      obtain ⟨p, rfl⟩ := vCmp_eq hv
      simp only [Bool.and_eq_true, decide_eq_true_eq, Bool.not_eq_true'] at h
      obtain ⟨⟨⟨rfl, hm⟩, h1⟩, h2⟩ := h
      obtain ⟨q1, q2⟩ := r_cmp (p := p) hx tb hm (soE tb hx h1).e (soE tb hx h2).e
      exact ⟨q1, q2, fun z => by cases z⟩
    · cases h
  | .cmp2 o o' a b d, x, h => by
    simp only [chkE] at h
    split at h
    · rename_i x op op' y z hv
      obtain ⟨p, rfl⟩ := vCmp_eq hv
      simp only [Bool.and_eq_true, decide_eq_true_eq, Bool.not_eq_true'] at h
      obtain ⟨⟨⟨⟨⟨rfl, rfl⟩, hm⟩, h1⟩, h2⟩, h3⟩ := h
      obtain ⟨q1, q2⟩ := r_cmp2 (p := p) hx tb hm (soE tb hx h1).e (soE tb hx h2).e (soE tb hx h3).e
      exact ⟨q1, q2, fun z => by cases z⟩
    · cases h
  | .cmp3 o o' o2 a b d f, x, h => by
    simp only [chkE] at h
    split at h
    · rename_i x op op' op2 y z u hv
      obtain ⟨p, rfl⟩ := vCmp_eq hv
      simp only [Bool.and_eq_true, decide_eq_true_eq, Bool.not_eq_true'] at h
      obtain ⟨⟨⟨⟨⟨⟨⟨rfl, rfl⟩, rfl⟩, hm⟩, h1⟩, h2⟩, h3⟩, h4⟩ := h
      obtain ⟨q1, q2⟩ := r_cmp3 (p := p) hx tb hm (soE tb hx h1).e (soE tb hx h2).e (soE tb hx h3).e (soE tb hx h4).e
      exact ⟨q1, q2, fun z => by cases z⟩
    · cases h
  | .ite t a b, x, h => by
    simp only [chkE] at h
    split at h
    · rename_i z x y hv
      obtain ⟨p, rfl⟩ := vIf_eq hv
      simp only [Bool.and_eq_true] at h
      have h1 := soE tb hx h.1.1
      have h2 := soE tb hx h.1.2
      have h3 := soE tb hx h.2
      exact ⟨r_ite h1.t h2.e h3.e, t_ite h1.t h2.t h3.t, fun z => by cases z⟩
    · cases h
  | .tup es, x, h => by
    simp only [chkE] at h
    split at h
    · rename_i xs hv
      obtain ⟨kk, p, rfl⟩ := vTup_eq hv
      simp only [Bool.and_eq_true, decide_eq_true_eq] at h
      exact .plain hx.K rfl (r_tup h.1 (soEs tb hx h.2)) (by intro whole; rfl)
    · cases h
  | .lst m es, x, h => by
    simp only [chkE] at h
    split at h
    · rename_i xs hv
      obtain ⟨p, rfl⟩ := vLst_eq hv
      exact .plain hx.K rfl (r_lst (soEs tb hx h)) (by intro whole; rfl)
    · cases h
  | .sub o i, x, h => by
    simp only [chkE] at h
    split at h
    · rename_i x y hv
      obtain ⟨p, rfl⟩ := vSub_eq hv
      simp only [Bool.and_eq_true, Bool.not_eq_true'] at h
      exact .plain hx.K rfl (r_sub hx h.1.1 (soE tb hx h.1.2).e (soE tb hx h.2).e) (by intro whole; rfl)
    · cases h
  | .slc o lo hi, x, h => by
    simp only [chkE] at h
    split at h
    · rename_i x y hv
      obtain ⟨p, rfl⟩ := vSub_eq hv
      split at h
      · rename_i l u hv2
        obtain ⟨p2, rfl⟩ := vSlc_eq hv2
        simp only [Bool.and_eq_true] at h
        have key : ∀ {a : E} {l : Option Expr}, (∀ z, chkE T c a z = true → Both T k Wd X a z) → (match l with | none => isNonE a | some l => !isNonE a && chkE T c a l) = true → PO X l (TO' T.C Wd (evP T.G (run T.G k) a)) := fun {a l} ih z => by
          cases l with
          | none =>
            cases a <;> first | exact o_none | (simp [isNonE] at z)
          | some l =>
            simp only [Bool.and_eq_true, Bool.not_eq_true'] at z
            refine o_some (fun env w => ?_) (ih _ z.2).e
            cases a <;> first | rfl | (simp [isNonE] at z)
        exact .plain hx.K rfl (r_slc hx (soE tb hx h.1.1).e (key (fun z hz => soE tb hx hz) h.1.2) (key (fun z hz => soE tb hx hz) h.2)) (by intro whole; rfl)
      · cases h
    · cases h
  | .attr o f, x, h => by
    simp only [chkE] at h
    split at h
    · rename_i x n hv
      obtain ⟨p, rfl⟩ := vAtt_eq hv
      simp only [Bool.and_eq_true, decide_eq_true_eq] at h
      obtain ⟨⟨⟨rfl, h1⟩, h2⟩, h3⟩ := h
      exact .plain hx.K rfl (r_attr hx tb h1 h2 rfl (soE tb hx h3).e) (by intro whole; rfl)
    · cases h
  | .call g es kwi ks, x, h => by
    simp only [chkE] at h
    split at h
    · rename_i f as kws p hv
      rw [vCall_eq hv]
      split at h
      · rename_i n hn
        obtain ⟨p2, rfl⟩ := vName_eq hn
        simp only [Bool.and_eq_true, decide_eq_true_eq] at h
        obtain ⟨⟨⟨⟨⟨⟨⟨h1, h2⟩, h3⟩, h4⟩, h5⟩, h6⟩, h7⟩, h8⟩ := h
        exact .plain hx.K rfl (r_call hx tb h1 h2 h3 h4 (nstar_of h7) (nil_of h7) h5 h6 (soEs tb hx h7) (soKs tb hx h8)) (by intro whole; rfl)
      · cases h
    · cases h
  | .make cn es kwi ks, x, h => by
    simp only [chkE] at h
    split at h
    · rename_i f as kws p hv
      rw [vCall_eq hv]
      split at h
      · rename_i n q hn hq
        obtain ⟨p2, rfl⟩ := vName_eq hn
        split at h
        · rename_i g hg
          simp only [Bool.and_eq_true, decide_eq_true_eq] at h
          obtain ⟨⟨⟨⟨⟨⟨⟨h1, h2⟩, h3⟩, h4⟩, h5⟩, h6⟩, h7⟩, h8⟩ := h
          exact .plain hx.K rfl (r_make hx tb h1 hq hg h2 h3 h4 (nstar_of h7) (nil_of h7) h5 h6 (soEs tb hx h7) (soKs tb hx h8)) (by intro whole; rfl)
        · cases h
      · cases h
    · cases h
  | .bi b es, x, h => by
    simp only [chkE] at h
    split at h
    · rename_i f a as p hv
      rw [vCall_eq hv]
      split at h
      · rename_i n hn
        obtain ⟨p2, rfl⟩ := vName_eq hn
        simp only [Bool.and_eq_true, decide_eq_true_eq] at h
        obtain ⟨⟨⟨⟨⟨rfl, h1⟩, h2⟩, h3⟩, h4⟩, h5⟩ := h
        refine .plain hx.K rfl (r_bi hx tb h2 h3 h1 ?_ h4 (nstar_of h5) (soEs tb hx h5)) (by intro whole; rfl)
        cases b <;> rfl
      · cases h
    · cases h
  | .bm m o es, x, h => by
    simp only [chkE] at h
    split at h
    · rename_i f a as p hv
      rw [vCall_eq hv]
      split at h
      · rename_i x n ap hn
        obtain rfl := vAttP_eq hn
        simp only [Bool.and_eq_true, decide_eq_true_eq] at h
        obtain ⟨⟨⟨⟨⟨⟨rfl, h1⟩, h2⟩, h3⟩, h4⟩, h5⟩, h6⟩ := h
        exact .plain hx.K rfl (r_bm hx h1 h2 (nstar_of h6) h3 h4 (soE tb hx h5).e (soEs tb hx h6)) (by intro whole; rfl)
      · cases h
    · cases h
  | .isi a ts one, x, h => by
    simp only [chkE] at h
    split at h
    · rename_i f x y p hv
      rw [vCall_eq hv]
      split at h
      · rename_i n hn
        obtain ⟨p2, rfl⟩ := vName_eq hn
        simp only [Bool.and_eq_true, decide_eq_true_eq, Bool.not_eq_true'] at h
        obtain ⟨⟨⟨⟨⟨⟨rfl, h1⟩, h2⟩, h3⟩, h4⟩, h5⟩, h6⟩ := h
        split at h6
        · exact .plain hx.K rfl (r_isi1 hx tb h2 h1 rfl h3 h4 h6 (soE tb hx h5).e) (by intro whole; rfl)
        · split at h6
          · rename_i ys hy
            obtain ⟨kk, p3, rfl⟩ := vTup_eq hy
            simp only [Bool.and_eq_true, decide_eq_true_eq, Bool.not_eq_true', List.isEmpty_eq_false_iff] at h6
            exact .plain hx.K rfl (r_isiT hx tb h2 h1 rfl h3 h4 h6.1.1 h6.1.2 h6.2 (soE tb hx h5).e) (by intro whole; rfl)
          · cases h6
      · cases h
    · cases h
  | .fst es, x, h => by
    simp only [chkE] at h
    split at h
    · rename_i a b r hv
      obtain ⟨p, rfl⟩ := vJoin_eq hv
      exact .plain hx.K rfl (r_fst (soJ tb hx h)) (by intro whole; rfl)
    · cases h
  | .fmt a, x, h => by
    simp only [chkE] at h
    split at h
    · rename_i y hv
      obtain ⟨p, rfl⟩ := vFmt_eq hv
      exact .plain hx.K rfl (r_fmt (soE tb hx h).e) (by intro whole; rfl)
    · cases h
  | .comp m own el t it ifs, x, h => by
    simp only [chkE] at h
    split at h
    · rename_i x tg iter fs sc p hv
      rw [vLc_eq hv]
      simp only [Bool.and_eq_true, decide_eq_true_eq, Bool.not_eq_true'] at h
      obtain ⟨⟨⟨⟨⟨⟨⟨h1, h2⟩, h3⟩, h4⟩, h5⟩, h6⟩, h7⟩, h8⟩ := h
      refine .plain hx.K rfl (r_comp hx h1 h2 h3 h4 (soI tb hx h5) (fun X' hx' => pg_of hx' h6) (fun X' hx' => ?_) (fun X' hx' => (soE tb hx' h7).e)) (by intro whole; rfl)
      split at h8
      · exact pts_none
      · exact pts_1 (soE tb hx' h8).t
      · cases h8
    · cases h
  | .dct m es, x, h => by
    simp only [chkE] at h
    split at h
    · rename_i ks vs p hv
      rw [vDict_eq hv]
      split at h
      · rename_i xs hk
        simp only [Bool.and_eq_true, decide_eq_true_eq] at h
        by_cases h0 : ks = []
        · subst h0
          have hvs : vs = [] := by cases vs with
            | nil => rfl
            | cons a b => simp [flatKV] at hk
          subst hvs
          have hxs : xs = [] := by simpa [flatKV] using hk.symm
          subst hxs
          have he : es = .nil := by cases es with
            | nil => rfl
            | cons a b => simp [chkEs] at h
          subst he
          exact .plain hx.K rfl r_dct0 (by intro whole; rfl)
        · exact .plain hx.K rfl (r_dct hk h.1.1 h0 h.1.2 (soJ tb hx h.2)) (by intro whole; rfl)
      · cases h
    · cases h
  | .cmeth _ _ _ _ _, x, h => by simp [chkE] at h
  | .meth _ _ _ _ _, x, h => by simp [chkE] at h
  | .sortk _ _ none, x, h => by simp [chkE] at h
  | .rev a, x, h => by
    simp only [chkE] at h
    split at h
    · rename_i x y hv
      obtain ⟨p, rfl⟩ := vSub_eq hv
      simp only [Bool.and_eq_true] at h
      obtain ⟨kk, p1, p2, p3, rfl⟩ := vRev_eq h.1
      exact .plain hx.K rfl (r_rev hx (soE tb hx h.2).e) (by intro whole; rfl)
    · cases h
  | .sortk a g (some b), x, h => by
    simp only [chkE] at h
    split at h
    · rename_i f x kws p hv
      rw [vCall_eq hv]
      split at h
      · rename_i n y b' hn hk
        obtain ⟨p2, rfl⟩ := vName_eq hn
        simp only [Bool.and_eq_true, decide_eq_true_eq, Bool.not_eq_true'] at h
        obtain ⟨⟨⟨⟨⟨⟨⟨⟨⟨rfl, rfl⟩, h1⟩, h2⟩, h3⟩, h4⟩, h5⟩, h6⟩, h7⟩, h8⟩ := h
        obtain ⟨p1, k1, j, p3, k2, rfl⟩ := sortKw_eq hk
        exact .plain hx.K rfl (r_sortk hx tb h4 h1 h2 h5 h6 h3 h7 (soE tb hx h8).e) (by intro whole; rfl)
      · cases h
    · cases h
  | .sortr _ _, x, h => by simp [chkE] at h
  | .comp2 own el t it ifs own1 t1 it1 ifs1, x, h => by
    simp only [chkE] at h
    split at h
    · rename_i x tg iter fs tg1 iter1 fs1 sc p hv
      rw [vLc_eq hv]
      simp only [Bool.and_eq_true, decide_eq_true_eq, Bool.not_eq_true'] at h
      obtain ⟨⟨⟨⟨⟨⟨⟨⟨⟨⟨⟨⟨⟨h1, h2⟩, h3⟩, h3'⟩, h3s⟩, h4⟩, h4'⟩, h5⟩, h6⟩, h5'⟩, h6'⟩, h7⟩, h8⟩, h9⟩ := h
      refine .plain hx.K rfl (r_comp2 hx h1 h2 h3 h3' h3s h4 h4' (soI tb hx h5) (fun X' hx' => pg_of hx' h6) (fun X' hx' => ?_) (fun X' hx' => soI tb hx' h5') (fun X' hx' => pg_of hx' h6') (fun X' hx' => ?_) (fun X' hx' => (soE tb hx' h7).e)) (by intro whole; rfl)
      · split at h8
        · exact pts_none
        · exact pts_1 (soE tb hx' h8).t
        · cases h8
      · split at h9
        · exact pts_none
        · exact pts_1 (soE tb hx' h9).t
        · cases h9
    · cases h
  | .dcomp own ek el t it ifs, x, h => by
    simp only [chkE] at h
    split at h
    · rename_i kx x tg iter fs sc p hv
      rw [vDc_eq hv]
      simp only [Bool.and_eq_true, decide_eq_true_eq, Bool.not_eq_true'] at h
      obtain ⟨⟨⟨⟨⟨⟨⟨⟨h1, h2⟩, h3⟩, h4⟩, h5⟩, h6⟩, h7⟩, h8⟩, h9⟩ := h
      refine .plain hx.K rfl (r_dcomp hx h1 h2 h3 h4 (soI tb hx h5) (fun X' hx' => pg_of hx' h6) (fun X' hx' => ?_) (fun X' hx' => (soE tb hx' h7).e) (fun X' hx' => (soE tb hx' h8).e)) (by intro whole; rfl)
      split at h9
      · exact pts_none
      · exact pts_1 (soE tb hx' h9).t
      · cases h9
    · cases h
  | .lsts m ss es, x, h => by
    simp only [chkE] at h
    split at h
    · rename_i xs hv
      obtain ⟨p, rfl⟩ := vLst_eq hv
      split at h
      · rename_i ys hu
        exact .plain hx.K rfl (r_lsts (sp_of hx hu (soJ tb hx h))) (by intro whole; rfl)
      · cases h
    · cases h
  | .tups ss es, x, h => by
    simp only [chkE] at h
    split at h
    · rename_i xs hv
      obtain ⟨kk, p, rfl⟩ := vTup_eq hv
      split at h
      · rename_i ys hu
        exact .plain hx.K rfl (r_tups (sp_of hx hu (soJ tb hx h))) (by intro whole; rfl)
      · cases h
    · cases h
  | .lzip es, x, h => by
    simp only [chkE] at h
    split at h
    · rename_i f z p hv
      rw [vCall_eq hv]
      split at h
      · rename_i n g a b p2 hn hz
        obtain ⟨p3, rfl⟩ := vName_eq hn
        rw [vCall_eq hz]
        split at h
        · rename_i m hm
          obtain ⟨p4, rfl⟩ := vName_eq hm
          simp only [Bool.and_eq_true, decide_eq_true_eq] at h
          obtain ⟨⟨⟨⟨⟨⟨⟨rfl, rfl⟩, h1⟩, h2⟩, h3⟩, h4⟩, h5⟩, h6⟩ := h
          have hs := nstar_of h6
          simp only [List.all_cons, Bool.and_eq_true, Bool.not_eq_true'] at hs
          exact .plain hx.K rfl (r_lzip hx tb h5 h3 h1 h4 h2 hs.1 hs.2.1 (soEs tb hx h6)) (by intro whole; rfl)
        · cases h
      · cases h
    · cases h
theorem soEs (tb : TbOk T k) {Wd : WX} {c : Ck} {X : Cx} (hx : XOk T k c Wd X) : ∀ {es : Es} {xs : List Expr}, chkEs T c es xs = true → PA X xs (TA' T.C Wd (evs T.G (run T.G k) es))
  | .nil, [], _ => a_nil
  | .nil, _ :: _, h => by simp [chkEs] at h
  | .cons _ _, [], h => by simp [chkEs] at h
  | .cons e r, x :: xs, h => by
    simp only [chkEs, Bool.and_eq_true, Bool.not_eq_true'] at h
    exact a_cons h.1.1 (soE tb hx h.1.2).e (soEs tb hx h.2)
theorem soKs (tb : TbOk T k) {Wd : WX} {c : Ck} {X : Cx} (hx : XOk T k c Wd X) : ∀ {es : Es} {xs : List Keyword}, chkKs T c es xs = true → PK X xs (TA' T.C Wd (evs T.G (run T.G k) es))
  | .nil, [], _ => k_nil
  | .nil, _ :: _, h => by simp [chkKs] at h
  | .cons _ _, [], h => by simp [chkKs] at h
  | .cons e r, ⟨_, x, _⟩ :: xs, h => by
    simp only [chkKs, Bool.and_eq_true] at h
    exact k_cons (soE tb hx h.1).e (soKs tb hx h.2)
theorem soJ (tb : TbOk T k) {Wd : WX} {c : Ck} {X : Cx} (hx : XOk T k c Wd X) : ∀ {es : Es} {xs : List Expr}, chkEs T c es xs = true → PJ X xs (jS T.C Wd T.G (run T.G k) es)
  | .nil, [], _ => .nil
  | .nil, _ :: _, h => by simp [chkEs] at h
  | .cons _ _, [], h => by simp [chkEs] at h
  | .cons e r, x :: xs, h => by
    simp only [chkEs, Bool.and_eq_true, Bool.not_eq_true'] at h
    exact .cons (soE tb hx h.1.2).e (soJ tb hx h.2)
theorem soI (tb : TbOk T k) {Wd : WX} {c : Ck} {X : Cx} (hx : XOk T k c Wd X) : ∀ {it : It} {tg x : Expr}, chkI T c it tg x = true → PI X tg x (TI' T.C Wd (evI T.G (run T.G k) it))
  | .e e, tg, x, h => by
    simp only [chkI] at h
    exact i_e hx (soE tb hx h).e
  | .range es, tg, x, h => by
    simp only [chkI] at h
    split at h
    · rename_i f as p hv
      rw [vCall_eq hv]
      split at h
      · rename_i n hn
        obtain ⟨p2, rfl⟩ := vName_eq hn
        simp only [Bool.and_eq_true, decide_eq_true_eq, beq_iff_eq, Bool.or_eq_true] at h
        obtain ⟨⟨⟨⟨⟨rfl, h1⟩, h2⟩, h3⟩, h4⟩, h5⟩ := h
        have hs := nstar_of h5
        rcases h4 with h4 | h4
        · match as, h4 with
          | [a], _ =>
            simp only [List.all_cons, Bool.and_eq_true, Bool.not_eq_true'] at hs
            exact i_range1 hx tb h2 h1 hs.1 h3 (soEs tb hx h5)
        · match as, h4 with
          | [a, b], _ =>
            simp only [List.all_cons, Bool.and_eq_true, Bool.not_eq_true'] at hs
            exact i_range2 hx tb h2 h1 hs.1 hs.2.1 h3 (soEs tb hx h5)
      · cases h
    · cases h
  | .enum a, tg, x, h => by
    simp only [chkI] at h
    split at h
    · rename_i es f y p ht hv
      obtain ⟨kk, tp, rfl⟩ := vTup_eq ht
      rw [vCall_eq hv]
      split at h
      · rename_i n hn
        obtain ⟨p2, rfl⟩ := vName_eq hn
        simp only [Bool.and_eq_true, decide_eq_true_eq, Bool.not_eq_true'] at h
        obtain ⟨⟨⟨⟨rfl, h1⟩, h2⟩, h3⟩, h4⟩ := h
        exact i_enum hx tb h2 h1 h3 (soE tb hx h4).e
      · cases h
    · cases h
  | .zip es, tg, x, h => by
    simp only [chkI] at h
    split at h
    · rename_i es' f y z p ht hv
      obtain ⟨kk, tp, rfl⟩ := vTup_eq ht
      rw [vCall_eq hv]
      split at h
      · rename_i n hn
        obtain ⟨p2, rfl⟩ := vName_eq hn
        simp only [Bool.and_eq_true, decide_eq_true_eq, Bool.not_eq_true'] at h
        obtain ⟨⟨⟨⟨⟨⟨rfl, h1⟩, h2⟩, h3⟩, h4⟩, h5⟩, h6⟩ := h
        exact i_zip hx tb h2 h1 h3 h4 h5 (soEs tb hx h6)
      · cases h
    · cases h
  | .items _, tg, x, h => by simp [chkI] at h
  | .vals _, tg, x, h => by simp [chkI] at h
  | .keys _, tg, x, h => by simp [chkI] at h
end
end
end Sv

set_option Elab.async false
set_option linter.all false
set_option maxRecDepth 100000
set_option maxHeartbeats 8000000
namespace Sv
open PySem L2
def ResO (C : Cn) (Wd : WX) (F : Hp) (ρ : List Addr) (o : O) (D : Ends) : Prop := match o with
  | .next env w => ∀ F' ρ' H' σ', Ext F ρ F' ρ' → WOk C F' ρ' w H' → EnvOk C F' ρ' env σ' → D.nx σ' H'
  | .brk env w => ∀ F' ρ' H' σ', Ext F ρ F' ρ' → WOk C F' ρ' w H' → EnvOk C F' ρ' env σ' → D.bk σ' H'
  | .cnt env w => ∀ F' ρ' H' σ', Ext F ρ F' ρ' → WOk C F' ρ' w H' → EnvOk C F' ρ' env σ' → D.ct σ' H'
  | .ret d w => ∀ F' ρ' H' v, Ext F ρ F' ρ' → WOk C F' ρ' w H' → Rep C F' ρ' d v → D.rt v H'
  | .exc e env w => ∀ F' ρ' H' σ' cl dd, Ext F ρ F' ρ' → WOk C F' ρ' w H' → EnvOk C F' ρ' env σ' → ExcRep C F' e cl dd → Wd cl dd σ' H'
  | .bad => False
theorem ResO.up {C : Cn} {Wd : WX} {F F1 : Hp} {ρ r1 : List Addr} {o : O} {D : Ends} (h : ResO C Wd F ρ o D) (e : Ext F ρ F1 r1) : ResO C Wd F1 r1 o D := by
  cases o with
  | next env w => exact fun F' ρ' H' σ' e' => h F' ρ' H' σ' (e.trans e')
  | brk env w => exact fun F' ρ' H' σ' e' => h F' ρ' H' σ' (e.trans e')
  | cnt env w => exact fun F' ρ' H' σ' e' => h F' ρ' H' σ' (e.trans e')
  | ret d w => exact fun F' ρ' H' σ' e' => h F' ρ' H' σ' (e.trans e')
  | exc x env w => exact fun F' ρ' H' σ' cl dd e' => h F' ρ' H' σ' cl dd (e.trans e')
  | bad => exact h
def TS' (C : Cn) (Wd : WX) (f : Env → W → O) : TS := fun D σ H => ∃ F ρ env w, WOk C F ρ w H ∧ EnvOk C F ρ env σ ∧ ResO C Wd F ρ (f env w) D
theorem TS'.eq {C : Cn} {Wd : WX} {f g : Env → W → O} {D : Ends} {σ : St} {H : Hp} (q : TS' C Wd f D σ H) (h : ∀ env w, f env w = g env w) : TS' C Wd g D σ H := by
  obtain rfl : f = g := by funext env w; exact h env w
  exact q
theorem ResO.to {α β : Type} {C : Cn} {RR : Hp → List Addr → α → β → Prop} {Wd : WX} {F : Hp} {ρ : List Addr} {r : R α} {env : Env} {g : α → W → O} {σ : St} {D : Ends} (en : EnvOk C F ρ env σ) (h : ResO C Wd F ρ (r.to env g) D) :
    Res C RR Wd F ρ r σ fun v H1 => ∃ F1 r1 a w1, Ext F ρ F1 r1 ∧ WOk C F1 r1 w1 H1 ∧ RR F1 r1 a v ∧ EnvOk C F1 r1 env σ ∧ ResO C Wd F1 r1 (g a w1) D := by
  cases r with
  | ok d w => exact fun F' ρ' H' v e k q => ⟨F', ρ', d, w, e, k, q, en.up e, ResO.up h e⟩
  | exc x w => exact fun F' ρ' H' cl dd e k q => h F' ρ' H' σ cl dd e k (en.up e) q
  | bad => exact h
theorem TS'.to {α β : Type} {C : Cn} {RR : Hp → List Addr → α → β → Prop} {Wd : WX} {f : Env → W → R α} {g : α → Env → W → O} {σ : St} {H : Hp} {D : Ends} (q : TS' C Wd (fun env w => (f env w).to env fun a w => g a env w) D σ H) :
    TG' C RR Wd f σ H fun v H1 => ∃ F ρ env w a, WOk C F ρ w H1 ∧ EnvOk C F ρ env σ ∧ RR F ρ a v ∧ ResO C Wd F ρ (g a env w) D := by
  obtain ⟨F, ρ, env, w, k, en, r⟩ := q
  refine ⟨F, ρ, env, w, k, en, (ResO.to (RR := RR) en r).mono ?_⟩
  rintro v H1 ⟨F1, r1, a, w1, e1, k1, ra, en1, q1⟩
  exact ⟨F1, r1, env, w1, a, k1, en1, ra, q1⟩
def nxO (Q : St → Hp → Prop) : Ends := { nx := Q, rt := fun _ _ => False }
def TGt (C : Cn) (Wd : WX) (f : D → Env → W → O) : TG := fun v σ H Q => ∃ F ρ env w d, WOk C F ρ w H ∧ EnvOk C F ρ env σ ∧ Rep C F ρ d v ∧ ResO C Wd F ρ (f d env w) (nxO Q)
theorem asg_next {G : Prog} {cl : CallT} {t : T} {d : D} {env : Env} {w : W} : (∃ env' w', asg G cl t d env w = .next env' w') ∨ (∃ e w', asg G cl t d env w = .exc e env w') ∨ asg G cl t d env w = .bad ∨ ∃ ts, t = .tup ts := by
  cases t with
  | loc i => simp only [asg]; by_cases h : i < env.length
             · rw [if_pos h]; exact .inl ⟨_, _, rfl⟩
             · rw [if_neg h]; exact .inr (.inr (.inl rfl))
  | tup ts => exact .inr (.inr (.inr ⟨ts, rfl⟩))
  | sub o i =>
    simp only [asg]
    cases ev G cl o env w with
    | bad => exact .inr (.inr (.inl rfl))
    | exc e w1 => exact .inr (.inl ⟨e, w1, rfl⟩)
    | ok x w1 =>
      simp only [R.to]
      cases ev G cl i env w1 with
      | bad => exact .inr (.inr (.inl rfl))
      | exc e w2 => exact .inr (.inl ⟨e, w2, rfl⟩)
      | ok y w2 =>
        simp only
        cases setSub w2 x y d with
        | none => exact .inr (.inr (.inl rfl))
        | some w3 => exact .inl ⟨_, _, rfl⟩
  | att o f =>
    simp only [asg]
    cases ev G cl o env w with
    | bad => exact .inr (.inr (.inl rfl))
    | exc e w1 => exact .inr (.inl ⟨e, w1, rfl⟩)
    | ok x w1 =>
      simp only [R.to]
      cases setAtt G w1 x f d with
      | none => exact .inr (.inr (.inl rfl))
      | some w3 => exact .inl ⟨_, _, rfl⟩
mutual
def isNames : T → Bool
  | .loc _ => true | .tup ts => isNamess ts | _ => false
def isNamess : Ts → Bool
  | .nil => true | .cons t r => isNames t && isNamess r
end
mutual
theorem asg_names {G : Prog} {cl : CallT} : ∀ {t : T} {d : D} {env : Env} {w : W}, isNames t = true → asg G cl t d env w = (match asgN t d env with | some env => .next env w | none => .bad)
  | .loc i, d, env, w, _ => by
    simp only [asg, asgN]
    by_cases h : i < env.length
    · rw [if_pos h, if_pos h]
    · rw [if_neg h, if_neg h]
  | .tup ts, d, env, w, h => by
    simp only [asg, asgN]
    cases unpack d with
    | none => rfl
    | some ds => exact asgs_names (by simpa [isNames] using h)
  | .sub _ _, _, _, _, h => by simp [isNames] at h
  | .att _ _, _, _, _, h => by simp [isNames] at h
theorem asgs_names {G : Prog} {cl : CallT} : ∀ {ts : Ts} {ds : List D} {env : Env} {w : W}, isNamess ts = true → asgs G cl ts ds env w = (match asgN.asgNs ts ds env with | some env => .next env w | none => .bad)
  | .nil, [], _, _, _ => by simp only [asgs, asgN.asgNs]
  | .nil, _ :: _, _, _, _ => by simp only [asgs, asgN.asgNs]
  | .cons _ _, [], _, _, _ => by simp only [asgs, asgN.asgNs]
  | .cons t r, d :: ds, env, w, h => by
    simp only [isNamess, Bool.and_eq_true] at h
    simp only [asgs, asgN.asgNs]
    rw [asg_names h.1]
    cases asgN t d env with
    | none => rfl
    | some env => exact asgs_names h.2
end
mutual
theorem names_of {c : Ck} : ∀ {t : T} {e : Expr}, chkTn c t e = true → isNames t = true
  | .loc i, e, _ => rfl
  | .tup ts, e, h => by
    simp only [chkTn] at h
    cases hv : vTup e with
    | none => rw [hv] at h; cases h
    | some es =>
      rw [hv] at h
      simp only [Bool.and_eq_true] at h
      exact namess_of h.2
  | .sub _ _, e, h => by simp [chkTn] at h
  | .att _ _, e, h => by simp [chkTn] at h
theorem namess_of {c : Ck} : ∀ {ts : Ts} {es : List Expr}, chkTns c ts es = true → isNamess ts = true
  | .nil, [], _ => rfl
  | .nil, _ :: _, h => by simp [chkTns] at h
  | .cons _ _, [], h => by simp [chkTns] at h
  | .cons t r, e :: es, h => by
    simp only [chkTns, Bool.and_eq_true] at h
    simp only [isNamess, Bool.and_eq_true]
    exact ⟨names_of h.1.2, namess_of h.2⟩
end
section
variable {T : Tb} {k : Nat} {c : Ck} {Wd : WX} {X : Cx}
theorem g_names {t : Sv.T} {tg : Expr} {cl : CallT} (hx : XOk T k c Wd X) (h : chkTn c t tg = true) : PG X tg (TGt T.C Wd (asg T.G cl t)) := by
  refine ⟨fun pins s σ H v u Q I r q => (pg_of hx h).run pins s σ H v u Q I r ?_⟩
  obtain ⟨F, ρ, env, w, d, k0, en, rd, q⟩ := q
  rw [asg_names (names_of h)] at q
  cases e : asgN t d env with
  | none => rw [e] at q; exact q.elim
  | some env2 =>
    rw [e] at q
    exact asgN_ok k0 en rd e fun σ' en' _ _ => q F ρ H σ' .refl k0 en'
theorem ixN_of {n : Nat} {i : Int} (h1 : 0 ≤ i) (h2 : i.toNat < n) : ixN n i = some i.toNat := by
  unfold ixN
  rw [if_pos h1, if_pos (by omega)]
theorem set_dict (hu : X.A.units + 1 < cLine) : PSet X (fun o i v H Q => ∃ a H4, o = .ref a ∧ DPut H a i v H4 ∧ Q H4) := by
  intro pins s σ H o i v ov iv u Q I ro ri rv h
  obtain ⟨a, H4, rfl, g, q⟩ := h
  obtain rfl : ov = Value.ref a := ro
  exact d_setItem hu I g ri rv fun s4 I4 => ⟨H4, I4, q⟩
theorem set_or {t t' : TSet} (h : PSet X t) (h' : PSet X t') : PSet X (fun o i v H Q => t o i v H Q ∨ t' o i v H Q) := by
  intro pins s σ H o i v ov iv u Q I ro ri rv q
  exact q.elim (fun q => h pins s σ H o i v ov iv u Q I ro ri rv q) fun q => h' pins s σ H o i v ov iv u Q I ro ri rv q
theorem g_sub {o i : Expr} {eo ei : E} {p : Pos} {cl : CallT} (hx : XOk T k c Wd X) (hs : isSlice i = false) (ho : PE X o (TE' T.C Wd (ev T.G cl eo))) (hi : PE X i (TE' T.C Wd (ev T.G cl ei))) : PG X (.Subscript o i p) (TGt T.C Wd (asg T.G cl (.sub eo ei))) := by
  have ha : ∀ v, assign (.Subscript o i p) X.env v = (do
      let ov ← holding [v] (eval o X.env)
      let iv ← holding [v, ov] (eval i X.env)
      standAt p
      holding [v, ov, iv] (setItem ov iv v)
      release [v, ov, iv] []) := by
    intro v
    cases i <;> first | rfl | (simp [isSlice] at hs)
  refine ⟨fun pins s σ H v u Q I r q => (pg_sub ho hi (set_or set_list (set_dict (by have := hx.units; omega))) ha).run pins s σ H v u Q I r ?_⟩
  obtain ⟨F, ρ, env, w, d, k0, en, rd, q⟩ := q
  simp only [asg] at q
  refine ⟨F, ρ, env, w, k0, en, (ResO.to (RR := Rep T.C) en q).mono ?_⟩
  rintro vo H1 ⟨F1, r1, x, w1, e1, k1, rx, en1, q⟩
  refine ⟨F1, r1, env, w1, k1, en1, (ResO.to (RR := Rep T.C) en1 q).mono ?_⟩
  rintro vi H2 ⟨F2, r2, y, w2, e2, k2, ry, en2, q⟩
  cases hs : setSub w2 x y d with
  | none => rw [hs] at q; exact q.elim
  | some w3 =>
    rw [hs] at q
    unfold setSub at hs
    split at hs
    · rename_i cc
      have rx2 := e2.rep rx
      cases rx2 with
      | cel hix =>
        split at hs
        · rename_i xs j hw
          split at hs
          · rename_i hc
            cases hs
            cases ry
            obtain ⟨_, oo, hoo, co⟩ := k2.cel _ _ _ hix hw (by intro z; cases z)
            cases co with
            | @lst _ vs rs =>
              have rv : Rep T.C F2 r2 d v := e2.rep (e1.rep rd)
              refine .inl ⟨_, vs, _, j.toNat, rfl, rfl, hoo, ?_, ?_⟩
              · rw [← rs.length]; exact ixN_of hc.1 hc.2.1
              · exact q F2 r2 _ σ .refl (k2.set hix hw (by intro z; cases z) (.lst (Reps.set (rv.noRef hc.2.2) _ rs))) en2
          · cases hs
        · rename_i acc hw
          split at hs
          · rename_i hc
            simp only [Bool.and_eq_true, decide_eq_true_eq] at hc
            cases hs
            obtain ⟨yk, hyk⟩ := keyA_key hc.1.1
            obtain ⟨_, oo, hoo, co⟩ := k2.cel _ _ _ hix hw (by intro z; cases z)
            cases co with
            | @dct _ accv rs =>
              have rv : Rep T.C F2 r2 d v := e2.rep (e1.rep rd)
              refine .inr ⟨_, _, rfl, (keyV ry hyk) ▸ DPut.k hoo (by rw [← rs.length]; exact Nat.lt_of_lt_of_le hc.2 (small16 (Nat.le_refl _))), ?_⟩
              exact q F2 r2 _ σ .refl (k2.set hix hw (by intro z; cases z) (.dct (RepK.putM hyk (rv.noRef hc.1.2) rs))) en2
          · cases hs
        · cases hs
    · cases hs
theorem RepF.put {C : Cn} {F : Hp} {ρ : List Addr} (hI : ∀ f g, C.nm f = C.nm g → f = g) {f : Nat} {d : D} {v : V} (rd : Rep C F ρ d v) : ∀ {fs : List (Nat × D)} {es : List (Str × V)}, RepF C F ρ fs es → RepF C F ρ (Sv.putF f d fs) (L2.putF (C.nm f) v es)
  | _, _, .nil => .cons rd .nil
  | _, _, .cons (f := g) r q => by
    unfold Sv.putF L2.putF
    by_cases e : g = f
    · subst e
      rw [if_pos rfl, if_pos rfl]; exact .cons rd q
    · rw [if_neg e, if_neg fun z => e (hI _ _ z)]; exact .cons r (RepF.put hI rd q)
theorem RepF.length {C : Cn} {F : Hp} {ρ : List Addr} : ∀ {fs : List (Nat × D)} {es : List (Str × V)}, RepF C F ρ fs es → fs.length = es.length
  | _, _, .nil => rfl
  | _, _, .cons _ q => congrArg Nat.succ q.length
theorem s_fld {o v : Expr} {f : Nat} {eo e : E} {p pos : Pos} {cl : CallT} (hx : XOk T k c Wd X) (tb : TbOk T k) (hf : f ∈ T.flds) (ho : PE X o (TE' T.C Wd (ev T.G cl eo))) (hv : PE X v (TE' T.C Wd (ev T.G cl e))) :
    PS X (.Assign [.Attribute o (T.C.nm f) p] v pos) (TS' T.C Wd (exec T.G cl (.asg (.att eo f) e))) := by
  refine PS.imp (ps_fld ho hv (by cases v <;> rfl)) fun D σ H q => ?_
  have q := TS'.eq (g := fun env w => (ev T.G cl e env w).to env fun d w => (fun d env w => asg T.G cl (.att eo f) d env w) d env w) q fun env w => by simp only [exec]
  refine TG'.thn (TS'.to (RR := Rep T.C) q) fun y H1 q => ?_
  obtain ⟨F, ρ, env, w, d, k0, en, rd, q⟩ := q
  simp only [asg] at q
  refine ⟨F, ρ, env, w, k0, en, (ResO.to (RR := Rep T.C) en q).mono ?_⟩
  rintro vo H2 ⟨F1, r1, x, w1, e1, k1, rx, en1, q⟩
  cases hs : setAtt T.G w1 x f d with
  | none => rw [hs] at q; exact q.elim
  | some w3 =>
    rw [hs] at q
    unfold setAtt at hs
    split at hs
    · rename_i cc
      cases rx with
      | cel hix =>
        split at hs
        · rename_i kk fs hw
          split at hs
          · rename_i qc hqc
            split at hs
            · rename_i hcd
              simp only [Bool.and_eq_true, decide_eq_true_eq, Option.isNone_iff_eq_none] at hcd
              cases hs
              obtain ⟨_, oo, hoo, co⟩ := k1.cel _ _ _ hix hw (by intro z; cases z)
              cases co with
              | @ins _ A dx _ es hA rf =>
                obtain ⟨A', hA', _, CO⟩ := tb.cls kk qc hqc
                rw [hA] at hA'; cases hA'
                have rv : Rep T.C F1 r1 d y := e1.rep rd
                refine ⟨_, A, dx, es, rfl, hoo, by rw [hx.K]; exact CO.cls, by rw [hx.K]; exact CO.noat f hf hcd.1.1.2 hcd.1.2, by rw [← rf.length]; exact hcd.2, ?_⟩
                exact q F1 r1 _ σ .refl (k1.set hix hw (by intro z; cases z) (.ins hA (rf.put tb.nmI (rv.noRef hcd.1.1.1)))) en1
            · cases hs
          · cases hs
        · cases hs
    · cases hs
theorem s_asg {t : Sv.T} {tg v : Expr} {e : E} {pos : Pos} {cl : CallT} (hg : PG X tg (TGt T.C Wd (asg T.G cl t))) (hv : PE X v (TE' T.C Wd (ev T.G cl e))) (hs : swapsWithSole [tg] v pos.line X.env = pure false) (hw : swappedStores [tg] v X.env = pure none) (hst : isStar tg = false)
    (hn : ∀ d env w, (∃ env' w', asg T.G cl t d env w = .next env' w') ∨ (∃ e w', asg T.G cl t d env w = .exc e env w') ∨ asg T.G cl t d env w = .bad) :
    PS X (.Assign [tg] v pos) (TS' T.C Wd (exec T.G cl (.asg t e))) := by
  refine PS.imp (ps_asg hv hg hs hw (by rw [asgE1 hst]; rfl)) fun D σ H q => ?_
  have q := TS'.eq (g := fun env w => (ev T.G cl e env w).to env fun d w => (fun d env w => asg T.G cl t d env w) d env w) q fun env w => by simp only [exec]
  refine TG'.thn (TS'.to (RR := Rep T.C) q) fun y H1 q => ?_
  obtain ⟨F, ρ, env, w, d, k0, en, rd, q⟩ := q
  refine ⟨F, ρ, env, w, d, k0, en, rd, ?_⟩
  rcases hn d env w with ⟨env', w', h⟩ | ⟨e', w', h⟩ | h
  · rw [h] at q ⊢; exact q
  · rw [h] at q ⊢; exact q
  · rw [h] at q; exact q.elim
end
def TGts (C : Cn) (Wd : WX) (f : List D → Env → W → O) : TGs := fun vs σ H Q => ∃ F ρ env w ds, WOk C F ρ w H ∧ EnvOk C F ρ env σ ∧ Reps C F ρ ds vs ∧ ResO C Wd F ρ (f ds env w) (nxO Q)
def isLocE : E → Option Nat | .loc i => some i | _ => none
def isIntE : E → Option Int | .int i => some i | _ => none
theorem isLocE_eq {e : E} {i : Nat} (h : isLocE e = some i) : e = .loc i := by
  unfold isLocE at h
  split at h
  · cases h; rfl
  · cases h
theorem isIntE_eq {e : E} {i : Int} (h : isIntE e = some i) : e = .int i := by
  unfold isIntE at h
  split at h
  · cases h; rfl
  · cases h
mutual
def quietT : T → Bool
  | .loc _ => true | .sub o i => (isLocE o).isSome && (isIntE i).isSome | .tup ts => quietTs ts | .att _ _ => false
def quietTs : Ts → Bool
  | .nil => true | .cons t r => quietT t && quietTs r
end
mutual
theorem quiet_next {G : Prog} {cl : CallT} : ∀ {t : T} {d : D} {env : Env} {w : W}, quietT t = true → (∃ env' w', asg G cl t d env w = .next env' w') ∨ asg G cl t d env w = .bad
  | .loc i, d, env, w, _ => by
    simp only [asg]
    split
    · exact .inl ⟨_, _, rfl⟩
    · exact .inr rfl
  | .sub o i, d, env, w, h => by
    simp only [quietT, Bool.and_eq_true, Option.isSome_iff_exists] at h
    obtain ⟨⟨i, h1⟩, ⟨j, h2⟩⟩ := h
    rw [isLocE_eq h1, isIntE_eq h2]
    simp only [asg, ev]
    cases locF env i with
    | none => exact .inr rfl
    | some x =>
      simp only [R.lift, R.to]
      cases setSub w x (.int j) d with
      | none => exact .inr rfl
      | some w' => exact .inl ⟨_, _, rfl⟩
  | .tup ts, d, env, w, h => by
    simp only [asg]
    cases unpack d with
    | none => exact .inr rfl
    | some ds => exact quiet_nexts (by simpa [quietT] using h)
  | .att _ _, d, env, w, h => by simp [quietT] at h
theorem quiet_nexts {G : Prog} {cl : CallT} : ∀ {ts : Ts} {ds : List D} {env : Env} {w : W}, quietTs ts = true → (∃ env' w', asgs G cl ts ds env w = .next env' w') ∨ asgs G cl ts ds env w = .bad
  | .nil, [], env, w, _ => by simp only [asgs]; exact .inl ⟨_, _, rfl⟩
  | .nil, _ :: _, env, w, _ => .inr (by simp only [asgs])
  | .cons _ _, [], env, w, _ => .inr (by simp only [asgs])
  | .cons t r, d :: ds, env, w, h => by
    simp only [quietTs, Bool.and_eq_true] at h
    simp only [asgs]
    rcases quiet_next (G := G) (cl := cl) (d := d) (env := env) (w := w) h.1 with ⟨e, w', q⟩ | q
    · rw [q]; exact quiet_nexts h.2
    · rw [q]; exact .inr rfl
end
theorem asgs_len {G : Prog} {cl : CallT} : ∀ {ts : Ts} {ds : List D} {env : Env} {w : W}, asgs G cl ts ds env w ≠ .bad → (quietTs ts = true) → ds.length = ts.len
  | .nil, [], _, _, _, _ => rfl
  | .nil, _ :: _, env, w, h, _ => absurd (by simp only [asgs]) h
  | .cons _ _, [], env, w, h, _ => absurd (by simp only [asgs]) h
  | .cons t r, d :: ds, env, w, h, hq => by
    simp only [quietTs, Bool.and_eq_true] at hq
    simp only [asgs] at h
    rcases quiet_next (G := G) (cl := cl) (d := d) (env := env) (w := w) hq.1 with ⟨e, w', q⟩ | q
    · rw [q] at h
      rw [List.length_cons, asgs_len (ts := r) h hq.2]; rfl
    · rw [q] at h; exact absurd rfl h
section
variable {T : Tb} {k : Nat} {c : Ck} {Wd : WX} {X : Cx}
theorem gs_nil {cl : CallT} : PGs X [] (TGts T.C Wd (asgs T.G cl .nil)) := by
  refine ⟨fun pins s σ H vs us Q I r q => pgs_nil.run pins s σ H vs us Q I r ?_⟩
  obtain ⟨F, ρ, env, w, ds, k0, en, rs, q⟩ := q
  cases rs with
  | nil => simp only [asgs] at q; exact ⟨rfl, q F ρ H σ .refl k0 en⟩
  | cons _ _ => simp only [asgs] at q; exact q.elim
theorem gs_cons {e : Expr} {es : List Expr} {t : Sv.T} {ts : Ts} {cl : CallT} (hs : isStar e = false) (hq : quietT t = true) (h1 : PG X e (TGt T.C Wd (asg T.G cl t))) (h2 : PGs X es (TGts T.C Wd (asgs T.G cl ts))) : PGs X (e :: es) (TGts T.C Wd (asgs T.G cl (.cons t ts))) := by
  refine ⟨fun pins s σ H vs us Q I r q => (pgs_cons h1 h2 (by rw [asgE1 hs]; rfl)).run pins s σ H vs us Q I r ?_⟩
  obtain ⟨F, ρ, env, w, ds, k0, en, rs, q⟩ := q
  cases rs with
  | nil => simp only [asgs] at q; exact q.elim
  | @cons d v ds vs rd rs =>
    refine ⟨_, _, rfl, F, ρ, env, w, d, k0, en, rd, ?_⟩
    simp only [asgs] at q
    rcases quiet_next (G := T.G) (cl := cl) (d := d) (env := env) (w := w) hq with ⟨e', w', h⟩ | h
    · rw [h] at q ⊢
      intro F' ρ' H' σ' ex k1 en1
      exact ⟨F', ρ', e', w', ds, k1, en1, ex.reps rs, ResO.up q ex⟩
    · rw [h] at q; exact q.elim
theorem g_tup {es : List Expr} {ts : Ts} {kk : Nat} {p : Pos} {cl : CallT} (hx : XOk T k c Wd X) (hcalm : c.calm = true) (hq : quietTs ts = true) (h : PGs X es (TGts T.C Wd (asgs T.G cl ts))) (hn : (assignEach es X.env).length = ts.len) (hst : (assignEach es X.env).findIdx? (·.1) = none) :
    PG X (.Tuple es kk p) (TGt T.C Wd (asg T.G cl (.tup ts))) := by
  refine ⟨fun pins s σ H v u Q I r q => (pg_seq (hx.calm.trans hcalm) h hn hst).run pins s σ H v u Q I r ?_⟩
  obtain ⟨F, ρ, env, w, d, k0, en, rd, q⟩ := q
  simp only [asg] at q
  rw [hx.K]
  cases d with
  | tup xs =>
    simp only [unpack] at q
    have hl : xs.length = ts.len := asgs_len (fun z => by rw [z] at q; exact q.elim) hq
    cases rd with
    | tup hf rs => exact .inl ⟨_, _, rfl, k0.sqT hf, by rw [← rs.length]; exact hl, F, ρ, env, w, xs, k0, en, rs, q⟩
  | lst xs =>
    simp only [unpack] at q
    have hl : xs.length = ts.len := asgs_len (fun z => by rw [z] at q; exact q.elim) hq
    cases rd with
    | lst hf rs => exact .inr ⟨_, _, rfl, SqL.of (k0.frz _ _ hf), by rw [← rs.length]; exact hl, F, ρ, env, w, xs, k0, en, rs, q⟩
  | _ => simp only [unpack] at q; exact q.elim
end
section
variable {T : Tb} {k : Nat} {c : Ck} {Wd : WX} {X : Cx}
theorem s_par {i j : Nat} {x y : Str} {a b : Expr} {px py pt pt2 pos : Pos} {kt k2 : Nat} {es : Es} {cl : CallT} (hx : XOk T k c Wd X) (hcalm : c.calm = true) (hi : c.N[i]? = some x) (hj : c.N[j]? = some y) (hij : i ≠ j) (hlx : c.S.names.lookup x = some .local) (hly : c.S.names.lookup y = some .local)
    (ha : PA X [a, b] (TA' T.C Wd (evs T.G cl es))) (hl : es.len = 2) (hw : swappedStores [.Tuple [.Name x px, .Name y py] kt pt] (.Tuple [a, b] k2 pt2) X.env = pure (some [x, y])) :
    PS X (.Assign [.Tuple [.Name x px, .Name y py] kt pt] (.Tuple [a, b] k2 pt2) pos) (TS' T.C Wd (exec T.G cl (.asg (.tup (.cons (.loc i) (.cons (.loc j) .nil))) (.tup es)))) := by
  refine PS.imp (ps_par (i := i) (j := j) (hx.calm.trans hcalm) (by rw [hx.nms]; exact hx.nd) (by rw [hx.nms]; exact hi) (by rw [hx.nms]; exact hj) hij (by rw [hx.sc]; exact hlx) (by rw [hx.sc]; exact hly) ha hw rfl) fun D σ H q => ?_
  obtain ⟨F, ρ, env, w, k0, en, q⟩ := q
  simp only [exec, ev] at q
  refine ⟨F, ρ, env, w, k0, en, ?_⟩
  cases e : evs T.G cl es env w with
  | bad => rw [e] at q; exact q.elim
  | exc z w1 =>
    rw [e] at q
    exact fun F' ρ' H' cl dd e' k' q' => q F' ρ' H' σ cl dd e' k' (en.up e') q'
  | ok ds w1 =>
    rw [e] at q
    intro F' ρ' H' vs ex k' rs
    have hl2 : ds.length = 2 := by rw [evs_len e]; exact hl
    match ds, hl2, rs with
    | [d1, d2], _, .cons r1 (.cons r2 .nil) =>
      refine ⟨_, _, rfl, ?_⟩
      simp only [R.bind, R.to, asg, unpack, asgs] at q
      by_cases h1 : i < env.length
      · rw [if_pos h1] at q
        simp only [O.seq] at q
        by_cases h2 : j < (env.set i (some d1)).length
        · rw [if_pos h2] at q
          exact q F' ρ' H' _ ex k' (((en.up ex).set r1).set r2)
        · rw [if_neg h2] at q; exact q.elim
      · rw [if_neg h1] at q; exact q.elim
end
end Sv

set_option Elab.async false
set_option linter.all false
set_option maxRecDepth 100000
set_option maxHeartbeats 8000000
namespace Sv
open PySem L2
section
variable {T : Tb} {k : Nat} {c : Ck} {Wd : WX} {X : Cx}
theorem s_bad {st : Stmt} {cl : CallT} : PS X st (TS' T.C Wd (exec T.G cl .bad)) := ⟨fun _ _ _ _ _ _ q => by
  obtain ⟨F, ρ, env, w, k0, en, r⟩ := q
  exact r.elim⟩
theorem s_ret {a : Expr} {e : E} {p : Pos} {cl : CallT} (ha : PE X a (TE' T.C Wd (ev T.G cl e))) : PS X (.Return (some a) p) (TS' T.C Wd (exec T.G cl (.ret e))) := by
  refine PS.imp (ps_ret ha) fun D σ H q => ?_
  have q := TS'.eq (g := fun env w => (ev T.G cl e env w).to env fun d w => (fun d env w => O.ret d w) d env w) q fun env w => by simp only [exec]
  refine TG'.thn (TS'.to (RR := Rep T.C) q) fun y H1 q => ?_
  obtain ⟨F, ρ, env, w, d, k0, en, rd, q⟩ := q
  exact q F ρ H1 y .refl k0 rd
theorem s_retn {p : Pos} {cl : CallT} : PS X (.Return none p) (TS' T.C Wd (exec T.G cl .retn)) := by
  refine PS.imp ps_retN fun D σ H q => ?_
  obtain ⟨F, ρ, env, w, k0, en, q⟩ := q
  simp only [exec] at q
  exact q F ρ H _ .refl k0 .non
theorem s_expr {a : Expr} {e : E} {p : Pos} {cl : CallT} (hc : isComp a = false) (ha : PE X a (TE' T.C Wd (ev T.G cl e))) : PS X (.Expr a p) (TS' T.C Wd (exec T.G cl (.expr e))) := by
  refine PS.imp (ps_expr ha (sw_none hc)) fun D σ H q => ?_
  have q := TS'.eq (g := fun env w => (ev T.G cl e env w).to env fun d w => (fun d env w => O.next env w) d env w) q fun env w => by simp only [exec]
  refine TG'.thn (TS'.to (RR := Rep T.C) q) fun y H1 q => ?_
  obtain ⟨F, ρ, env, w, d, k0, en, rd, q⟩ := q
  exact q F ρ H1 σ .refl k0 en
theorem s_pass {p : Pos} {cl : CallT} : PS X (.Pass p) (TS' T.C Wd (exec T.G cl .pass)) := by
  refine PS.imp ps_pass fun D σ H q => ?_
  obtain ⟨F, ρ, env, w, k0, en, q⟩ := q
  simp only [exec] at q
  exact q F ρ H σ .refl k0 en
theorem s_brk {p : Pos} {cl : CallT} : PS X (.Break p) (TS' T.C Wd (exec T.G cl .brk)) := by
  refine PS.imp ps_break fun D σ H q => ?_
  obtain ⟨F, ρ, env, w, k0, en, q⟩ := q
  simp only [exec] at q
  exact q F ρ H σ .refl k0 en
theorem s_cnt {p : Pos} {cl : CallT} : PS X (.Continue p) (TS' T.C Wd (exec T.G cl .cnt)) := by
  refine PS.imp ps_continue fun D σ H q => ?_
  obtain ⟨F, ρ, env, w, k0, en, q⟩ := q
  simp only [exec] at q
  exact q F ρ H σ .refl k0 en
theorem s_if {t : Expr} {a b : List Stmt} {et : E} {ea eb : Ss} {p : Pos} {cl : CallT} (ht : PT X t (TT' T.C Wd (evT T.G cl et))) (ha : PSs X a (TS' T.C Wd (execs T.G cl ea))) (hb : PSs X b (TS' T.C Wd (execs T.G cl eb))) :
    PS X (.If t a b p) (TS' T.C Wd (exec T.G cl (.ite et ea eb))) := by
  refine PS.imp (ps_if ht ha hb) fun D σ H q => ?_
  have q := TS'.eq (g := fun env w => (evT T.G cl et env w).to env fun d w => (fun d env w => if d = true then execs T.G cl ea env w else execs T.G cl eb env w) d env w) q fun env w => by simp only [exec]
  refine TG'.thn (TS'.to (RR := fun _ _ a b => a = b) q) fun y H1 q => ?_
  obtain ⟨F, ρ, env, w, d, k0, en, rfl, q⟩ := q
  cases d with
  | true => exact ⟨F, ρ, env, w, k0, en, q⟩
  | false => exact ⟨F, ρ, env, w, k0, en, q⟩
theorem ss_nil {cl : CallT} : PSs X [] (TS' T.C Wd (execs T.G cl .nil)) := by
  refine PSs.imp pss_nil fun D σ H q => ?_
  obtain ⟨F, ρ, env, w, k0, en, q⟩ := q
  simp only [execs] at q
  exact q F ρ H σ .refl k0 en
theorem seq_aux {s : S} {r : Ss} {cl : CallT} {D : Ends} {σ : St} {H : Hp} (q : TS' T.C Wd (execs T.G cl (.cons s r)) D σ H) : TS' T.C Wd (exec T.G cl s) { D with nx := TS' T.C Wd (execs T.G cl r) D } σ H := by
  obtain ⟨F, ρ, env, w, k0, en, q⟩ := q
  simp only [execs] at q
  refine ⟨F, ρ, env, w, k0, en, ?_⟩
  cases e : exec T.G cl s env w with
  | next env' w' => rw [e] at q; exact fun F' ρ' H' σ' ex k' en' => ⟨F', ρ', env', w', k', en', ResO.up q ex⟩
  | brk env' w' => rw [e] at q; exact q
  | cnt env' w' => rw [e] at q; exact q
  | ret d w' => rw [e] at q; exact q
  | exc x env' w' => rw [e] at q; exact q
  | bad => rw [e] at q; exact q
theorem ss_cons {st : Stmt} {rest : List Stmt} {s : S} {r : Ss} {cl : CallT} (h1 : PS X st (TS' T.C Wd (exec T.G cl s))) (h2 : PSs X rest (TS' T.C Wd (execs T.G cl r))) : PSs X (st :: rest) (TS' T.C Wd (execs T.G cl (.cons s r))) :=
  PSs.imp (pss_cons h1 h2) fun D σ H q => seq_aux q
theorem pss_ghost {l : List Stmt} {t t' : TS} (h : PSs X l t) (hk : ∀ D σ H, t' D σ H → t D σ H ∨ ∃ d u, H d = some u ∧ Mut (some u) ∧ ∀ od, t D σ (upd H d (.frz od u))) : PSs X l t' := by
  refine ⟨fun pins s σ H D I q => ?_⟩
  rcases hk D σ H q with q | ⟨d, u, hd, mu, q⟩
  · exact h.run pins s σ H D I q
  · obtain ⟨od, I1⟩ := I.lock hd mu
    exact h.run pins s σ _ D I1 (q od)
theorem ss_seal {i : Nat} {rest : List Stmt} {r : Ss} {cl : CallT} (h2 : PSs X rest (TS' T.C Wd (execs T.G cl r))) : PSs X rest (TS' T.C Wd (execs T.G cl (.cons (.cls i) r))) := by
  refine pss_ghost h2 fun D σ H q => ?_
  obtain ⟨F, ρ, env, w, k0, en, q⟩ := q
  simp only [execs, exec] at q
  unfold sealF at q
  cases hl : locF env i with
  | none => rw [hl] at q; exact q.elim
  | some d =>
    rw [hl] at q
    have e2 : env[i]? = some (some d) := by
      unfold locF at hl
      split at hl
      · rename_i d' h; rw [h]; cases hl; rfl
      · cases hl
    obtain ⟨v, h1, h2⟩ := en.at_ i d e2
    have hσ : σ.set i (some v) = σ := by
      apply List.ext_getElem?
      intro j
      by_cases hj : j = i
      · subst hj
        rw [List.getElem?_set_self (List.getElem?_eq_some_iff.mp h1).1, h1]
      · rw [List.getElem?_set_ne (Ne.symm hj)]
    cases d with
    | cel cc =>
      cases h2 with
      | cel hix =>
        simp only at q
        cases hw : w[cc]? with
        | none => rw [hw] at q; exact q.elim
        | some ce =>
          rw [hw] at q
          cases ce with
          | lst xs =>
            obtain ⟨o, ho, qo, fa, k2, ex⟩ := k0.seal hix hw (by intro z; cases z)
            cases qo with
            | lst rs =>
              have rd : Rep T.C (upd F _ _) ρ (.lst xs) (.ref _) := .lst upd_same (rs.up ex.f (fun i a z => by simp at z))
              exact .inl ⟨_, ρ, _, _, k2, hσ ▸ (en.up ex).set rd, ResO.up q ex⟩
          | dct xs =>
            obtain ⟨es, ho, rs, fa, k2⟩ := k0.sealD hix hw
            refine .inr ⟨_, _, ho, trivial, fun od => ?_⟩
            obtain ⟨k2, ex⟩ := k2 od
            have rd : Rep T.C (upd F _ _) ρ (.dct xs) (.ref _) := .dct upd_same (rs.up ex.f (fun i a z => by simp at z))
            exact ⟨_, ρ, _, _, k2, hσ ▸ (en.up ex).set rd, ResO.up q ex⟩
          | _ => exact q.elim
    | _ => exact q.elim
theorem for_of {C : Cn} {G : Prog} {cl : CallT} {t : Sv.T} {it : Sv.It} {b : Ss} {σ : St} {H : Hp} {D : Ends} (q : TS' C Wd (exec G cl (.for t it b)) D σ H) : tFor (TI' C Wd (evI G cl it)) (tgS C.K t) (TS' C Wd (execs G cl b)) D σ H := by
  have q := TS'.eq (g := fun env w => (evI G cl it env w).to env fun d w => (fun xs env w => loopF (fun d env w => (asgN t d env).elim .bad fun env => execs G cl b env w) xs env w) d env w) q fun env w => by simp only [exec]
  refine TG'.thn (TS'.to (RR := fun F ρ xs J => Wk C F ρ J xs) q) fun J H1 q => ?_
  obtain ⟨F1, r1, env1, w1, xs, k1, en1, wk, q⟩ := q
  generalize hf : (fun (d : Sv.D) (env : Env) (w : W) => (asgN t d env).elim O.bad fun env => execs G cl b env w) = f at q
  refine ⟨fun i m σ H => m = xs.length - i ∧ i ≤ xs.length ∧ ∃ F2 r2 env2 w2, Ext F1 r1 F2 r2 ∧ WOk C F2 r2 w2 H ∧ EnvOk C F2 r2 env2 σ ∧ ResO C Wd F2 r2 (loopF f (xs.drop i) env2 w2) D,
    ⟨xs.length, rfl, Nat.zero_le _, F1, r1, env1, w1, .refl, k1, en1, by rw [List.drop_zero]; exact q⟩, ?_⟩
  rintro i m σ H ⟨rfl, hi, F2, r2, env2, w2, e2, k2, en2, r⟩
  by_cases hlt : i < xs.length
  · right
    refine ⟨wk.go i H (fun a o z => k2.frz a o (e2.f a o z)) hlt, fun σ' H' => ∃ F2 r2 env2 w2, Ext F1 r1 F2 r2 ∧ WOk C F2 r2 w2 H' ∧ EnvOk C F2 r2 env2 σ' ∧ ResO C Wd F2 r2 (loopF f (xs.drop (i + 1)) env2 w2) D, fun σ' H' hN => ⟨_, by omega, rfl, hlt, hN⟩, fun x H' hy => ?_⟩
    obtain ⟨d, hd, hdr⟩ := drop_cons hlt
    rw [hdr] at r
    simp only [loopF] at r
    obtain ⟨F3, k3, e3, rd⟩ := wk.yld i H F2 r2 w2 x H' d k2 e2 hd hy
    cases ha : asgN t d env2 with
    | none =>
      have : f d env2 w2 = .bad := by rw [← hf]; simp only [ha, Option.elim]
      rw [this] at r; exact r.elim
    | some env3 =>
      have hfd : f d env2 w2 = execs G cl b env3 w2 := by rw [← hf]; simp only [ha, Option.elim]
      rw [hfd] at r
      refine asgN_ok k3 (en2.up e3) rd ha fun σ2 en3 _ _ => ⟨F3, r2, env3, w2, k3, en3, ?_⟩
      cases e : execs G cl b env3 w2 with
      | next env' w' => rw [e] at r; exact fun F' ρ' H' σ' ex k' en' => ⟨F', ρ', env', w', e2.trans (e3.trans ex), k', en', ResO.up r (e3.trans ex)⟩
      | cnt env' w' => rw [e] at r; exact fun F' ρ' H' σ' ex k' en' => ⟨F', ρ', env', w', e2.trans (e3.trans ex), k', en', ResO.up r (e3.trans ex)⟩
      | brk env' w' => rw [e] at r; exact fun F' ρ' H' σ' ex k' en' => r F' ρ' H' σ' (e3.trans ex) k' en'
      | ret d w' => rw [e] at r; exact fun F' ρ' H' σ' ex k' en' => r F' ρ' H' σ' (e3.trans ex) k' en'
      | exc x env' w' => rw [e] at r; exact fun F' ρ' H' σ' cl dd ex k' en' z => r F' ρ' H' σ' cl dd (e3.trans ex) k' en' z
      | bad => rw [e] at r; exact r.elim
  · left
    have hie : i = xs.length := by omega
    subst hie
    rw [List.drop_length] at r
    exact ⟨wk.stop _ H (fun a o z => k2.frz a o (e2.f a o z)) (Nat.le_refl _), r F2 r2 H σ .refl k2 en2⟩
theorem s_for {tg iter : Expr} {body : List Stmt} {t : Sv.T} {it : Sv.It} {b : Ss} {p : Pos} {cl : CallT} (hx : XOk T k c Wd X) (hcalm : c.calm = true) (hset : isSet iter = false) (hg : chkTn c t tg = true) (hi : PI X tg iter (TI' T.C Wd (evI T.G cl it))) (hb : PSs X body (TS' T.C Wd (execs T.G cl b))) :
    PS X (.For tg iter body [] p) (TS' T.C Wd (exec T.G cl (.for t it b))) :=
  PS.imp (ps_for hx.po (hx.calm.trans hcalm) hi (pg_of hx hg) hb (by intro x; cases iter <;> first | rfl | (simp [isSet] at hset))) fun D σ H q => for_of q
theorem XOk.nox (hx : XOk T k c Wd X) : XOk T k c never X.nox :=
  ⟨hx.prog, hx.w, hx.K, hx.mg, hx.base, hx.nms, hx.nd, hx.sc, hx.fn, hx.calm, hx.room, hx.gd, takes_none5, PassesOwn.never⟩
theorem s_try {body : List Stmt} {h0 : ExceptHandler} {hs : List ExceptHandler} {b : Ss} {es : Hs} {p : Pos} {cl : CallT} (hb : PSs X.nox body (TS' T.C never (execs T.G cl b))) : PS X (.Try body (h0 :: hs) [] [] p) (TS' T.C Wd (exec T.G cl (.try b es))) := by
  refine PS.imp (ps_try_thru0 hb) fun D σ H q => ?_
  obtain ⟨F, ρ, env, w, k0, en, q⟩ := q
  simp only [exec] at q
  refine ⟨F, ρ, env, w, k0, en, ?_⟩
  cases e : execs T.G cl b env w with
  | next env' w' => rw [e] at q; exact q
  | brk env' w' => rw [e] at q; exact q
  | cnt env' w' => rw [e] at q; exact q
  | ret d w' => rw [e] at q; exact q
  | exc x env' w' => rw [e] at q; exact q.elim
  | bad => rw [e] at q; exact q
end
def noPair (tg v : Expr) : Bool := match tg with
  | .Tuple _ _ _ => (match v with | .Tuple _ _ _ => false | _ => true)
  | .List _ _ => (match v with | .Tuple _ _ _ => false | _ => true)
  | _ => true
theorem noPair_ok {tg v : Expr} {env : PySem.Env} (h : noPair tg v = true) : swappedStores [tg] v env = pure none := by
  cases tg <;> first | rfl | skip
  · cases v <;> first | rfl | (simp [noPair] at h)
  · cases v <;> first | rfl | (simp [noPair] at h)
def swP (S : Scope) (x : Str) (px : Pos) (y : Str) (py : Pos) (a b : Expr) : Bool :=
  (match S.kind with | .function => true | _ => false) && !isStar a && !isStar b && decide (S.names.lookup x = some .local) && decide (S.names.lookup y = some .local) && (py.line == px.line) && decide (x ≠ y) && !([a, b].all (foldedForSure 8)) && !([a, b].all (constantsAlone 8))
theorem swP_ok {S : Scope} {x y : Str} {px py pt pt2 : Pos} {kt k2 : Nat} {a b : Expr} {env : PySem.Env} (hs : env.scope = S) (h : swP S x px y py a b = true) : swappedStores [.Tuple [.Name x px, .Name y py] kt pt] (.Tuple [a, b] k2 pt2) env = pure (some [x, y]) := by
  subst hs
  unfold swP at h
  simp only [Bool.and_eq_true, decide_eq_true_eq, Bool.not_eq_true', beq_iff_eq] at h
  obtain ⟨⟨⟨⟨⟨⟨⟨⟨hk, ha⟩, hb⟩, hx⟩, hy⟩, hl⟩, hne⟩, hf⟩, hc⟩ := h
  have hk2 : env.blockKind = .function := by
    unfold Env.blockKind
    cases e : env.scope.kind <;> rw [e] at hk <;> first | rfl | cases hk
  have kx : env.kindOf x = some .local := hx
  have ky : env.kindOf y = some .local := hy
  have hyx : (y == x) = false := by simpa using fun z => hne z.symm
  unfold swappedStores
  simp only [List.length_cons, List.length_nil, hk2, List.head?_cons, Option.map_some, Option.getD_some, Expr.pos]
  rw [if_neg (by decide)]
  rw [if_neg (by cases a <;> first | (simp [isStar] at ha; done) | (cases b <;> first | (intro z; cases z; done) | (simp [isStar] at hb)))]
  have hd : (List.eraseDups [x, y]).length = 2 := by simp [List.eraseDups_cons, hyx]
  rw [if_neg (show ¬ ([a, b].all (foldedForSure 8) = true) by rw [hf]; decide), if_neg (show ¬ ([a, b].all (constantsAlone 8) = true) by rw [hc]; decide)]
  simp [kx, ky, hl, hd]
end Sv

set_option Elab.async false
set_option linter.all false
set_option maxRecDepth 100000
set_option maxHeartbeats 8000000
namespace Sv
open PySem L2
def swN (S : Scope) (x y : Str) : Bool := !(S.names.lookup x == some .local) || !(S.names.lookup y == some .local)
theorem swN_ok {S : Scope} {x y : Str} {px py pt pt2 : Pos} {kt k2 : Nat} {a b : Expr} {env : PySem.Env} (hs : env.scope = S) (h : swN S x y = true) : swappedStores [.Tuple [.Name x px, .Name y py] kt pt] (.Tuple [a, b] k2 pt2) env = pure none := by
  subst hs
  unfold swN at h
  simp only [Bool.or_eq_true, Bool.not_eq_true'] at h
  unfold swappedStores
  simp only [List.length_cons, List.length_nil, List.head?_cons, Option.map_some, Option.getD_some, Expr.pos]
  split
  · rfl
  · split
    · rfl
    · have : ([Expr.Name x px, Expr.Name y py].filterMap fun
        | .Name id pos => if env.kindOf id == some .local && pos.line == px.line then some id else none
        | _ => none).length ≠ 2 := by
        have kx : env.kindOf x = env.scope.names.lookup x := rfl
        have ky : env.kindOf y = env.scope.names.lookup y := rfl
        simp only [List.filterMap_cons, List.filterMap_nil]
        rcases h with h | h
        · rw [kx, h]
          simp only [Bool.false_and, Bool.false_eq_true, if_false]
          split <;> simp
        · rw [ky, h]
          simp only [Bool.false_and, Bool.false_eq_true, if_false]
          split <;> simp
      refine if_pos ?_
      simp only [Bool.or_eq_true, bne_iff_ne, ne_eq]
      exact .inl this
theorem sole_none {v t : Expr} {l : Nat} {env : PySem.Env} (h : isComp v = false) : swapsWithSole [t] v l env = pure false := sw_none (t := some t) h
def vAssign : Stmt → Option (Expr × Expr × Pos) | .Assign [t] v p => some (t, v, p) | _ => none
theorem vAssign_eq {s : Stmt} {t v : Expr} {p : Pos} (h : vAssign s = some (t, v, p)) : s = .Assign [t] v p := by
  unfold vAssign at h
  split at h
  · cases h; rfl
  · cases h
def vExprS : Stmt → Option Expr | .Expr e _ => some e | _ => none
theorem vExprS_eq {s : Stmt} {e : Expr} (h : vExprS s = some e) : ∃ p, s = .Expr e p := by cases s <;> simp [vExprS] at h; subst h; exact ⟨_, rfl⟩
def vRetS : Stmt → Option (Option Expr) | .Return e _ => some e | _ => none
theorem vRetS_eq {s : Stmt} {e : Option Expr} (h : vRetS s = some e) : ∃ p, s = .Return e p := by cases s <;> simp [vRetS] at h; subst h; exact ⟨_, rfl⟩
def vAugS : Stmt → Option (Str × Operator × Expr) | .AugAssign (.Name x _) o e _ => some (x, o, e) | _ => none
theorem vAugS_eq {s : Stmt} {x : Str} {o : Operator} {e : Expr} (h : vAugS s = some (x, o, e)) : ∃ p1 p2, s = .AugAssign (.Name x p1) o e p2 := by
  unfold vAugS at h
  split at h
  · cases h; exact ⟨_, _, rfl⟩
  · cases h
def isAS : BOp → Bool | .add => true | .sub => true | _ => false
theorem isAS_or {o : BOp} (h : isAS o = true) : o = .add ∨ o = .sub := by cases o <;> first | exact .inl rfl | exact .inr rfl | cases h
def vIfS : Stmt → Option (Expr × List Stmt × List Stmt) | .If c a b _ => some (c, a, b) | _ => none
theorem vIfS_eq {s : Stmt} {c : Expr} {a b : List Stmt} (h : vIfS s = some (c, a, b)) : ∃ p, s = .If c a b p := by cases s <;> simp [vIfS] at h; obtain ⟨rfl, rfl, rfl⟩ := h; exact ⟨_, rfl⟩
def vForS : Stmt → Option (Expr × Expr × List Stmt × List Stmt) | .For t i b e _ => some (t, i, b, e) | _ => none
theorem vForS_eq {s : Stmt} {t i : Expr} {b e : List Stmt} (h : vForS s = some (t, i, b, e)) : ∃ p, s = .For t i b e p := by cases s <;> simp [vForS] at h; obtain ⟨rfl, rfl, rfl, rfl⟩ := h; exact ⟨_, rfl⟩
def vTryS : Stmt → Option (List Stmt × List ExceptHandler × List Stmt × List Stmt) | .Try b h e f _ => some (b, h, e, f) | _ => none
theorem vTryS_eq {s : Stmt} {b e f : List Stmt} {h' : List ExceptHandler} (h : vTryS s = some (b, h', e, f)) : ∃ p, s = .Try b h' e f p := by cases s <;> simp [vTryS] at h; obtain ⟨rfl, rfl, rfl, rfl⟩ := h; exact ⟨_, rfl⟩
def isPass : Stmt → Bool | .Pass _ => true | _ => false
def isBrk : Stmt → Bool | .Break _ => true | _ => false
def isCnt : Stmt → Bool | .Continue _ => true | _ => false
def vNameP : Expr → Option (Str × Pos) | .Name x p => some (x, p) | _ => none
theorem vNameP_eq {e : Expr} {x : Str} {p : Pos} (h : vNameP e = some (x, p)) : e = .Name x p := by cases e <;> simp [vNameP] at h; obtain ⟨rfl, rfl⟩ := h; rfl
def swB (S : Scope) (y : Str) (py p : Pos) (sc : Scope) : Bool := (match S.kind with | .function => true | _ => false) && decide (S.names.lookup y = some .local) && (py.line == p.line) && !(sc.names.any fun (n, k) => n == y && (k == .local || k == .cell))
def chkT1 (T : Tb) (c : Ck) (t : Sv.T) (tg : Expr) : Bool := match t with
  | .sub o i => (match vSub tg with | some (x, y) => !isSlice y && chkE T c o x && chkE T c i y | none => false)
  | .att _ _ => false
  | t => chkTn c t tg
def chkTms (T : Tb) (c : Ck) : Ts → List Expr → Bool
  | .nil, [] => true
  | .cons t r, e :: es => !isStar e && chkT1 T c t e && chkTms T c r es
  | _, _ => false
def chkTg (T : Tb) (c : Ck) (t : Sv.T) (tg : Expr) : Bool := match t with
  | .sub o i => (match vSub tg with | some (x, y) => !isSlice y && chkE T c o x && chkE T c i y | none => false)
  | .att _ _ => false
  | .loc i => chkTn c (.loc i) tg
  | .tup ts => chkTn c (.tup ts) tg || (match vTup tg with | some es => c.calm && quietTs ts && chkTms T c ts es | none => false)
def chkPar (T : Tb) (c : Ck) (t : Sv.T) (e : E) (tg v : Expr) : Bool := match t, e with
  | .tup (.cons (.loc i) (.cons (.loc j) .nil)), .tup es => (match vTup tg, vTup v with
    | some [x, y], some [a, b] => (match vNameP x, vNameP y with
      | some (x, px), some (y, py) => c.calm && decide (c.N[i]? = some x) && decide (c.N[j]? = some y) && decide (i ≠ j) && (es.len == 2) && chkEs T c es [a, b] && swP c.S x px y py a b
      | _, _ => false)
    | _, _ => false)
  | _, _ => false
def chkPar2 (T : Tb) (c : Ck) (t : Sv.T) (e : E) (tg v : Expr) : Bool := match vTup tg, vTup v with
  | some [x, y], some [a, b] => (match vNameP x, vNameP y with
    | some (x, px), some (y, py) => swN c.S x y && chkTn c t tg && chkE T c e v
    | _, _ => false)
  | _, _ => false
def chkLc (T : Tb) (c : Ck) (t : Sv.T) (e : E) (tg v : Expr) : Bool := match t, e with
  | .loc i, .comp m own el tt it ifs => (match vNameP tg, vLc v with
    | some (y, py), some (x, [⟨tg', iter, fs, 0⟩], sc, p) => decide (c.N[i]? = some y) && swB c.S y py p sc && c.calm && blkC c.N c.S sc (ownOf c.N own) && decide (∀ i, i ∈ slotsT tt → i ∈ own) && !isSet iter && chkI T c it tg' iter && chkTn (c.blk sc) tt tg' && chkE T (c.blk sc) el x && (match ifs, fs with
      | .nil, [] => true | .cons i .nil, [f] => chkE T (c.blk sc) i f | _, _ => false)
    | _, _ => false)
  | _, _ => false
def chkLc2 (T : Tb) (c : Ck) (t : Sv.T) (e : E) (tg v : Expr) : Bool := match vNameP tg, vLc v with
  | some (y, py), some (_, _, sc, p) => !swB c.S y py p sc && (match c.S.kind with | .function => true | _ => false) && chkTn c t tg && chkE T c e v
  | _, _ => false
mutual
def chkS (T : Tb) (c : Ck) : S → Stmt → Bool
  | .bad, _ => true
  | .asg t e, st => match vAssign st with
    | some (tg, v, _) => (match t, vAtt tg with
      | .att o f, some (x, n) => decide (n = T.C.nm f) && decide (f ∈ T.flds) && chkE T c o x && chkE T c e v
      | t, _ => (noPair tg v && !isComp v && !isStar tg && chkTg T c t tg && chkE T c e v) || chkPar T c t e tg v || chkPar2 T c t e tg v || chkLc T c t e tg v || chkLc2 T c t e tg v)
    | none => false
  | .aug i o e, st => match vAugS st with | some (x, op, v) => decide (op = opPy o) && isAS o && decide (c.N[i]? = some x) && decide (c.S.names.lookup x = some .local) && chkE T c e v | none => false
  | .expr e, st => match vExprS st with | some x => !isComp x && chkE T c e x | none => false
  | .ret e, st => match vRetS st with | some (some x) => chkE T c e x | _ => false
  | .retn, st => match vRetS st with | some none => true | _ => false
  | .ite t a b, st => match vIfS st with | some (x, xa, xb) => chkE T c t x && chkSs T c a xa && chkSs T c b xb | _ => false
  | .for t it b, st => match vForS st with | some (tg, iter, body, []) => c.calm && !isSet iter && chkTn c t tg && chkI T c it tg iter && chkSs T c b body | _ => false
  | .try b _, st => match vTryS st with | some (body, _ :: _, [], []) => chkSs T c b body | _ => false
  | .pass, st => isPass st
  | .brk, st => isBrk st
  | .cnt, st => isCnt st
  | _, _ => false
def chkSs (T : Tb) (c : Ck) : Ss → List Stmt → Bool
  | .nil, [] => true
  | .cons (.cls _) r, l => chkSs T c r l
  | .cons s r, st :: l => chkS T c s st && chkSs T c r l
  | _, _ => false
end
section
variable {T : Tb} {k : Nat} {c : Ck} {Wd : WX} {X : Cx}
theorem names_hn {G : Prog} {cl : CallT} {t : Sv.T} (h : isNames t = true) : ∀ d env w, (∃ env' w', asg G cl t d env w = .next env' w') ∨ (∃ e w', asg G cl t d env w = .exc e env w') ∨ asg G cl t d env w = .bad := by
  intro d env w
  rw [asg_names h]
  cases asgN t d env with
  | none => exact .inr (.inr rfl)
  | some e => exact .inl ⟨_, _, rfl⟩
theorem gs_of (tb : TbOk T k) (hx : XOk T k c Wd X) : ∀ {ts : Ts} {es : List Expr}, quietTs ts = true → chkTms T c ts es = true → PGs X es (TGts T.C Wd (asgs T.G (run T.G k) ts)) ∧ (assignEach es X.env).length = ts.len ∧ (assignEach es X.env).findIdx? (·.1) = none
  | .nil, [], _, _ => ⟨gs_nil, rfl, rfl⟩
  | .nil, _ :: _, _, h => by simp [chkTms] at h
  | .cons _ _, [], _, h => by simp [chkTms] at h
  | .cons t r, e :: es, hq, h => by
    simp only [chkTms, Bool.and_eq_true, Bool.not_eq_true'] at h
    simp only [quietTs, Bool.and_eq_true] at hq
    obtain ⟨h1, h2, h3⟩ := gs_of tb hx hq.2 h.2
    have hg : PG X e (TGt T.C Wd (asg T.G (run T.G k) t)) := by
      have h4 := h.1.2
      cases t with
      | sub o i =>
        simp only [chkT1] at h4
        split at h4
        · rename_i x y hvv
          obtain ⟨p2, rfl⟩ := vSub_eq hvv
          simp only [Bool.and_eq_true, Bool.not_eq_true'] at h4
          exact g_sub hx h4.1.1 (soE tb hx h4.1.2).e (soE tb hx h4.2).e
        · cases h4
      | att o f => simp [chkT1] at h4
      | loc i => exact g_names hx h4
      | tup ts => exact g_names hx h4
    refine ⟨gs_cons h.1.1 hq.1 hg h1, ?_, ?_⟩
    · rw [asgE1 h.1.1, List.length_cons, h2]; rfl
    · rw [asgE1 h.1.1]
      simp only [List.findIdx?_cons]
      rw [h3]; rfl
theorem so_asg (tb : TbOk T k) (hx : XOk T k c Wd X) {t : Sv.T} {e : E} {tg v : Expr} {p : Pos} (h : ((noPair tg v && !isComp v && !isStar tg && chkTg T c t tg && chkE T c e v) || chkPar T c t e tg v || chkPar2 T c t e tg v || chkLc T c t e tg v || chkLc2 T c t e tg v) = true) :
    PS X (.Assign [tg] v p) (TS' T.C Wd (exec T.G (run T.G k) (.asg t e))) := by
  simp only [Bool.or_eq_true] at h
  rcases h with (((h | h) | h) | h) | h
  · simp only [Bool.and_eq_true, Bool.not_eq_true'] at h
    obtain ⟨⟨⟨⟨h1, h2⟩, h3⟩, h4⟩, h5⟩ := h
    have hv := (soE tb hx h5).e
    cases t with
    | sub o i =>
      simp only [chkTg] at h4
      split at h4
      · rename_i x y hvv
        obtain ⟨p2, rfl⟩ := vSub_eq hvv
        simp only [Bool.and_eq_true, Bool.not_eq_true'] at h4
        refine s_asg (g_sub hx h4.1.1 (soE tb hx h4.1.2).e (soE tb hx h4.2).e) hv (sole_none h2) (noPair_ok h1) h3 fun d env w => ?_
        rcases asg_next (G := T.G) (cl := run T.G k) (t := .sub o i) (d := d) (env := env) (w := w) with z | z | z | ⟨ts, z⟩
        · exact .inl z
        · exact .inr (.inl z)
        · exact .inr (.inr z)
        · cases z
      · cases h4
    | att o f => simp [chkTg] at h4
    | loc i => exact s_asg (g_names hx h4) hv (sole_none h2) (noPair_ok h1) h3 (names_hn (names_of h4))
    | tup ts =>
      simp only [chkTg, Bool.or_eq_true] at h4
      rcases h4 with h4 | h4
      · exact s_asg (g_names hx h4) hv (sole_none h2) (noPair_ok h1) h3 (names_hn (names_of h4))
      · split at h4
        · rename_i es hvv
          obtain ⟨kk, p2, rfl⟩ := vTup_eq hvv
          simp only [Bool.and_eq_true] at h4
          obtain ⟨q1, q2, q3⟩ := gs_of tb hx h4.1.2 h4.2
          refine s_asg (g_tup hx h4.1.1 h4.1.2 q1 q2 q3) hv (sole_none h2) (noPair_ok h1) h3 fun d env w => ?_
          rcases quiet_next (G := T.G) (cl := run T.G k) (t := .tup ts) (d := d) (env := env) (w := w) (by simpa [quietT] using h4.1.2) with z | z
          · exact .inl z
          · exact .inr (.inr z)
        · cases h4
  · unfold chkPar at h
    split at h
    · rename_i i j es
      split at h
      · rename_i x y a b hx1 hv1
        split at h
        · rename_i x2 px y2 py hx2 hy2
          obtain ⟨kt, pt, rfl⟩ := vTup_eq hx1
          obtain ⟨k2, pt2, rfl⟩ := vTup_eq hv1
          obtain rfl := vNameP_eq hx2
          obtain rfl := vNameP_eq hy2
          simp only [Bool.and_eq_true, decide_eq_true_eq, beq_iff_eq] at h
          obtain ⟨⟨⟨⟨⟨⟨h1, h2⟩, h3⟩, h4⟩, h5⟩, h6⟩, h7⟩ := h
          have hl := h7
          unfold swP at hl
          simp only [Bool.and_eq_true, decide_eq_true_eq] at hl
          exact s_par hx h1 h2 h3 h4 hl.1.1.1.1.1.2 hl.1.1.1.1.2 (soEs tb hx h6) h5 (swP_ok hx.sc h7)
        · cases h
      · cases h
    · cases h
  · unfold chkPar2 at h
    split at h
    · rename_i x y a b hx1 hv1
      split at h
      · rename_i x2 px y2 py hx2 hy2
        obtain ⟨kt, pt, rfl⟩ := vTup_eq hx1
        obtain ⟨k2, pt2, rfl⟩ := vTup_eq hv1
        obtain rfl := vNameP_eq hx2
        obtain rfl := vNameP_eq hy2
        simp only [Bool.and_eq_true] at h
        exact s_asg (g_names hx h.1.2) (soE tb hx h.2).e rfl (swN_ok hx.sc h.1.1) rfl (names_hn (names_of h.1.2))
      · cases h
    · cases h
  · unfold chkLc at h
    split at h
    · rename_i i m own el tt it ifs
      split at h
      · rename_i y py x tg' iter fs sc p2 hy hv
        obtain rfl := vNameP_eq hy
        rw [vLc_eq hv]
        simp only [Bool.and_eq_true, decide_eq_true_eq, Bool.not_eq_true'] at h
        obtain ⟨⟨⟨⟨⟨⟨⟨⟨⟨h0, hb⟩, h1⟩, h2⟩, h3⟩, h4⟩, h5⟩, h6⟩, h7⟩, h8⟩ := h
        unfold swB at hb
        simp only [Bool.and_eq_true, decide_eq_true_eq, Bool.not_eq_true'] at hb
        have hkind : X.env.scope.kind = .function := by
          rw [hx.sc]
          have := hb.1.1.1
          cases e1 : c.S.kind <;> rw [e1] at this <;> first | rfl | cases this
        have hsw := sw_true (env := X.env) (elt := x) (gs := [⟨tg', iter, fs, 0⟩]) (l := p.line) hkind (by rw [hx.sc]; exact hb.1.1.2) hb.1.2 hb.2
        refine PS.imp (s_comp (m := m) (es := ifs) hx h1 h0 hb.1.1.2 hsw h2 h3 h4 (soI tb hx h5) (fun X' hx' => pg_of hx' h6) (fun X' hx' => ?_) (fun X' hx' => (soE tb hx' h7).e)) fun D σ H q => ?_
        · split at h8
          · exact pts_none
          · exact pts_1 (soE tb hx' h8).t
          · cases h8
        · have q := TS'.eq (g := fun env w => (ev T.G (run T.G k) (.comp m own el tt it ifs) env w).to env fun d w => (fun d env w => asg T.G (run T.G k) (.loc i) d env w) d env w) q fun env w => by simp only [exec]
          refine TG'.thn (TS'.to (RR := Rep T.C) q) fun v H1 q => ?_
          obtain ⟨F, ρ, env, w, d, k0, en, rd, q⟩ := q
          simp only [asg] at q
          split at q
          · exact q F ρ H1 _ .refl k0 (en.set rd)
          · exact q.elim
      · cases h
    · cases h
  · unfold chkLc2 at h
    split at h
    · rename_i y py x gs sc p2 hy hv
      obtain rfl := vNameP_eq hy
      have hv2 := vLc_eq hv
      simp only [Bool.and_eq_true, Bool.not_eq_true'] at h
      obtain ⟨⟨⟨h1, h2⟩, h3⟩, h4⟩ := h
      have ih := (soE tb hx h4).e
      subst hv2
      refine s_asg (g_names hx h3) ih ?_ rfl rfl (names_hn (names_of h3))
      show swapsWith (.ListComp x gs sc p2) (some (.Name y py)) p.line X.env = pure false
      have hkind : X.env.scope.kind = .function := by
        rw [hx.sc]
        cases e1 : c.S.kind <;> rw [e1] at h2 <;> first | rfl | cases h2
      have hk2 : X.env.blockKind = .function := by unfold Env.blockKind; rw [hkind]; rfl
      have hky : X.env.kindOf y = c.S.names.lookup y := by show X.env.scope.names.lookup y = _; rw [hx.sc]
      unfold swB at h1
      unfold swapsWith
      simp only [hk2, hky, Expr.pos]
      have hkb : (match c.S.kind with | .function => true | _ => false) = true := h2
      rw [hkb] at h1
      have : ((ScopeKind.function == ScopeKind.function && c.S.names.lookup y == some NameKind.local && py.line == p2.line) && !(sc.names.any fun (n, k) => n == y && (k == .local || k == .cell))) = false := by
        have e2 : (c.S.names.lookup y == some NameKind.local) = decide (c.S.names.lookup y = some NameKind.local) := by
          first | rfl | (cases c.S.names.lookup y with | none => rfl | some z => cases z <;> rfl)
        rw [e2]; exact h1
      rw [this]
    · cases h
mutual
theorem soS (tb : TbOk T k) {Wd : WX} {c : Ck} {X : Cx} (hx : XOk T k c Wd X) : ∀ {s : S} {st : Stmt}, chkS T c s st = true → PS X st (TS' T.C Wd (exec T.G (run T.G k) s))
  | .bad, st, _ => s_bad
  | .asg t e, st, h => by
    simp only [chkS] at h
    split at h
    · rename_i tg v p hv
      obtain rfl := vAssign_eq hv
      split at h
      · rename_i o f x n hvv
        obtain ⟨p2, rfl⟩ := vAtt_eq hvv
        simp only [Bool.and_eq_true, decide_eq_true_eq] at h
        obtain ⟨⟨⟨rfl, h1⟩, h2⟩, h3⟩ := h
        exact s_fld hx tb h1 (soE tb hx h2).e (soE tb hx h3).e
      · exact so_asg tb hx h
    · cases h
  | .expr e, st, h => by
    simp only [chkS] at h
    split at h
    · rename_i x hv
      obtain ⟨p, rfl⟩ := vExprS_eq hv
      simp only [Bool.and_eq_true, Bool.not_eq_true'] at h
      exact s_expr h.1 (soE tb hx h.2).e
    · cases h
  | .ret e, st, h => by
    simp only [chkS] at h
    split at h
    · rename_i x hv
      obtain ⟨p, rfl⟩ := vRetS_eq hv
      exact s_ret (soE tb hx h).e
    · cases h
  | .retn, st, h => by
    simp only [chkS] at h
    split at h
    · rename_i hv
      obtain ⟨p, rfl⟩ := vRetS_eq hv
      exact s_retn
    · cases h
  | .ite t a b, st, h => by
    simp only [chkS] at h
    split at h
    · rename_i x xa xb hv
      obtain ⟨p, rfl⟩ := vIfS_eq hv
      simp only [Bool.and_eq_true] at h
      exact s_if (soE tb hx h.1.1).t (soSs tb hx h.1.2) (soSs tb hx h.2)
    · cases h
  | .for t it b, st, h => by
    simp only [chkS] at h
    split at h
    · rename_i tg iter body hv
      obtain ⟨p, rfl⟩ := vForS_eq hv
      simp only [Bool.and_eq_true, Bool.not_eq_true'] at h
      obtain ⟨⟨⟨⟨h1, h2⟩, h3⟩, h4⟩, h5⟩ := h
      exact s_for hx h1 h2 h3 (soI tb hx h4) (soSs tb hx h5)
    · cases h
  | .try b es, st, h => by
    simp only [chkS] at h
    split at h
    · rename_i body h0 hs hv
      obtain ⟨p, rfl⟩ := vTryS_eq hv
      exact s_try (soSs tb hx.nox h)
    · cases h
  | .pass, st, h => by
    cases st <;> first | exact s_pass | (simp [chkS, isPass] at h)
  | .brk, st, h => by
    cases st <;> first | exact s_brk | (simp [chkS, isBrk] at h)
  | .cnt, st, h => by
    cases st <;> first | exact s_cnt | (simp [chkS, isCnt] at h)
  | .aug i o e, st, h => by
    simp only [chkS] at h
    split at h
    · rename_i x op v hv
      obtain ⟨p1, p2, rfl⟩ := vAugS_eq hv
      simp only [Bool.and_eq_true, decide_eq_true_eq] at h
      obtain ⟨⟨⟨⟨rfl, h1⟩, h2⟩, h3⟩, h4⟩ := h
      refine PS.imp (s_aug hx (isAS_or h1) h2 h3 (soE tb hx h4).e) fun D σ H q => ?_
      obtain ⟨F, ρ, env, w, k0, en, q⟩ := q
      simp only [exec] at q
      refine ⟨F, ρ, env, w, k0, en, ?_⟩
      cases hl : locF env i with
      | none => rw [hl] at q; exact q.elim
      | some d =>
        rw [hl] at q
        refine ⟨d, rfl, (ResO.to (RR := Rep T.C) en q).mono ?_⟩
        rintro v H1 ⟨F1, r1, y, w1, ex, k1, ry, en1, q⟩
        cases hz : augF o d y with
        | none => rw [hz] at q; exact q.elim
        | some z =>
          rw [hz] at q
          exact ⟨F1, r1, y, w1, z, ex, k1, ry, hz, fun u ru => q F1 r1 H1 _ .refl k1 (en1.set ru)⟩
    · cases h
  | .whl _ _, st, h => by simp [chkS] at h
  | .raise _, st, h => by simp [chkS] at h
  | .cls _, st, h => by simp [chkS] at h
theorem soSs (tb : TbOk T k) {Wd : WX} {c : Ck} {X : Cx} (hx : XOk T k c Wd X) : ∀ {s : Ss} {l : List Stmt}, chkSs T c s l = true → PSs X l (TS' T.C Wd (execs T.G (run T.G k) s))
  | .nil, [], _ => ss_nil
  | .nil, _ :: _, h => by simp [chkSs] at h
  | .cons s r, l, h => by
    by_cases hs : ∃ i, s = .cls i
    · obtain ⟨i, rfl⟩ := hs
      simp only [chkSs] at h
      exact ss_seal (soSs tb hx h)
    · cases l with
      | nil => cases s <;> first | (simp [chkSs] at h; done) | exact absurd ⟨_, rfl⟩ hs
      | cons st l =>
        have h' : chkS T c s st = true ∧ chkSs T c r l = true := by
          cases s <;> first | (simp only [chkSs, Bool.and_eq_true] at h; exact h) | exact absurd ⟨_, rfl⟩ hs
        exact ss_cons (soS tb hx h'.1) (soSs tb hx h'.2)
end
end
end Sv

set_option Elab.async false
set_option linter.all false
set_option maxRecDepth 100000
set_option maxHeartbeats 8000000
namespace Sv
open PySem L2
def BindOk (T : Tb) (fn : Fn) (fd : FuncData) (ps : List Str) (n : Nat) (kwi : List Nat) : Prop :=
  ∀ (s : Shared) (us ws : List Value), T.C.K.In s.heap → us.length = n → ws.length = kwi.length → ∃ gs : List Value, BindsTo s fd ⟨us, (kwi.map fun i => ps.getD i Str.empty).zip ws⟩ (ps.zip gs) ∧
    ∀ (F : Hp) (ρ : List Addr) (ds es ds' : List D) (vs zs : List V), Reps T.C F ρ ds vs → Reps T.C F ρ es zs → Vals vs us → Vals zs ws → argsOf fn.np fn.dfl ds kwi es = some ds' → ∃ vs', Vals vs' gs ∧ Reps T.C F ρ ds' vs'
theorem fill_all : ∀ (ds : List D) (l : List (Option D)), fillDfl (ds.map some) l = some ds
  | [], _ => rfl
  | d :: ds, l => by simp only [List.map_cons, fillDfl, fill_all ds l.tail, Option.map_some]
theorem bind_pos {T : Tb} {fn : Fn} {fd : FuncData} {ps : List Str} (hps : ps.length = fn.np) (h : Binds T.C.K fd ps []) : BindOk T fn fd ps fn.np [] := by
  intro s us ws X l1 l2
  have hw : ws = [] := List.length_eq_zero_iff.mp l2
  subst hw
  refine ⟨us, ?_, fun F ρ ds es ds' vs zs rd re rv rz ha => ⟨vs, rv, ?_⟩⟩
  · have := h s us X (by rw [List.append_nil, l1, hps])
    rw [List.append_nil] at this
    exact this
  · have hl : ds.length = fn.np := by rw [rd.length, rv.length, l1]
    unfold argsOf at ha
    rw [if_neg (by omega), hl, Nat.sub_self] at ha
    simp only [List.replicate_zero, List.append_nil] at ha
    cases he : es with
    | nil =>
      subst he
      simp only [setAll] at ha
      rw [fill_all] at ha
      cases ha; exact rd
    | cons e es => rw [he] at ha; simp [setAll] at ha
theorem bind_def {T : Tb} {fn : Fn} {fd : FuncData} {ps : List Str} {x qual : Str} {params : Arguments} {body : List Stmt} {scope : Scope} {dvs : List V} {f : Addr} (Fd : FunD T.C.K x qual params body scope dvs [] f fd) (hd : dvs ≠ []) (n : Nat) (kwi : List Nat)
    (h : ∀ us ws its : List Value, us.length = n → ws.length = kwi.length → its.length = dvs.length → ∃ gs : List Value, (∀ (Td : Addr) (kV doc pm : Value) (an : Option Addr) (cdv ct : Value), ∃ k, bindArgs (PySem.W.fnOf x qual params body scope (.ref Td) kV doc pm an cdv ct) ⟨us, (kwi.map fun i => ps.getD i Str.empty).zip ws⟩ = seqItems? (.ref Td) >>= k ∧ k (some its.toArray) = pure (ps.zip gs)) ∧
      ∀ (F : Hp) (ρ : List Addr) (ds es ds' : List D) (vs zs : List V), Reps T.C F ρ ds vs → Reps T.C F ρ es zs → Vals vs us → Vals zs ws → Vals dvs its → argsOf fn.np fn.dfl ds kwi es = some ds' → ∃ vs', Vals vs' gs ∧ Reps T.C F ρ ds' vs') : BindOk T fn fd ps n kwi := by
  intro s us ws X l1 l2
  obtain ⟨oc, od, dV, kV, doc, pm, an, cdv, ct, osl, rfl, lk, hcd, hD, hK⟩ := Fd.ex
  rcases hD with ⟨e, _⟩ | ⟨_, Td, o, its, m, rfl, lT, oT, rT⟩
  · exact absurd e hd
  · obtain ⟨gs, h1, h2⟩ := h us ws its l1 l2 rT.length.symm
    refine ⟨gs, ?_, fun F ρ ds es ds' vs zs r1 r2 r3 r4 ha => h2 F ρ ds es ds' vs zs r1 r2 r3 r4 rT ha⟩
    obtain ⟨k, e1, e2⟩ := h1 Td kV doc pm an cdv ct
    refine BindsTo.of_looks fun M => ?_
    rw [e1]
    exact looks_items X lT oT (.of_pure e2)
theorem envOk_start {C : Cn} {F : Hp} {ρ : List Addr} {ds : List D} {vs : List V} {N : List Str} {n m : Nat} (r : Reps C F ρ ds vs) (hN : N.length = n) (hd : ds.length = m) : EnvOk C F ρ (ds.map some ++ List.replicate (n - m) none) (L2.start N vs) := by
  have hl := r.length
  refine ⟨?_, fun i d h => ?_⟩
  · unfold L2.start
    rw [List.length_append, List.length_append, List.length_map, List.length_map, List.length_replicate, List.length_replicate]
    omega
  · by_cases hi : i < ds.length
    · rw [List.getElem?_append_left (by simpa using hi), List.getElem?_map] at h
      cases e : ds[i]? with
      | none => rw [e] at h; cases h
      | some x =>
        rw [e] at h; cases h
        obtain ⟨v, hv, rv⟩ := r.get e
        refine ⟨v, ?_, rv⟩
        unfold L2.start
        rw [List.getElem?_append_left (by simpa using hl ▸ hi), List.getElem?_map, hv]; rfl
    · rw [List.getElem?_append_right (by simpa using Nat.le_of_not_lt hi)] at h
      rw [List.getElem?_replicate] at h
      split at h <;> cases h
theorem prefix_take {ρ ρ' : List Addr} {n : Nat} (h : ρ <+: ρ') (hn : ρ.length = n) : ρ <+: ρ'.take n := by
  obtain ⟨t, rfl⟩ := h
  rw [← hn, List.take_left']
  · exact List.prefix_refl _
  · rfl
theorem shut_ok {C : Cn} {Wd : WX} {F : Hp} {ρ : List Addr} {keep : Bool} {n : Nat} {d : D} {w' : W} {σ : St} {Q : VK} (hn : ρ.length = n) (r : Res C (Rep C) Wd F ρ (R.shut keep n (.ok d w')) σ Q) : Res C (Rep C) Wd F ρ (.ok d w') σ Q := by
  unfold R.shut Sv.shut at r
  cases keep with
  | true => simpa using r
  | false =>
    simp only [Bool.false_eq_true, if_false] at r
    split at r
    · rename_i w2 hw2
      split at hw2
      · cases hw2; exact r
      · split at hw2
        · rename_i hnr
          cases hw2
          intro F' ρ' H' v e k q
          exact r F' (ρ'.take n) H' v ⟨e.f, prefix_take e.r hn⟩ k.take (q.noRef hnr)
        · cases hw2
    · exact r.elim
theorem shut_exc {C : Cn} {Wd : WX} {F : Hp} {ρ : List Addr} {keep : Bool} {n : Nat} {d : D} {w' : W} {σ : St} {Q : VK} (hn : ρ.length = n) (r : Res C (Rep C) Wd F ρ (R.shut keep n (.exc d w')) σ Q) : Res C (Rep C) Wd F ρ (.exc d w') σ Q := by
  unfold R.shut Sv.shut at r
  simp only [Bool.false_eq_true, if_false] at r
  split at r
  · rename_i w2 hw2
    split at hw2
    · cases hw2; exact r
    · split at hw2
      · cases hw2
        intro F' ρ' H' cl dd e k q
        exact r F' (ρ'.take n) H' cl dd ⟨e.f, prefix_take e.r hn⟩ k.take q
      · cases hw2
  · exact r.elim
theorem guards_deeper {A : Around} {env : PySem.Env} (h : A.guards = some []) : (A.deeper env).guards = some [] := by
  first
    | exact h
    | simpa [Around.deeper] using h
theorem body_ok {T : Tb} {k : Nat} {fn : Fn} {g n : Nat} {kwi : List Nat} {N ps : List Str} {x qual : Str} {params : Arguments} {body : List Stmt} {scope : Scope} {dvs : List V} {kwsD : List (Str × V)} {f : Addr} {fd : FuncData}
    (Fd : FunD T.C.K x qual params body scope dvs kwsD f fd) (S : FnScope N ps scope) (hN : N.length = fn.nloc) (hps : ps.length = fn.np) (hT : T.ps g = ps) (hG : T.G.fn g = some fn) (tb : TbOk T k) (hchk : chkSs T ⟨N, scope, fun _ => true, true⟩ fn.body body = true) (hb : BindOk T fn fd ps n kwi) :
    CallV T (k + 1) g f n kwi := by
  subst hT
  intro A outer s H us ws vs zs Q E hr hg e0 rv rz l1 l2 ⟨F, ρ, w, ds, es, k0, rd, re, hres⟩
  obtain ⟨oc, od, dV, kV, doc, pm, an, cdv, ct, osl, rfl, lk, hcd, _, _⟩ := Fd.ex
  have inH : T.C.K.In s.heap := e0.mod.kin.keeps fun b o z => (e0.bs b o z).1
  obtain ⟨gs, hbt, hrel⟩ := hb s us ws inH l1 l2
  unfold callF at hres
  simp only [hG] at hres
  cases ha : argsOf fn.np fn.dfl ds kwi es with
  | none => rw [ha] at hres; exact hres.elim
  | some ds' =>
    simp only [ha] at hres
    obtain ⟨vs', rv', rd'⟩ := hrel F ρ ds es ds' vs zs rd re rv rz ha
    have hres : Res T.C (Rep T.C) (fun cl dd _ H => E cl dd H) F ρ (Sv.body T.G (run T.G k) fn ds' w) [] Q := by
      have : run T.G (k + 1) g ds' w = Sv.body T.G (run T.G k) fn ds' w := by
        show (match T.G.fn g with | some f => Sv.body T.G (run T.G k) f ds' w | none => .bad) = _
        rw [hG]
      rw [← this]; exact hres
    unfold Sv.body at hres
    split at hres
    · rename_i hlen
      have hl : vs'.length = (T.ps g).length := by rw [← rd'.length, hlen.1, hps]
      have hlim : s.heap.NoLimit := e0.mod.nolimit.keeps fun b o z => (e0.bs b o z).1
      have hk : ∀ y ∈ (T.ps g).zip gs, scope.names.lookup y.1 = some .local ∨ (scope.names.lookup y.1 = some .cell ∧ ((cellsFrom (s.heap.objs.size + 1) scope.names []).lookup y.1).isSome = true) := by
        rintro ⟨nm, v⟩ hy
        refine (S.par nm (List.of_mem_zip hy).1).imp id fun q => ⟨q, PySem.W.cellsFrom_some _ _ _ (.inl q)⟩
      refine codeAny_call_function hr.depth (inH _ _ lk) rfl S.co S.gen rfl (PySem.W.codeRec_of inH hcd) (hbt _ _ _ _ ?_)
      refine wpAny_newFunctionEnv_cells S.kind hk fun env henv s1 hin => ?_
      subst henv
      refine ⟨hlim.keeps hin.toInCall.keep, codeAny_func ?_⟩
      have hx : XOk T k ⟨N, scope, fun _ => true, true⟩ (fun cl dd _ H => E cl dd H) (cxOf (L2.CX T.P T.w) T.P T.w T.C.K T.mg T.base N qual scope f cdv A outer s H E) :=
        ⟨rfl, rfl, rfl, rfl, rfl, rfl, S.nd, rfl, rfl, rfl, Room.deeper (k := 2 * k + 1) (show Room (2 * k + 1 + 1) A from hr) _, guards_deeper hg, takes_of rfl rfl rfl rfl, passes_of rfl⟩
      have I : L2.Inv (cxOf (L2.CX T.P T.w) T.P T.w T.C.K T.mg T.base N qual scope f cdv A outer s H E) [] (L2.start N vs') H s1 := inv_start S hr.hd e0 hl rv' hin
      have go : TS' T.C (fun cl dd _ H => E cl dd H) (execs T.G (run T.G k) fn.body) { nx := fun _ H' => Q .non H', rt := Q } (L2.start N vs') H := by
        refine ⟨F, ρ, ds'.map some ++ List.replicate (fn.nloc - fn.np) none, w, k0, envOk_start rd' hN hlen.1, ?_⟩
        cases e : execs T.G (run T.G k) fn.body (ds'.map some ++ List.replicate (fn.nloc - fn.np) none) w with
        | next env' w' =>
          rw [e] at hres
          have z := shut_ok k0.len hres
          exact fun F' ρ' H' σ' ex k' en' => z F' ρ' H' _ ex k' .non
        | ret d w' =>
          rw [e] at hres
          exact shut_ok k0.len hres
        | exc x env' w' =>
          rw [e] at hres
          have z := shut_exc k0.len hres
          exact fun F' ρ' H' σ' cl dd ex k' en' q => z F' ρ' H' cl dd ex k' q
        | brk env' w' => rw [e] at hres; exact hres.elim
        | cnt env' w' => rw [e] at hres; exact hres.elim
        | bad => rw [e] at hres; exact hres.elim
      refine wpAny_mono ((soSs tb hx hchk).run [] s1 _ H _ I go) (fun fl s' hs => ?_) fun e s' hs => hs
      have close : ∀ {σ' : St} {H' : Hp} {v : V} {u : Value}, L2.Inv (cxOf (L2.CX T.P T.w) T.P T.w T.C.K T.mg T.base N qual scope f cdv A outer s H E) [] σ' H' s' → RelV v u → Q v H' → CE outer T.P T.w H s Q u s' :=
        fun {σ' H' v u} J rr q => ⟨v, H', J.os, J.bare, J.base, J.hok, rr, q⟩
      cases fl with
      | next => obtain ⟨σ', H', J, q⟩ := hs; exact close (v := .non) (u := Value.none) J rfl q
      | ret u => obtain ⟨v, σ', H', J, rr, q⟩ := hs; exact close J rr q
      | brk => obtain ⟨_, _, _, q⟩ := hs; exact q.elim
      | cont => obtain ⟨_, _, _, q⟩ := hs; exact q.elim
    · exact hres.elim
end Sv

set_option Elab.async false
set_option linter.all false
set_option maxRecDepth 100000
set_option maxHeartbeats 8000000
namespace Sv
open PySem PySem.Spec PyProof.Rows L2
theorem noCX {P : Program} {w : World} {o : List PySem.Env} {H : Hp} {s s' : Shared} {e : Value} (h : L2.CX P w o H s (fun _ _ _ => False) e s') : False := by
  obtain ⟨_, _, _, _, _, _, _, _, _, _, _, _, z⟩ := h
  exact z
theorem lawG {P : Program} {w : World} {K : PySem.W.Frag} {mg mb : Str → Option Value} {fa scr : Addr} {st : Shared} {items : List Value} {ns : List Int}
    (inK : K.In st.heap) (nsM : st.heap.Ns mainGlobals mg) (nsB : st.heap.Ns builtinsNs mb) (boot : ∀ x : Str, x ≠ "__name__" → mb x = bootBuiltins x) (lim : st.heap.NoLimit) (bare : st.gens = #[])
    (hscr : st.heap.get? scr = some { cls := .type "list", data := .seq items.toArray }) (hint : IntsAre items ns) (few : ns.length ≤ sizeLine)
    (F : ∀ base : Heap, K.In base → base.Ns mainGlobals mg → ∀ H : Hp, Env0 P w K mg base callerA [] st H → SqL K H scr (ns.map V.int) →
      codeAny (model P w) callerA (.call (.ref fa) ⟨[.ref scr], []⟩) (CR (L2.CX P w) [] P w H st (fun v _ => v = .bl true) fun _ _ _ => False) st) :
    codeAny (model P w) callerA (.call (.ref fa) ⟨[.ref scr], []⟩) (fun r s' => r = .ok (.ret (.bool true)) ∧ OldK st.heap s'.heap ∧ s'.os = st.os ∧ AllBare s'.gens) st := by
  have vals : Vals (ns.map V.int) items := vals_ints hint
  have lens : items.length = ns.length := hint.length
  have main : ∀ H : Hp, Only H → SqL K H scr (ns.map V.int) → HOk P w H st.heap → (∀ b, H b ≠ none → b = scr) → (H scr ≠ none → K.lookup scr = none) →
      codeAny (model P w) callerA (.call (.ref fa) ⟨[.ref scr], []⟩) (fun r s' => r = .ok (.ret (.bool true)) ∧ OldK st.heap s'.heap ∧ s'.os = st.os ∧ AllBare s'.gens) st := by
    intro H only sq hok alone apart
    have low : ∀ {b : Addr} {o : Obj}, st.heap.get? b = some o → H b = none → (hidT st.heap H).get? b = some o := fun e n => hidT_get e n
    have dictOut : ∀ {b : Addr} {o : Obj} {es : Array DictEntry} {ep : Nat}, st.heap.get? b = some o → o.data = .dict es ep → H b = none := fun {b o es ep} e dd => by
      cases hb : H b with
      | none => rfl
      | some u =>
        obtain rfl : b = scr := alone b (by rw [hb]; simp)
        rw [hscr] at e; cases e
        cases (show Data.seq items.toArray _ = Data.dict es ep from dd)
    have nsLow : ∀ {b : Addr} {m : Str → Option Value}, st.heap.Ns b m → (hidT st.heap H).Ns b m := fun {b m} ⟨o, es, ep, e, dd, r⟩ => ⟨o, es, ep, low e (dictOut e dd), dd, r⟩
    have inLow : K.In (hidT st.heap H) := fun b o e => low (inK b o e) (by
      cases hb : H b with
      | none => rfl
      | some u =>
        obtain rfl : b = scr := alone b (by rw [hb]; simp)
        rw [apart (by rw [hb]; simp)] at e; cases e)
    have modLow : Mod K mg (hidT st.heap H) := ⟨inLow, nsLow nsM, ⟨mb, nsLow nsB, boot⟩, let ⟨mc, h1, h2⟩ := lim; ⟨mc, nsLow h1, h2⟩⟩
    have env0 : Env0 P w K mg (hidT st.heap H) callerA [] st H := ⟨rfl, modLow, fun b o e => of_hidT e, Nat.le_of_eq (hidT_size _ _), trivial, fun b hb => absurd (show b ∈ ([] : List Addr) from hb) (by simp), hok, .of_eq bare⟩
    refine codeAny_mono (F _ inLow (nsLow nsM) H env0 sq) fun r s' hr => ?_
    cases r with
    | error e => exact (noCX hr).elim
    | ok fl =>
      cases fl with
      | ret u =>
        obtain ⟨v, H', os, bare', un, hok', rv, rfl⟩ := hr
        obtain rfl : u = Value.bool true := rv
        refine ⟨rfl, OldK.of_keep fun b o e => ?_, os, bare'⟩
        cases hb : H b with
        | none => exact un.keep b o e hb (by intro z; exact absurd (show b ∈ ([] : List Addr) from z) (by simp)) (by simp)
        | some u =>
          rcases only b with z | ⟨ob, xs, z⟩
          · rw [hb] at z; cases z
          · obtain ⟨e1, _⟩ := hok b _ z
            obtain ⟨e2, _⟩ := hok' b _ (un.frzs b ob _ z)
            rw [e] at e1; cases e1
            exact e2
      | next => exact False.elim hr
      | brk => exact False.elim hr
      | cont => exact False.elim hr
  cases hk : K.lookup scr with
  | some o =>
    have e := inK scr o hk
    rw [hscr] at e; cases e
    refine main (fun _ => none) (fun _ => .inl rfl) (.inr ⟨_, items.toArray, _, hk, rfl, rfl, rfl, ?_, by simpa using vals⟩) (fun b u z => nomatch z) (fun b z => absurd rfl z) fun z => absurd rfl z
    rw [List.size_toArray, lens]; exact few
  | none =>
    refine main (fun b => if b = scr then some (.frz { cls := .type "list", data := .seq items.toArray } (.lst (ns.map V.int))) else none) (fun b => ?_) (.inl (.inr ⟨{ cls := .type "list", data := .seq items.toArray }, if_pos rfl⟩)) (fun b u z => ?_) (fun b z => ?_) fun _ => hk
    · by_cases hb : b = scr
      · exact .inr ⟨_, _, if_pos hb⟩
      · exact .inl (if_neg hb)
    · by_cases hb : b = scr
      · have z' := (if_pos hb).symm.trans z
        cases z'
        subst hb
        exact ⟨hscr, by rw [List.length_map]; exact few, items, _, vals, hscr⟩
      · cases (if_neg hb).symm.trans z
    · by_cases hb : b = scr
      · exact hb
      · exact absurd (if_neg hb) z
theorem walkG {l : PySem.W.OpenLaw} {n : Nat} {q : Program} {loose : List Str} {XP : (Str → Option Value) → Heap → Prop} {YP : World → Heap → Prop} {d : DefRec} (hn : l.most = some n) (hn2 : n ≤ sizeLine) (hdf : d.params.defaults = [])
    (F : ∀ (w : World) (mg : Str → Option Value) (fa : Addr) (h : Heap), YP w h → h.Ns mainGlobals mg → mg d.name = some (.ref fa) → ∃ K : PySem.W.Frag, K.In h ∧
      ∀ base : Heap, K.In base → base.Ns mainGlobals mg → ∀ (st : Shared) (H : Hp) (scr : Addr) (ns : List Int), ns.length ≤ n → Env0 l.prog w K mg base callerA [] st H → SqL K H scr (ns.map V.int) →
        codeAny (model l.prog w) callerA (.call (.ref fa) ⟨[.ref scr], []⟩) (CR (L2.CX l.prog w) [] l.prog w H st (fun v _ => v = .bl true) fun _ _ _ => False) st) :
    PySem.W.WalkO q loose XP YP l.row.toRowW d [] (fun f vs => PySem.call f vs) := by
  refine Att.attach_call hn hdf fun w s0 st mg mb fa o pm cd doc scr items ns G Y ho hd hcd hmg hobj hints hlen hg => ?_
  obtain ⟨K, inK, hF⟩ := F w mg fa _ Y G.T.g hmg
  exact lawG inK G.T.g G.T.b G.T.builtins G.T.nolimit hg hobj hints (Nat.le_trans hlen hn2) fun base h1 h2 H e0 sq => hF base h1 h2 st H scr ns hlen e0 sq
end Sv

set_option Elab.async false
set_option linter.all false
set_option maxRecDepth 100000
set_option maxHeartbeats 8000000
namespace Sv
open PySem PySem.Spec PyProof.Rows L2
inductive Loc where
  | glo (x : Str) | meth (C m : Str) | prop (C p : Str)
  deriving DecidableEq
def propAd (K : PySem.W.Frag) (p : Addr) : Addr := match PySem.W.recIn K p "property" with
  | some (.ref g :: _) => g | _ => 0
def Loc.ad (K : PySem.W.Frag) : Loc → Addr
  | .glo x => He.ga K x | .meth C m => He.ma K (He.ga K C) m | .prop C p => propAd K (He.ma K (He.ga K C) p)
structure DD where
  g : Nat
  loc : Loc
  name : Str
  qual : Str
  params : Arguments
  body : List Stmt
  scope : Scope
  N : List Str
  ps : List Str
  shapes : List (Nat × List Nat)
  dfl : List He.Dv := []
structure Lw where
  G : Prog
  names : List Str
  gt : List (Str × Nat)
  bl : List Str
  sh : List (Nat × Nat × List Nat)
  mh : List (Nat × Nat × List Nat)
  flds : List Nat
  clss : List (Str × Nat × Cls)
  defs : List DD
  keys : List Nat := []
def nmL (names : List Str) (i : Nat) : Str := match names[i]? with | some x => x | none => ⟨(List.replicate (i + 1) 0).toArray⟩
def gvL (gt : List (Str × Nat)) (K : PySem.W.Frag) (g : Nat) : Option V := (gt.find? fun p => p.2 == g).map fun p => .ref (He.ga K p.1)
def cAL (clss : List (Str × Nat × Cls)) (K : PySem.W.Frag) (c : Nat) : Option Addr := (clss.find? fun p => p.2.1 == c).map fun p => He.ga K p.1
def psL (defs : List DD) (g : Nat) : List Str := match defs.find? fun d => d.g == g with | some d => d.ps | none => []
def Lw.T (L : Lw) (K : PySem.W.Frag) (P : Program) (w : World) (mg : Str → Option Value) (base : Heap) : Tb where
  G := L.G
  C := ⟨K, nmL L.names, gvL L.gt K, cAL L.clss K⟩
  P := P
  w := w
  mg := mg
  base := base
  gt := L.gt
  bl := L.bl
  sh := L.sh
  mh := L.mh
  ps := psL L.defs
  flds := L.flds
  keys := L.keys
def fnA (K : PySem.W.Frag) (a : Addr) : He.FnW := match K.lookup a with
  | some ⟨_, _, .func fd, _⟩ => some (fd.name, fd.qualname, fd.params, fd.body, fd.scope, fd.globals, fd.closure, fd.builtins)
  | _ => none
def DD.val (d : DD) : He.FnW := some (d.name, d.qual, d.params, .stmts d.body, d.scope, mainGlobals, [], builtinsNs)
def DD.ok (K : PySem.W.Frag) (d : DD) : Bool := PySem.W.keepIn K (.ref (d.loc.ad K)) && (match K.lookup (d.loc.ad K) with
  | some ⟨_, _, .func fd, _⟩ => PySem.W.codeIn K fd.code d.qual && He.dflB K fd.defaults (d.dfl.map (He.Dv.v K))
  | _ => false)
theorem DD.funD {K : PySem.W.Frag} {d : DD} (e : fnA K (d.loc.ad K) = d.val) (c : d.ok K = true) : ∃ fd, FunD K d.name d.qual d.params d.body d.scope (d.dfl.map (He.Dv.v K)) [] (d.loc.ad K) fd := by
  unfold DD.ok at c
  simp only [Bool.and_eq_true] at c
  obtain ⟨kp, c⟩ := c
  unfold fnA at e
  split at c
  · rename_i oc od fd osl hl
    rw [hl] at e
    obtain ⟨n1, n2, n3, n4, n5, n6, n7, n8, n9, n10, n11, n12, n13, n14, n15⟩ := fd
    unfold DD.val at e
    simp only [Option.some.injEq, Prod.mk.injEq] at e
    obtain ⟨h1, h2, h3, h4, h5, h6, h7, h8⟩ := e
    simp only [Bool.and_eq_true] at c
    refine ⟨_, ⟨oc, od, n8, n9, n10, n11, n12, n13, n14, osl, ?_, hl, c.1, He.dflB_ok c.2, .inl rfl⟩, kp⟩
    subst h1 h2 h3 h4 h5 h6 h7 h8
    rfl
  · cases c
def dvOf : D → Option He.Dv
  | .non => some .non | .bl b => some (.bl b) | .int i => some (.int i) | .str s => some (.str (toStr s)) | _ => none
def dvsOf : List D → Option (List He.Dv)
  | [] => some []
  | d :: r => match dvOf d, dvsOf r with | some a, some b => some (a :: b) | _, _ => none
def cstB (K : PySem.W.Frag) (x : Str) : D → Bool
  | .int i => (He.Fa.int x i).ok K
  | .str s => (He.Fa.str x (toStr s)).ok K
  | .tup ds => (He.Fa.glo x).ok K && (match dvsOf ds with | some l => He.tupB K x l | none => false)
  | _ => false
def propB (K : PySem.W.Frag) (x f : Str) : Bool :=
  He.eqO (PySem.W.findIn K (.ref (He.ga K x)) f) (some (some (.ref (He.ma K (He.ga K x) f)))) && (decide (PySem.W.specialIn K (.ref (He.ma K (He.ga K x) f)) "__get__" = some (some (.builtin "property.__get__"))) &&
    (decide (PySem.W.takesIn K (.ref (He.ma K (He.ga K x) f)) = some true) && (match PySem.W.recIn K (He.ma K (He.ga K x) f) "property" with | some (.ref _ :: _) => true | _ => false)))
def allBT : List BT := [.int, .bool, .str, .tuple, .list, .dict, .valueError, .lookupError, .arithmeticError]
theorem mem_allBT (b : BT) : b ∈ allBT := by cases b <;> simp [allBT]
def isiB (L : Lw) (K : PySem.W.Frag) (x : Str) (q : Cls) : Bool :=
  (allBT.all fun b => decide (PySem.W.kitOne K (.ref (He.ga K x)) (.type (btS b)) = some (q.upB.contains b))) && ((L.clss.all fun c2 => decide (PySem.W.kitOne K (.ref (He.ga K x)) (.ref (He.ga K c2.1)) = some (q.up.contains c2.2.1))) &&
    (decide (PySem.W.findIn K (.ref (He.ga K x)) "__class__" = some (some (.builtin "object.__class__"))) && (decide (PySem.W.specialIn K (.builtin "object.__class__") "__get__" = some (some (.builtin "getset_descriptor.__get__"))) &&
      (decide (PySem.W.takesIn K (.builtin "object.__class__") = some true) && decide (PySem.W.mroIn K (He.ga K x) (.type "object") = some true)))))
def tyNames : List String := ["NoneType", "bool", "int", "str", "tuple", "list", "dict"]
def clsB (L : Lw) (K : PySem.W.Frag) (p : Str × Nat × Cls) : Bool :=
  (He.Fa.cls p.1).ok K && ((L.flds.all fun f => (p.2.2.props.lookup f).isSome || ((p.2.2.meths.lookup f).isSome || (He.Fa.noat p.1 (nmL L.names f)).ok K)) && ((p.2.2.props.all fun z => propB K p.1 (nmL L.names z.1)) && ((p.2.2.meths.all fun z => (He.Fa.meth p.1 (nmL L.names z.1)).ok K) &&
    ((match p.2.2.init with | some _ => (He.Fa.mkr p.1).ok K | none => true) && (isiB L K p.1 p.2.2 && (tyNames.all fun n => decide (PySem.W.kitOne K (.type n) (.ref (He.ga K p.1)) = some false)))))))
def factB (L : Lw) (K : PySem.W.Frag) : Bool :=
  (L.gt.all fun p => match L.G.cst p.2 with | some d => cstB K p.1 d | none => (He.Fa.glo p.1).ok K) && ((L.bl.all fun x => (He.Fa.free x).ok K) && ((L.clss.all (clsB L K)) && (L.defs.all fun d => d.ok K)))
def nameB (names : List Str) : Bool := decide names.Nodup && names.all fun x => match x.cps.toList with | c :: _ => decide (c ≠ 0) | [] => false
def shB (L : Lw) : Bool := L.sh.all fun s => (L.G.cst s.1).isNone && L.defs.any fun d => decide (d.g = s.1) && (decide ((s.2.1, s.2.2) ∈ d.shapes) && (match d.loc with | .glo x => decide (L.gt.lookup x = some s.1) | _ => false))
def clsS (L : Lw) (p : Str × Nat × Cls) : Bool :=
  (decide (L.gt.lookup p.1 = some p.2.1) && (L.G.cst p.2.1).isNone) && ((p.2.2.props.all fun z => L.defs.any fun d => decide (d.g = z.2) && (decide ((1, []) ∈ d.shapes) && decide (d.loc = .prop p.1 (nmL L.names z.1)))) &&
    ((p.2.2.meths.all fun z => L.mh.all fun s => decide (s.1 ≠ z.2) || L.defs.any fun d => decide (d.g = z.2) && (decide ((s.2.1, s.2.2) ∈ d.shapes) && decide (d.loc = .meth p.1 (nmL L.names z.1)))) &&
      (match p.2.2.init with | some g => L.mh.all fun s => decide (s.1 ≠ g) || L.defs.any fun d => decide (d.g = g) && (decide ((s.2.1, s.2.2) ∈ d.shapes) && decide (d.loc = .meth p.1 "__init__")) | none => true)))
def statB (L : Lw) : Bool := nameB L.names && (decide (L.gt.map (·.2)).Nodup && (shB L && L.clss.all (clsS L)))
def keyTx (d : DD) : Bool := match d.body with
  | [.Return (some (.Subscript (.Name x _) (.Constant (.int i) _ _) _)) _] => decide (i = 1) && ((match d.scope.kind with | .function => true | _ => false) && (!d.scope.isCoroutine && (!d.scope.isGenerator && (d.scope.names.all (fun y => decide (y.2 ≠ .cell)) && (decide (d.scope.names.lookup x = some .local) && (!(x == ("__debug__" : Str)) && decide (d.ps = [x])))))))
  | _ => false
def KeyD (L : Lw) (K : PySem.W.Frag) (g : Nat) : Prop := ∃ d x, d ∈ L.defs ∧ d.loc = .glo x ∧ L.gt.lookup x = some g ∧ L.G.cst g = none ∧ d.dfl = [] ∧ keyTx d = true ∧ ∀ f fd, FunD K d.name d.qual d.params d.body d.scope [] [] f fd → Binds K fd d.ps []
def KeysOk (L : Lw) (K : PySem.W.Frag) : List Nat → Prop
  | [] => True
  | g :: r => KeyD L K g ∧ KeysOk L K r
theorem KeysOk.mem {L : Lw} {K : PySem.W.Frag} : ∀ {l : List Nat}, KeysOk L K l → ∀ g ∈ l, KeyD L K g
  | [], _, d, h => by cases h
  | d :: r, h, e, he => by
    cases he with
    | head => exact h.1
    | tail _ he => exact KeysOk.mem h.2 e he
theorem nm_inj {names : List Str} (h : nameB names = true) : ∀ f g, nmL names f = nmL names g → f = g := by
  unfold nameB at h
  simp only [Bool.and_eq_true, decide_eq_true_eq, List.all_eq_true] at h
  obtain ⟨nd, hc⟩ := h
  have first : ∀ (n : Nat) (x : Str), x ∈ names → (⟨(List.replicate (n + 1) 0).toArray⟩ : Str) ≠ x := fun n x hx e => by
    have := hc x hx
    rw [← e] at this
    simp [List.replicate_succ] at this
  intro f g e
  unfold nmL at e
  cases hf : names[f]? with
  | some x =>
    rw [hf] at e
    cases hg : names[g]? with
    | some y =>
      rw [hg] at e
      simp only at e
      subst e
      obtain ⟨h1, e1⟩ := List.getElem?_eq_some_iff.mp hf
      obtain ⟨h2, e2⟩ := List.getElem?_eq_some_iff.mp hg
      exact (List.getElem_inj nd).mp (e1.trans e2.symm)
    | none =>
      rw [hg] at e
      exact absurd e.symm (first g x (List.mem_of_getElem? hf))
  | none =>
    rw [hf] at e
    cases hg : names[g]? with
    | some y =>
      rw [hg] at e
      exact absurd e (first f y (List.mem_of_getElem? hg))
    | none =>
      rw [hg] at e
      simp only [Str.mk.injEq] at e
      have := congrArg (fun a : Array Nat => a.size) e
      simpa using this
theorem lookup_mem {β : Type} {l : List (Str × β)} {x : Str} {b : β} (h : l.lookup x = some b) : (x, b) ∈ l := by
  induction l with
  | nil => cases h
  | cons p r ih =>
    obtain ⟨y, c⟩ := p
    rw [List.lookup_cons] at h
    split at h
    · rename_i e; cases h; rw [eq_of_beq e]; exact List.mem_cons_self
    · exact List.mem_cons_of_mem _ (ih h)
theorem lookup_memN {β : Type} {l : List (Nat × β)} {x : Nat} {b : β} (h : l.lookup x = some b) : (x, b) ∈ l := by
  induction l with
  | nil => cases h
  | cons p r ih =>
    obtain ⟨y, c⟩ := p
    rw [List.lookup_cons] at h
    split at h
    · rename_i e; cases h; rw [eq_of_beq e]; exact List.mem_cons_self
    · exact List.mem_cons_of_mem _ (ih h)
theorem gt_one {gt : List (Str × Nat)} (nd : (gt.map (·.2)).Nodup) {x : Str} {g : Nat} (h : gt.lookup x = some g) : gt.find? (fun p => p.2 == g) = some (x, g) := by
  have hm := lookup_mem h
  cases hf : gt.find? (fun p => p.2 == g) with
  | none =>
    have := List.find?_eq_none.mp hf (x, g) hm
    simp at this
  | some p =>
    have h1 := List.mem_of_find?_eq_some hf
    have h2 := List.find?_some hf
    simp only [beq_iff_eq] at h2
    obtain ⟨i, hi⟩ := List.mem_iff_getElem?.mp hm
    obtain ⟨j, hj⟩ := List.mem_iff_getElem?.mp h1
    have e1 : (gt.map (·.2))[i]? = some g := by rw [List.getElem?_map, hi]; rfl
    have e2 : (gt.map (·.2))[j]? = some g := by rw [List.getElem?_map, hj]; simp [h2]
    obtain ⟨l1, q1⟩ := List.getElem?_eq_some_iff.mp e1
    obtain ⟨l2, q2⟩ := List.getElem?_eq_some_iff.mp e2
    have := (List.getElem_inj nd).mp (q1.trans q2.symm)
    subst this
    rw [hi] at hj; cases hj; rfl
end Sv

set_option Elab.async false
set_option linter.all false
set_option maxRecDepth 100000
set_option maxHeartbeats 8000000
namespace Sv
open PySem PySem.Spec PyProof.Rows L2
def tyS : D → String
  | .non => "NoneType" | .bl _ => "bool" | .int _ => "int" | .str _ => "str" | .tup _ => "tuple" | .lst _ => "list" | .dct _ => "dict" | _ => ""
theorem kit_base (d : D) (b : BT) (r : Bool) (h : isT G d (.inl b) = some r) (hd : ∀ c fs, d ≠ .obj c fs) : ∀ K : PySem.W.Frag, PySem.W.kitOne K (.type (tyS d)) (.type (btS b)) = some r := by
  intro K
  cases d <;> first | exact absurd rfl (hd _ _) | (cases b <;> simp [isT] at h <;> (subst h; simp only [tyS]; exact kit_ty (by decide +kernel)))
section
variable {L : Lw} {K : PySem.W.Frag} {P : Program} {w : World} {mg : Str → Option Value} {base : Heap}
theorem cA_of {c : Nat} {A : Addr} (h : cAL L.clss K c = some A) : ∃ x q, (x, c, q) ∈ L.clss ∧ A = He.ga K x := by
  unfold cAL at h
  cases hf : L.clss.find? (fun p => p.2.1 == c) with
  | none => rw [hf] at h; cases h
  | some p =>
    rw [hf] at h; cases h
    have h1 := List.mem_of_find?_eq_some hf
    have h2 := List.find?_some hf
    simp only [beq_iff_eq] at h2
    obtain ⟨x, c', q⟩ := p
    subst h2
    exact ⟨x, q, h1, rfl⟩
theorem cls_one (hG : ∀ x c q, (x, c, q) ∈ L.clss → L.G.cls c = some q) (st : statB L = true) {x : Str} {c : Nat} {q : Cls} (h : (x, c, q) ∈ L.clss) : cAL L.clss K c = some (He.ga K x) := by
  unfold statB at st
  simp only [Bool.and_eq_true, decide_eq_true_eq, List.all_eq_true] at st
  obtain ⟨_, nd, _, hc⟩ := st
  cases hf : L.clss.find? (fun p => p.2.1 == c) with
  | none =>
    have := List.find?_eq_none.mp hf _ h
    simp at this
  | some p =>
    have h1 := List.mem_of_find?_eq_some hf
    have h2 := List.find?_some hf
    simp only [beq_iff_eq] at h2
    have e1 := hc _ h
    have e2 := hc _ h1
    unfold clsS at e1 e2
    simp only [Bool.and_eq_true, decide_eq_true_eq] at e1 e2
    have z1 := gt_one nd e1.1.1
    have z2 := gt_one nd e2.1.1
    rw [h2] at z2
    rw [z1] at z2
    simp only [Option.some.injEq, Prod.mk.injEq] at z2
    unfold cAL
    rw [hf]
    simp [z2.1]
theorem isi_ok (hG : ∀ x c q, (x, c, q) ∈ L.clss → L.G.cls c = some q) (hG2 : ∀ c q, L.G.cls c = some q → ∃ x, (x, c, q) ∈ L.clss) (st : statB L = true) (fa : factB L K = true) (d : D) (t : Sum BT Nat) (b : Bool) (F : Hp) (ρ : List Addr) (wd : Sv.W) (H : Hp) (v : V)
    (k : WOk (L.T K P w mg base).C F ρ wd H) (r : Rep (L.T K P w mg base).C F ρ d v) (h : isT L.G d t = some b) : ∃ ty, TyX K H v ty ∧ PySem.W.kitOne K ty ((L.T K P w mg base).tv t) = some b ∧ (∀ t' b', isT L.G d t' = some b' → PySem.W.kitOne K ty ((L.T K P w mg base).tv t') = some b') := by
  have key : ∀ ty : Value, (∀ t' b', isT L.G d t' = some b' → PySem.W.kitOne K ty ((L.T K P w mg base).tv t') = some b') → TyX K H v ty → ∃ ty, TyX K H v ty ∧ PySem.W.kitOne K ty ((L.T K P w mg base).tv t) = some b ∧ (∀ t' b', isT L.G d t' = some b' → PySem.W.kitOne K ty ((L.T K P w mg base).tv t') = some b') :=
    fun ty h1 h2 => ⟨ty, h2, h1 t b h, h1⟩
  unfold factB at fa
  simp only [Bool.and_eq_true, List.all_eq_true] at fa
  obtain ⟨_, _, fc, _⟩ := fa
  have base_ : (∀ c fs, d ≠ .obj c fs) → tyS d ∈ tyNames → ∀ t' b', isT L.G d t' = some b' → PySem.W.kitOne K (.type (tyS d)) ((L.T K P w mg base).tv t') = some b' := fun hd hm t' b' h' => by
    cases t' with
    | inl bt => exact kit_base d bt b' h' hd K
    | inr g =>
      simp only [isT] at h'
      split at h'
      · cases h'
      · rename_i hg
        have hb : b' = false := by
          cases d <;> first | exact absurd rfl (hd _ _) | (simp at h' <;> first | exact h' | exact h'.symm)
        subst hb
        cases hq : L.G.cls g with
        | none => rw [hq] at hg; exact absurd rfl hg
        | some q2 =>
          obtain ⟨x, hx⟩ := hG2 g q2 hq
          show PySem.W.kitOne K (.type (tyS d)) (match cAL L.clss K g with | some a => .ref a | none => .none) = some false
          rw [cls_one hG st hx]
          have hc := fc _ hx
          unfold clsB at hc
          simp only [Bool.and_eq_true, List.all_eq_true, decide_eq_true_eq] at hc
          exact hc.2.2.2.2.2.2 _ hm
  cases r with
  | non => exact key _ (base_ (fun _ _ z => nomatch z) (by simp [tyS, tyNames])) (.base .non)
  | bl x => exact key _ (base_ (fun _ _ z => nomatch z) (by simp [tyS, tyNames])) (.base (.bl _))
  | int i => exact key _ (base_ (fun _ _ z => nomatch z) (by simp [tyS, tyNames])) (.base (.int _))
  | str s => exact key _ (base_ (fun _ _ z => nomatch z) (by simp [tyS, tyNames])) (.base (.str _))
  | tup hs rs =>
    refine key _ (base_ (fun _ _ z => nomatch z) (by simp [tyS, tyNames])) ?_
    have hs := k.sqT hs
    rcases hs with (hs | ⟨o, hs⟩) | ⟨o, its, n, hk, hc, _⟩
    · exact .base (.tup hs)
    · exact .fTuple hs
    · exact .kTuple hk hc
  | lst hs rs => exact key _ (base_ (fun _ _ z => nomatch z) (by simp [tyS, tyNames])) (.base (.lst (k.frz _ _ hs)))
  | dct hs rs => exact key _ (base_ (fun _ _ z => nomatch z) (by simp [tyS, tyNames])) (.fDict (k.frz _ _ hs))
  | scr hs => cases t <;> simp [isT] at h
  | cel hs => cases t <;> simp [isT] at h
  | glo hs => cases t <;> simp [isT] at h
  | @obj cn A a dx fs es hA hs rf =>
    obtain ⟨x, q0, hm, rfl⟩ := cA_of hA
    have hq := hG x cn q0 hm
    have hc := fc _ hm
    unfold clsB at hc
    simp only [Bool.and_eq_true, List.all_eq_true] at hc
    obtain ⟨c1, _, _, _, _, ci, _⟩ := hc
    unfold isiB at ci
    simp only [Bool.and_eq_true, decide_eq_true_eq, List.all_eq_true] at ci
    obtain ⟨i1, i2, i3, i4, i5, i6⟩ := ci
    refine key (.ref (He.ga K x)) (fun t' b' h' => ?_) (.base (.ins (k.frz _ _ hs) (He.cls_ok c1) i3 i4 i5 i6))
    cases t' with
    | inl bt =>
      simp only [isT, hq, Option.map_some, Option.some.injEq] at h'
      subst h'
      exact i1 bt (mem_allBT bt)
    | inr g =>
      simp only [isT] at h'
      split at h'
      · cases h'
      · rename_i hg
        simp only [hq, Option.map_some, Option.some.injEq] at h'
        subst h'
        cases hq2 : L.G.cls g with
        | none => rw [hq2] at hg; exact absurd rfl hg
        | some q2 =>
          obtain ⟨x2, hx2⟩ := hG2 g q2 hq2
          show PySem.W.kitOne K (.ref (He.ga K x)) (match cAL L.clss K g with | some a => .ref a | none => .none) = _
          rw [cls_one hG st hx2]
          exact i2 _ hx2
theorem isis_ok (hG : ∀ x c q, (x, c, q) ∈ L.clss → L.G.cls c = some q) (hG2 : ∀ c q, L.G.cls c = some q → ∃ x, (x, c, q) ∈ L.clss) (st : statB L = true) (fa : factB L K = true) (d : D) (ts : List (Sum BT Nat)) (b : Bool) (F : Hp) (ρ : List Addr) (wd : Sv.W) (H : Hp) (v : V)
    (k : WOk (L.T K P w mg base).C F ρ wd H) (r : Rep (L.T K P w mg base).C F ρ d v) (h : isTs L.G d ts = some b) (hne : ts ≠ []) : ∃ t, TyX K H v t ∧ PySem.W.kitAny K t (ts.map (L.T K P w mg base).tv) = some b := by
  cases ts with
  | nil => exact absurd rfl hne
  | cons t0 ts0 =>
    have h0 : ∃ b0, isT L.G d t0 = some b0 := by
      simp only [isTs] at h
      cases e : isT L.G d t0 with
      | none => rw [e] at h; cases h
      | some b0 => exact ⟨b0, rfl⟩
    obtain ⟨b0, h0⟩ := h0
    obtain ⟨ty, h1, _, h3⟩ := isi_ok hG hG2 st fa d t0 b0 F ρ wd H v k r h0
    refine ⟨ty, h1, ?_⟩
    clear h0 hne
    generalize t0 :: ts0 = l at h
    induction l generalizing b with
    | nil => simp only [isTs] at h; exact h
    | cons t l ih =>
      simp only [isTs] at h
      cases e : isT L.G d t with
      | none => rw [e] at h; cases h
      | some b1 =>
        rw [e] at h
        show PySem.W.kitAny K ty ((L.T K P w mg base).tv t :: l.map (L.T K P w mg base).tv) = some b
        unfold PySem.W.kitAny
        rw [h3 t b1 e]
        cases b1 with
        | true => exact h
        | false => exact ih b h
end
end Sv

set_option Elab.async false
set_option linter.all false
set_option maxRecDepth 100000
set_option maxHeartbeats 8000000
namespace Sv
open PySem PySem.Spec PyProof.Rows L2
def AllD (p : DD → Prop) : List DD → Prop
  | [] => True
  | d :: r => p d ∧ AllD p r
theorem AllD.mem {p : DD → Prop} : ∀ {l : List DD}, AllD p l → ∀ d ∈ l, p d
  | [], _, d, h => by cases h
  | d :: r, h, e, he => by
    cases he with
    | head => exact h.1
    | tail _ he => exact AllD.mem h.2 e he
def AllS (p : Nat → List Nat → Prop) : List (Nat × List Nat) → Prop
  | [] => True
  | s :: r => p s.1 s.2 ∧ AllS p r
theorem AllS.mem {p : Nat → List Nat → Prop} : ∀ {l : List (Nat × List Nat)}, AllS p l → ∀ n k, (n, k) ∈ l → p n k
  | [], _, _, _, h => by cases h
  | s :: r, h, n, k, he => by
    cases he with
    | head => exact h.1
    | tail _ he => exact AllS.mem h.2 n k he
structure DefOk (L : Lw) (T : Tb) (d : DD) : Prop where
  ex : ∃ fn : Fn, L.G.fn d.g = some fn ∧ FnScope d.N d.ps d.scope ∧ d.N.length = fn.nloc ∧ d.ps.length = fn.np ∧ psL L.defs d.g = d.ps ∧ chkSs T ⟨d.N, d.scope, fun _ => true, true⟩ fn.body d.body = true ∧
    ∀ f fd, FunD T.C.K d.name d.qual d.params d.body d.scope (d.dfl.map (He.Dv.v T.C.K)) [] f fd → AllS (fun n kwi => BindOk T fn fd d.ps n kwi) d.shapes
section
variable {L : Lw} {K : PySem.W.Frag} {P : Program} {w : World} {mg : Str → Option Value} {base h : Heap}
theorem tbOk (hrep : GRep L.G) (hG : ∀ x c q, (x, c, q) ∈ L.clss → L.G.cls c = some q) (hG2 : ∀ c q, L.G.cls c = some q → ∃ x, (x, c, q) ∈ L.clss) (st : statB L = true) (inK : K.In h) (nsM : h.Ns mainGlobals mg) (fa : factB L K = true) (fns : ∀ d ∈ L.defs, fnA K (d.loc.ad K) = d.val) (keys : KeysOk L K L.keys) {k : Nat}
    (calls : ∀ d ∈ L.defs, ∀ n kwi, (n, kwi) ∈ d.shapes → CallV (L.T K P w mg base) k d.g (d.loc.ad K) n kwi) : TbOk (L.T K P w mg base) k := by
  have st0 := st
  have fa0 := fa
  unfold statB at st
  simp only [Bool.and_eq_true, decide_eq_true_eq, List.all_eq_true] at st
  obtain ⟨sn, snd, ssh, scl⟩ := st
  unfold factB at fa
  simp only [Bool.and_eq_true, List.all_eq_true] at fa
  obtain ⟨fg, fb, fc, fdd⟩ := fa
  have gvEq : ∀ {x : Str} {g : Nat}, L.gt.lookup x = some g → gvL L.gt K g = some (.ref (He.ga K x)) := fun {x g} hl => by
    unfold gvL; rw [gt_one snd hl]; rfl
  have cAEq : ∀ {x : Str} {c : Nat} {q : Cls}, (x, c, q) ∈ L.clss → cAL L.clss K c = some (He.ga K x) := fun h => cls_one hG st0 h
  refine ⟨⟨fun g v hv => ?_⟩, hrep, nm_inj sn, fun x g d hl hc => ?_, fun x g hl hc hs => ?_, fun x hx => He.free_ok inK nsM (fb x hx), fun x g n kws hl hm => ?_, fun c q hq => ?_, fun x g hl hk => ?_, fun d ts b F ρ wd H v k0 r hne hi => isis_ok hG hG2 st0 fa0 d ts b F ρ wd H v k0 r hi hne⟩
  · have hv : gvL L.gt K g = some v := hv
    unfold gvL at hv
    cases hf : L.gt.find? (fun p => p.2 == g) with
    | none => rw [hf] at hv; cases hv
    | some p => rw [hf] at hv; cases hv; exact fun z => nomatch z
  · have hm := fg (x, g) (lookup_mem hl)
    simp only at hm
    have hc : L.G.cst g = some d := hc
    rw [hc] at hm
    cases d with
    | int i =>
      obtain ⟨t, e⟩ := He.int_ok inK nsM hm
      exact ⟨_, .int i, e, ⟨t, rfl⟩, fun F ρ => .int i⟩
    | str s =>
      obtain ⟨t, e⟩ := He.str_ok inK nsM hm
      exact ⟨_, .str (toStr s), e, ⟨t, rfl⟩, fun F ρ => .str s⟩
    | tup ds =>
      simp only [cstB, Bool.and_eq_true] at hm
      obtain ⟨h1, h2⟩ := hm
      cases hd : dvsOf ds with
      | none => rw [hd] at h2; cases h2
      | some l =>
        rw [hd] at h2
        refine ⟨_, .ref (He.ga K x), He.glo_ok inK nsM h1, rfl, fun F ρ => .tup (He.tupB_ok h2 F) ?_⟩
        have key : ∀ (ds : List D) (l : List He.Dv), dvsOf ds = some l → Reps (L.T K P w mg base).C F ρ ds (l.map (He.Dv.v K)) := by
          intro ds
          induction ds with
          | nil => intro l e; simp only [dvsOf, Option.some.injEq] at e; subst e; exact .nil
          | cons d ds ih =>
            intro l e
            simp only [dvsOf] at e
            split at e
            · rename_i a b' ha hb
              cases e
              refine .cons ?_ (ih b' hb)
              cases d <;> simp only [dvOf, Option.some.injEq, reduceCtorEq] at ha <;> subst ha
              · exact .non
              · exact .bl _
              · exact .int _
              · exact .str _
            · cases e
        exact key ds l hd
    | _ => cases hm
  · have hm := fg (x, g) (lookup_mem hl)
    simp only at hm
    have hc : L.G.cst g = none := hc
    rw [hc] at hm
    exact ⟨_, He.glo_ok inK nsM hm, gvEq hl⟩
  · have hs := ssh
    unfold shB at hs
    simp only [List.all_eq_true, List.any_eq_true, Bool.and_eq_true, decide_eq_true_eq] at hs
    obtain ⟨e0, d, hd, e1, e2, e3⟩ := hs (g, n, kws) hm
    cases hloc : d.loc with
    | glo y =>
      rw [hloc] at e3
      simp only [decide_eq_true_eq] at e3
      have z1 := gt_one snd hl
      have z2 := gt_one snd e3
      rw [z1] at z2
      simp only [Option.some.injEq, Prod.mk.injEq, and_true] at z2
      subst z2
      have hk := fdd d hd
      unfold DD.ok at hk
      simp only [Bool.and_eq_true] at hk
      rw [hloc] at hk
      have cv := calls d hd n kws e2
      rw [hloc, e1] at cv
      have hgm := fg (x, g) (lookup_mem hl)
      simp only [Option.isNone_iff_eq_none] at e0
      simp only [e0] at hgm
      exact ⟨He.ga K x, He.glo_ok inK nsM hgm, hk.1, cv⟩
    | meth C m => rw [hloc] at e3; cases e3
    | prop C m => rw [hloc] at e3; cases e3
  · obtain ⟨x, hx⟩ := hG2 c q hq
    have hsx := scl _ hx
    unfold clsS at hsx
    simp only [Bool.and_eq_true, decide_eq_true_eq, List.all_eq_true, List.any_eq_true] at hsx
    obtain ⟨⟨s1, s0⟩, s2, s3, s4⟩ := hsx
    have hfx := fc _ hx
    unfold clsB at hfx
    simp only [Bool.and_eq_true, List.all_eq_true] at hfx
    obtain ⟨f1, f2, f3, f4, f5, _, _⟩ := hfx
    refine ⟨He.ga K x, cAEq hx, fun y hy => ?_, ⟨He.cls_ok f1, fun f hf hp hm => ?_, fun f g hl => ?_, fun m g n kws hl hmh => ?_, fun g n kws hi hmh => ?_⟩⟩
    · have z1 := gt_one snd hy
      have z2 := gt_one snd s1
      rw [z1] at z2
      simp only [Option.some.injEq, Prod.mk.injEq, and_true] at z2
      subst z2
      have hgm := fg (y, c) (lookup_mem hy)
      simp only [Option.isNone_iff_eq_none] at s0
      simp only [s0] at hgm
      exact He.glo_ok inK nsM hgm
    · have := f2 f hf
      rw [hp, hm] at this
      simp only [Option.isSome_none, Bool.false_or] at this
      exact He.noat_ok this
    · have hmem := lookup_memN hl
      obtain ⟨d, hd, e1, e2, e3⟩ := s2 (f, g) hmem
      have hp := f3 (f, g) hmem
      unfold propB at hp
      simp only [Bool.and_eq_true, decide_eq_true_eq] at hp
      obtain ⟨p1, p2, p3, p4⟩ := hp
      have cv := calls d hd 1 [] e2
      rw [e1, e3] at cv
      refine ⟨He.ma K (He.ga K x) (nmL L.names f), _, ⟨He.eqO_ok p1, p2, p3, ?_⟩, cv⟩
      split at p4
      · rename_i g0 rest hr
        refine ⟨rest, ?_⟩
        show PySem.W.recIn K _ "property" = some (.ref (propAd K (He.ma K (He.ga K x) (nmL L.names f))) :: rest)
        rw [hr]; unfold propAd; rw [hr]
      · cases p4
    · have hmem := lookup_memN hl
      have hs3 := s3 (m, g) hmem (g, n, kws) hmh
      simp only [Bool.or_eq_true, decide_eq_true_eq, List.any_eq_true, Bool.and_eq_true, ne_eq, not_true_eq_false, false_or] at hs3
      obtain ⟨d, hd, e1, e2, e3⟩ := hs3
      have cv := calls d hd n kws e2
      rw [e1, e3] at cv
      exact ⟨_, He.meth_ok (f4 (m, g) hmem), cv⟩
    · rw [hi] at s4 f5
      simp only [List.all_eq_true] at s4
      have hs4 := s4 (g, n, kws) hmh
      simp only [Bool.or_eq_true, decide_eq_true_eq, List.any_eq_true, Bool.and_eq_true, ne_eq, not_true_eq_false, false_or] at hs4
      obtain ⟨d, hd, e1, e2, e3⟩ := hs4
      have cv := calls d hd n kws e2
      rw [e1, e3] at cv
      exact ⟨_, He.mkr_ok f5, cv⟩
  · obtain ⟨d, y, hd, hloc, hy, hcst, hdfl, htx, hb⟩ := keys.mem g hk
    have z1 := gt_one snd hl
    have z2 := gt_one snd hy
    rw [z1] at z2
    simp only [Option.some.injEq, Prod.mk.injEq, and_true] at z2
    subst z2
    have hgm := fg (x, g) (lookup_mem hl)
    simp only [hcst] at hgm
    obtain ⟨fd, Fd⟩ := DD.funD (fns d hd) (fdd d hd)
    rw [hdfl, hloc] at Fd
    refine ⟨He.ga K x, He.glo_ok inK nsM hgm, ⟨?_⟩⟩
    have hb := hb _ fd Fd
    unfold keyTx at htx
    split at htx
    · rename_i n p1 i kd p2 p3 p4 hbody
      simp only [Bool.and_eq_true, decide_eq_true_eq, Bool.not_eq_true', List.all_eq_true] at htx
      obtain ⟨rfl, h1, h2, h3, h4, h5, h6, h7⟩ := htx
      rw [h7] at hb
      refine ⟨_, _, _, _, _, fd, n, p1, p2, p3, p4, kd, Fd, hbody, ?_, h2, h3, h4, h5, h6, hb⟩
      cases e : d.scope.kind <;> rw [e] at h1 <;> first | rfl | cases h1
    · cases htx
theorem call_zero {T : Tb} {g : Nat} {f : Addr} {n : Nat} {kwi : List Nat} : CallV T 0 g f n kwi := by
  intro A outer s H us ws vs zs Q E hr hg e0 rv rz l1 l2 ⟨F, ρ, wd, ds, es, k0, rd, re, hres⟩
  exfalso
  unfold callF at hres
  split at hres
  · exact hres
  · split at hres
    · exact hres
    · exact hres
theorem callsOk (hrep : GRep L.G) (hG : ∀ x c q, (x, c, q) ∈ L.clss → L.G.cls c = some q) (hG2 : ∀ c q, L.G.cls c = some q → ∃ x, (x, c, q) ∈ L.clss) (st : statB L = true) (inK : K.In h) (nsM : h.Ns mainGlobals mg) (fa : factB L K = true) (fns : ∀ d ∈ L.defs, fnA K (d.loc.ad K) = d.val) (keys : KeysOk L K L.keys)
    (defs : AllD (DefOk L (L.T K P w mg base)) L.defs) : ∀ k, ∀ d ∈ L.defs, ∀ n kwi, (n, kwi) ∈ d.shapes → CallV (L.T K P w mg base) k d.g (d.loc.ad K) n kwi
  | 0, _, _, _, _, _ => call_zero
  | k + 1, d, hd, n, kwi, hsh => by
    have ih := callsOk hrep hG hG2 st inK nsM fa fns keys defs k
    have tb := tbOk (P := P) (w := w) (base := base) hrep hG hG2 st inK nsM fa fns keys ih
    obtain ⟨fn, h1, h2, h3, h4, h5, h6, h7⟩ := (defs.mem d hd).ex
    have fa0 := fa
    unfold factB at fa
    simp only [Bool.and_eq_true, List.all_eq_true] at fa
    obtain ⟨fd, F⟩ := DD.funD (fns d hd) (fa.2.2.2 d hd)
    exact body_ok F h2 h3 h4 h5 h1 tb h6 ((h7 _ fd F).mem n kwi hsh)
end
end Sv

set_option Elab.async false
set_option linter.all false
set_option maxRecDepth 100000
set_option maxHeartbeats 8000000
namespace Sv
open PySem PySem.Spec PyProof.Rows L2
def obsS (L : Lw) (K : PySem.W.Frag) : He.AlD := (factB L K, L.defs.map fun d => fnA K (d.loc.ad K))
def valS (L : Lw) : He.AlD := (true, L.defs.map DD.val)
def obsSG (n : Nat) (L : Lw) (g : Addr → Option Obj) : He.AlD := obsS L (He.frG g (He.asD g n))
def hookS (n : Nat) (L : Lw) : PySem.W.Hook where
  α := He.AlD
  obs := fun s => obsSG n L s.heap.get?
  val := fun _ => valS L
  says := fun _ h => ∃ K : PySem.W.Frag, K.In h ∧ obsS L K = valS L
  of := fun _ _ e => ⟨_, He.frG_in, e⟩
  keeps := fun _ _ _ ⟨K, inK, c⟩ kp => ⟨K, PySem.W.Frag.In.keeps inK kp, c⟩
theorem says_fns {L : Lw} {K : PySem.W.Frag} (h : obsS L K = valS L) : factB L K = true ∧ ∀ d ∈ L.defs, fnA K (d.loc.ad K) = d.val := by
  unfold obsS valS at h
  obtain ⟨h1, h2⟩ := Prod.mk.inj h
  refine ⟨h1, fun d hd => ?_⟩
  generalize L.defs = l at h2 hd
  induction l with
  | nil => cases hd
  | cons e r ih =>
    simp only [List.map_cons, List.cons.injEq] at h2
    cases hd with
    | head => exact h2.1
    | tail _ hd => exact ih h2.2 hd
theorem lawEnd {L : Lw} {P : Program} {k n : Nat} {dl : DD} {x : Str} (hrep : GRep L.G) (hG : ∀ x c q, (x, c, q) ∈ L.clss → L.G.cls c = some q) (hG2 : ∀ c q, L.G.cls c = some q → ∃ x, (x, c, q) ∈ L.clss) (st : statB L = true)
    (defs : ∀ (K : PySem.W.Frag) (w : World) (mg : Str → Option Value) (base : Heap), AllD (DefOk L (L.T K P w mg base)) L.defs) (hdl : dl ∈ L.defs) (hloc : dl.loc = .glo x) (hx : L.gt.lookup x = some dl.g) (hcst : L.G.cst dl.g = none) (hsh : (1, []) ∈ dl.shapes) (hr : Room (2 * k) callerA)
    (keys : ∀ K : PySem.W.Frag, KeysOk L K L.keys) (good : ∀ ns : List Int, ns.length ≤ n → ∃ w', callF L.G (run L.G k) dl.g [.scr ns] [] [] [] = .ok (.bl true) w')
    {w : World} {mg : Str → Option Value} {fa : Addr} {h : Heap} (Y : ∃ K : PySem.W.Frag, K.In h ∧ obsS L K = valS L) (nsM : h.Ns mainGlobals mg) (hmg : mg x = some (.ref fa)) :
    ∃ K : PySem.W.Frag, K.In h ∧ ∀ base : Heap, K.In base → base.Ns mainGlobals mg → ∀ (st : Shared) (H : Hp) (scr : Addr) (ns : List Int), ns.length ≤ n → Env0 P w K mg base callerA [] st H → SqL K H scr (ns.map V.int) →
      codeAny (model P w) callerA (.call (.ref fa) ⟨[.ref scr], []⟩) (CR (L2.CX P w) [] P w H st (fun v _ => v = .bl true) fun _ _ _ => False) st := by
  obtain ⟨K, inK, says⟩ := Y
  obtain ⟨fact, fns⟩ := says_fns says
  refine ⟨K, inK, fun base inB nsB s H scr ns hl e0 sq => ?_⟩
  have fact0 := fact
  unfold factB at fact
  simp only [Bool.and_eq_true, List.all_eq_true] at fact
  have hg := fact.1 (x, dl.g) (lookup_mem hx)
  simp only [hcst] at hg
  have e := hmg.symm.trans (He.glo_ok inK nsM hg)
  simp only [Option.some.injEq, Value.ref.injEq] at e
  subst e
  have cv := callsOk (P := P) (w := w) (base := base) hrep hG hG2 st inK nsM fact0 fns (keys K) (defs K w mg base) k dl hdl 1 [] hsh
  rw [hloc] at cv
  obtain ⟨w', hw'⟩ := good ns hl
  refine cv callerA [] s H [.ref scr] [] [.ref scr] [] (fun v _ => v = .bl true) (fun _ _ _ => False) hr rfl e0 (.cons rfl .nil) .nil rfl rfl ⟨H, [], [], [.scr ns], [], ?_, .cons (.scr sq) .nil, .nil, ?_⟩
  · exact ⟨fun _ _ z => z, rfl, List.nodup_nil, fun i a c z => by simp at z, fun i a z => by simp at z⟩
  · show Res _ (Rep _) (fun cl dd _ H => False) H [] (callF L.G (run L.G k) dl.g [.scr ns] [] [] []) [] _
    rw [hw']
    intro F' ρ' H' v _ _ rv
    cases rv
    rfl
end Sv

set_option Elab.async false
set_option linter.all false
set_option maxRecDepth 100000
set_option maxHeartbeats 8000000
namespace Sv
open PySem PySem.Spec PyProof.Rows L2
def pick : List Obj → Bool → List Obj
  | [], _ => []
  | x :: r, true => x :: pick r false
  | _ :: r, false => pick r true
theorem pick_get (l : List Obj) : ∀ i, (pick l true)[i]? = l[2 * i]? ∧ (pick l false)[i]? = l[2 * i + 1]? := by
  induction l with
  | nil => intro i; exact ⟨by simp [pick], by simp [pick]⟩
  | cons x r ih =>
    intro i
    refine ⟨?_, ?_⟩
    · show (x :: pick r false)[i]? = _
      cases i with
      | zero => rfl
      | succ j => rw [List.getElem?_cons_succ, (ih j).2, show 2 * (j + 1) = (2 * j + 1) + 1 by omega, List.getElem?_cons_succ]
    · show (pick r true)[i]? = _
      rw [(ih i).1, List.getElem?_cons_succ]
inductive Tr where
  | lf (l : List Obj) | nd (a b : Tr)
def tr : Nat → List Obj → Tr
  | 0, l => .lf l
  | n + 1, l => .nd (tr n (pick l true)) (tr n (pick l false))
def Tr.at_ : Tr → Nat → Option Obj
  | .lf l, i => l[i]?
  | .nd a b, i => match Nat.beq (i % 2) 0 with | true => a.at_ (i / 2) | false => b.at_ (i / 2)
theorem tr_at : ∀ (n : Nat) (l : List Obj) (i : Nat), (tr n l).at_ i = l[i]?
  | 0, l, i => rfl
  | n + 1, l, i => by
    show (match Nat.beq (i % 2) 0 with | true => (tr n (pick l true)).at_ (i / 2) | false => (tr n (pick l false)).at_ (i / 2)) = _
    rw [tr_at, tr_at, (pick_get l _).1, (pick_get l _).2]
    cases h : Nat.beq (i % 2) 0 with
    | true => have := Nat.eq_of_beq_eq_true h; show l[2 * (i / 2)]? = _; congr 1; omega
    | false => have := Nat.ne_of_beq_eq_false h; show l[2 * (i / 2) + 1]? = _; congr 1; omega
def lk (t : Tr) (a : Addr) : Option Obj := match t.at_ a with
  | some ⟨_, _, .freed, _⟩ => none
  | o => o
theorem lk_eq (n : Nat) (h : Heap) : lk (tr n h.objs.toList) = h.get? := by
  funext a
  unfold lk Heap.get?
  rw [tr_at, Array.getElem?_toList]
  cases h.objs[a]? with
  | none => rfl
  | some o => obtain ⟨c, d, t, sl⟩ := o; cases t <;> rfl
def fnsL (K : PySem.W.Frag) : List DD → List He.FnW
  | [] => []
  | d :: r => fnA K (d.loc.ad K) :: fnsL K r
def valsL : List DD → List He.FnW
  | [] => []
  | d :: r => d.val :: valsL r
theorem fnsL_eq (K : PySem.W.Frag) : ∀ l, fnsL K l = l.map fun d => fnA K (d.loc.ad K)
  | [] => rfl
  | d :: r => by unfold fnsL; rw [fnsL_eq K r]; rfl
theorem valsL_eq : ∀ l, valsL l = l.map DD.val
  | [] => rfl
  | d :: r => by unfold valsL; rw [valsL_eq r]; rfl
def obsT (L : Lw) (K : PySem.W.Frag) : He.AlD := (factB L K, fnsL K L.defs)
def obsTG (n : Nat) (L : Lw) (g : Addr → Option Obj) : He.AlD := obsT L (He.frG g (List.range n))
def hookT (L : Lw) : PySem.W.Hook where
  α := He.AlD
  obs := fun s => obsTG s.heap.objs.size L (lk (tr 9 s.heap.objs.toList))
  val := fun _ => (true, valsL L.defs)
  says := fun _ h => ∃ K : PySem.W.Frag, K.In h ∧ obsS L K = valS L
  of := fun _ s e => by
    rw [lk_eq] at e
    refine ⟨He.frG s.heap.get? (List.range s.heap.objs.size), He.frG_in, ?_⟩
    unfold obsTG obsT at e
    unfold obsS valS
    rw [← fnsL_eq, ← valsL_eq]
    exact e
  keeps := fun _ _ _ ⟨K, inK, c⟩ kp => ⟨K, PySem.W.Frag.In.keeps inK kp, c⟩
def hookU (L : Lw) : PySem.W.Hook where
  α := He.AlD
  obs := fun s => obsTG s.heap.objs.size L s.heap.get?
  val := fun _ => (true, valsL L.defs)
  says := fun _ h => ∃ K : PySem.W.Frag, K.In h ∧ obsS L K = valS L
  of := fun _ s e => by
    refine ⟨He.frG s.heap.get? (List.range s.heap.objs.size), He.frG_in, ?_⟩
    unfold obsTG obsT at e
    unfold obsS valS
    rw [← fnsL_eq, ← valsL_eq]
    exact e
  keeps := fun _ _ _ ⟨K, inK, c⟩ kp => ⟨K, PySem.W.Frag.In.keeps inK kp, c⟩
theorem obsU_eq {L : Lw} (s : PySem.W.SharedT) : obsTG s.n L (HandSHeadRun.getT s) = (hookU L).obs s.abs := by
  have e : HandSHeadRun.getT s = s.abs.heap.get? := funext (HandSHeadRun.getT_eq s)
  have en : s.abs.heap.objs.size = s.n := PySem.W.absHeap_size s.tree s.n s.life
  show _ = obsTG s.abs.heap.objs.size L s.abs.heap.get?
  rw [e, en]
end Sv

set_option Elab.async false
set_option linter.all false
set_option maxRecDepth 100000
namespace Sv
universe u
structure Tag {γ : Sort u} (f : γ) : Type where
def bnd {α β : Type} (x : R α) (f : α → W → R β) (_ : Tag f) : R β := x.bind f
def too {α : Type} (x : R α) (env : Env) (f : α → W → O) (_ : Tag f) (_ : Tag env) : O := x.to env f
def sqn (x : O) (f : Env → W → O) (_ : Tag f) : O := x.seq f
def els {α β : Type} (x : Option α) (b : β) (f : α → β) (_ : Tag f) : β := x.elim b f
def sel {α : Type} (b : Bool) (x y : α) (_ : Tag x) (_ : Tag y) : α := if b then x else y
@[simp ↓] theorem bnd_ok {α β : Type} (a : α) (w : W) (f : α → W → R β) (t : Tag f) : bnd (.ok a w) f t = f a w := Eq.trans rfl rfl
@[simp ↓] theorem bnd_bad {α β : Type} (f : α → W → R β) (t : Tag f) : bnd .bad f t = .bad := Eq.trans rfl rfl
@[simp ↓] theorem bnd_exc {α β : Type} (e : D) (w : W) (f : α → W → R β) (t : Tag f) : bnd (.exc e w) f t = .exc e w := Eq.trans rfl rfl
@[simp ↓] theorem too_ok {α : Type} (a : α) (w : W) (env : Env) (f : α → W → O) (t : Tag f) (u : Tag env) : too (.ok a w) env f t u = f a w := Eq.trans rfl rfl
@[simp ↓] theorem too_exc {α : Type} (e : D) (w : W) (env : Env) (f : α → W → O) (t : Tag f) (u : Tag env) : too (.exc e w) env f t u = .exc e env w := Eq.trans rfl rfl
@[simp ↓] theorem sqn_next (env : Env) (w : W) (f : Env → W → O) (t : Tag f) : sqn (.next env w) f t = f env w := Eq.trans rfl rfl
@[simp ↓] theorem sqn_ret (d : D) (w : W) (f : Env → W → O) (t : Tag f) : sqn (.ret d w) f t = .ret d w := Eq.trans rfl rfl
@[simp ↓] theorem sqn_brk (env : Env) (w : W) (f : Env → W → O) (t : Tag f) : sqn (.brk env w) f t = .brk env w := Eq.trans rfl rfl
@[simp ↓] theorem sqn_cnt (env : Env) (w : W) (f : Env → W → O) (t : Tag f) : sqn (.cnt env w) f t = .cnt env w := Eq.trans rfl rfl
@[simp ↓] theorem sqn_exc (e : D) (env : Env) (w : W) (f : Env → W → O) (t : Tag f) : sqn (.exc e env w) f t = .exc e env w := Eq.trans rfl rfl
@[simp ↓] theorem els_some {α β : Type} (a : α) (b : β) (f : α → β) (t : Tag f) : els (some a) b f t = f a := Eq.trans rfl rfl
@[simp ↓] theorem els_none {α β : Type} (b : β) (f : α → β) (t : Tag f) : els none b f t = b := Eq.trans rfl rfl
@[simp ↓] theorem sel_true {α : Type} (x y : α) (t : Tag x) (u : Tag y) : sel true x y t u = x := Eq.trans rfl rfl
@[simp ↓] theorem sel_false {α : Type} (x y : α) (t : Tag x) (u : Tag y) : sel false x y t u = y := Eq.trans rfl rfl
@[simp ↓] theorem lift_some {α : Type} (a : α) (w : W) : R.lift (some a) w = .ok a w := Eq.trans rfl rfl
-- the same once more, behind the arguments
@[simp] theorem bnd_ok' {α β : Type} (a : α) (w : W) (f : α → W → R β) (t : Tag f) : bnd (.ok a w) f t = f a w := Eq.trans rfl rfl
@[simp] theorem too_ok' {α : Type} (a : α) (w : W) (env : Env) (f : α → W → O) (t : Tag f) (u : Tag env) : too (.ok a w) env f t u = f a w := Eq.trans rfl rfl
@[simp] theorem too_exc' {α : Type} (e : D) (w : W) (env : Env) (f : α → W → O) (t : Tag f) (u : Tag env) : too (.exc e w) env f t u = .exc e env w := Eq.trans rfl rfl
@[simp] theorem bnd_exc' {α β : Type} (e : D) (w : W) (f : α → W → R β) (t : Tag f) : bnd (.exc e w) f t = .exc e w := Eq.trans rfl rfl
@[simp] theorem sqn_next' (env : Env) (w : W) (f : Env → W → O) (t : Tag f) : sqn (.next env w) f t = f env w := Eq.trans rfl rfl
@[simp] theorem sqn_ret' (d : D) (w : W) (f : Env → W → O) (t : Tag f) : sqn (.ret d w) f t = .ret d w := Eq.trans rfl rfl
@[simp] theorem sqn_brk' (env : Env) (w : W) (f : Env → W → O) (t : Tag f) : sqn (.brk env w) f t = .brk env w := Eq.trans rfl rfl
@[simp] theorem sqn_cnt' (env : Env) (w : W) (f : Env → W → O) (t : Tag f) : sqn (.cnt env w) f t = .cnt env w := Eq.trans rfl rfl
@[simp] theorem sqn_exc' (e : D) (env : Env) (w : W) (f : Env → W → O) (t : Tag f) : sqn (.exc e env w) f t = .exc e env w := Eq.trans rfl rfl
@[simp] theorem els_some' {α β : Type} (a : α) (b : β) (f : α → β) (t : Tag f) : els (some a) b f t = f a := Eq.trans rfl rfl
@[simp] theorem els_none' {α β : Type} (b : β) (f : α → β) (t : Tag f) : els none b f t = b := Eq.trans rfl rfl
@[simp] theorem sel_true' {α : Type} (x y : α) (t : Tag x) (u : Tag y) : sel true x y t u = x := Eq.trans rfl rfl
@[simp] theorem sel_false' {α : Type} (x y : α) (t : Tag x) (u : Tag y) : sel false x y t u = y := Eq.trans rfl rfl
@[simp] theorem lift_some' {α : Type} (a : α) (w : W) : R.lift (some a) w = .ok a w := Eq.trans rfl rfl
@[simp] theorem sel_not {α : Type} (b : Bool) (x y : α) (t : Tag x) (u : Tag y) : sel (!b) x y t u = sel b y x u t := by cases b <;> rfl
@[simp] theorem sel_and {α : Type} (a b : Bool) (x y : α) (t : Tag x) (u : Tag y) : sel (a && b) x y t u = sel a (sel b x y t u) y ⟨⟩ u := by cases a <;> rfl
@[simp] theorem sel_or {α : Type} (a b : Bool) (x y : α) (t : Tag x) (u : Tag y) : sel (a || b) x y t u = sel a x (sel b x y t u) t ⟨⟩ := by cases a <;> rfl
theorem sel_pos {α : Type} {p : Prop} [Decidable p] (h : p) (x y : α) (t : Tag x) (u : Tag y) : sel (decide p) x y t u = x := by simp [sel, h]
theorem sel_neg {α : Type} {p : Prop} [Decidable p] (h : ¬ p) (x y : α) (t : Tag x) (u : Tag y) : sel (decide p) x y t u = y := by simp [sel, h]

def wp {α : Type} (x : R α) (Q : R α → Prop) (_ : Tag Q) : Prop := Q x
def wpo (x : O) (Q : O → Prop) (_ : Tag Q) : Prop := Q x
def kR {α β : Type} (r : R α) (f : α → W → R β) (Q : R β → Prop) (_ : Tag f) (_ : Tag Q) : Prop := wp (r.bind f) Q ⟨⟩
def kT {α : Type} (r : R α) (env : Env) (f : α → W → O) (Q : O → Prop) (_ : Tag f) (_ : Tag Q) : Prop := wpo (r.to env f) Q ⟨⟩
def kS (o : O) (f : Env → W → O) (Q : O → Prop) (_ : Tag f) (_ : Tag Q) : Prop := wpo (o.seq f) Q ⟨⟩
@[simp ↓] theorem wp_ok {α : Type} (a : α) (w : W) (Q : R α → Prop) (t : Tag Q) : wp (.ok a w) Q t = Q (.ok a w) := Eq.trans rfl rfl
@[simp ↓] theorem wp_exc {α : Type} (e : D) (w : W) (Q : R α → Prop) (t : Tag Q) : wp (.exc e w) Q t = Q (.exc e w) := Eq.trans rfl rfl
@[simp ↓] theorem wpo_next (env : Env) (w : W) (Q : O → Prop) (t : Tag Q) : wpo (.next env w) Q t = Q (.next env w) := Eq.trans rfl rfl
@[simp ↓] theorem wpo_ret (d : D) (w : W) (Q : O → Prop) (t : Tag Q) : wpo (.ret d w) Q t = Q (.ret d w) := Eq.trans rfl rfl
@[simp ↓] theorem wpo_brk (env : Env) (w : W) (Q : O → Prop) (t : Tag Q) : wpo (.brk env w) Q t = Q (.brk env w) := Eq.trans rfl rfl
@[simp ↓] theorem wpo_cnt (env : Env) (w : W) (Q : O → Prop) (t : Tag Q) : wpo (.cnt env w) Q t = Q (.cnt env w) := Eq.trans rfl rfl
@[simp ↓] theorem wpo_exc (e : D) (env : Env) (w : W) (Q : O → Prop) (t : Tag Q) : wpo (.exc e env w) Q t = Q (.exc e env w) := Eq.trans rfl rfl
@[simp] theorem wp_ok' {α : Type} (a : α) (w : W) (Q : R α → Prop) (t : Tag Q) : wp (.ok a w) Q t = Q (.ok a w) := Eq.trans rfl rfl
@[simp] theorem wp_exc' {α : Type} (e : D) (w : W) (Q : R α → Prop) (t : Tag Q) : wp (.exc e w) Q t = Q (.exc e w) := Eq.trans rfl rfl
@[simp] theorem wpo_next' (env : Env) (w : W) (Q : O → Prop) (t : Tag Q) : wpo (.next env w) Q t = Q (.next env w) := Eq.trans rfl rfl
@[simp] theorem wpo_ret' (d : D) (w : W) (Q : O → Prop) (t : Tag Q) : wpo (.ret d w) Q t = Q (.ret d w) := Eq.trans rfl rfl
@[simp] theorem wpo_brk' (env : Env) (w : W) (Q : O → Prop) (t : Tag Q) : wpo (.brk env w) Q t = Q (.brk env w) := Eq.trans rfl rfl
@[simp] theorem wpo_cnt' (env : Env) (w : W) (Q : O → Prop) (t : Tag Q) : wpo (.cnt env w) Q t = Q (.cnt env w) := Eq.trans rfl rfl
@[simp] theorem wpo_exc' (e : D) (env : Env) (w : W) (Q : O → Prop) (t : Tag Q) : wpo (.exc e env w) Q t = Q (.exc e env w) := Eq.trans rfl rfl
@[simp ↓] theorem wp_bnd {α β : Type} (x : R α) (f : α → W → R β) (Q : R β → Prop) (t : Tag f) (s : Tag Q) : wp (bnd x f t) Q s = wp x (fun r => kR r f Q t s) ⟨⟩ := Eq.trans rfl rfl
@[simp ↓] theorem wpo_too {α : Type} (x : R α) (env : Env) (f : α → W → O) (Q : O → Prop) (t : Tag f) (u : Tag env) (s : Tag Q) : wpo (too x env f t u) Q s = wp x (fun r => kT r env f Q t s) ⟨⟩ := Eq.trans rfl rfl
@[simp ↓] theorem wpo_sqn (x : O) (f : Env → W → O) (Q : O → Prop) (t : Tag f) (s : Tag Q) : wpo (sqn x f t) Q s = wpo x (fun r => kS r f Q t s) ⟨⟩ := Eq.trans rfl rfl
@[simp ↓] theorem kR_ok {α β : Type} (a : α) (w : W) (f : α → W → R β) (Q : R β → Prop) (t : Tag f) (s : Tag Q) : kR (.ok a w) f Q t s = wp (f a w) Q ⟨⟩ := Eq.trans rfl rfl
@[simp ↓] theorem kR_exc {α β : Type} (e : D) (w : W) (f : α → W → R β) (Q : R β → Prop) (t : Tag f) (s : Tag Q) : kR (.exc e w) f Q t s = Q (.exc e w) := Eq.trans rfl rfl
@[simp ↓] theorem kT_ok {α : Type} (a : α) (w : W) (env : Env) (f : α → W → O) (Q : O → Prop) (t : Tag f) (s : Tag Q) : kT (.ok a w) env f Q t s = wpo (f a w) Q ⟨⟩ := Eq.trans rfl rfl
@[simp ↓] theorem kT_exc {α : Type} (e : D) (w : W) (env : Env) (f : α → W → O) (Q : O → Prop) (t : Tag f) (s : Tag Q) : kT (.exc e w) env f Q t s = Q (.exc e env w) := Eq.trans rfl rfl
@[simp ↓] theorem kS_next (env : Env) (w : W) (f : Env → W → O) (Q : O → Prop) (t : Tag f) (s : Tag Q) : kS (.next env w) f Q t s = wpo (f env w) Q ⟨⟩ := Eq.trans rfl rfl
@[simp ↓] theorem kS_ret (d : D) (w : W) (f : Env → W → O) (Q : O → Prop) (t : Tag f) (s : Tag Q) : kS (.ret d w) f Q t s = Q (.ret d w) := Eq.trans rfl rfl
@[simp ↓] theorem kS_brk (env : Env) (w : W) (f : Env → W → O) (Q : O → Prop) (t : Tag f) (s : Tag Q) : kS (.brk env w) f Q t s = Q (.brk env w) := Eq.trans rfl rfl
@[simp ↓] theorem kS_cnt (env : Env) (w : W) (f : Env → W → O) (Q : O → Prop) (t : Tag f) (s : Tag Q) : kS (.cnt env w) f Q t s = Q (.cnt env w) := Eq.trans rfl rfl
@[simp ↓] theorem kS_exc (e : D) (env : Env) (w : W) (f : Env → W → O) (Q : O → Prop) (t : Tag f) (s : Tag Q) : kS (.exc e env w) f Q t s = Q (.exc e env w) := Eq.trans rfl rfl
theorem wpo_sel {b : Bool} {x y : O} {t : Tag x} {u : Tag y} {Q : O → Prop} {s : Tag Q} (h1 : b = true → wpo x Q s) (h2 : b = false → wpo y Q s) : wpo (sel b x y t u) Q s := by cases b with | true => exact h1 rfl | false => exact h2 rfl
theorem wp_selP {α : Type} {p : Prop} [Decidable p] {x y : R α} {t : Tag x} {u : Tag y} {Q : R α → Prop} {s : Tag Q} (h1 : p → wp x Q s) (h2 : ¬ p → wp y Q s) : wp (sel (decide p) x y t u) Q s := by
  by_cases h : p
  · rw [sel_pos h]; exact h1 h
  · rw [sel_neg h]; exact h2 h
theorem wpo_selP {p : Prop} [Decidable p] {x y : O} {t : Tag x} {u : Tag y} {Q : O → Prop} {s : Tag Q} (h1 : p → wpo x Q s) (h2 : ¬ p → wpo y Q s) : wpo (sel (decide p) x y t u) Q s := by
  by_cases h : p
  · rw [sel_pos h]; exact h1 h
  · rw [sel_neg h]; exact h2 h
theorem wp_of {α : Type} {x y : R α} {Q : R α → Prop} {s : Tag Q} (e : x = y) (h : Q y) : wp x Q s := by subst e; exact h
theorem of_wp {α : Type} {x : R α} {Q : R α → Prop} {s : Tag Q} (h : wp x Q s) : Q x := h
section
variable (G : Prog) (cl : CallT) (env : Env) (w : W)
@[simp ↓] theorem v_loc (i : Nat) : ev G cl (.loc i) env w = R.lift (locF env i) w := by simp only [ev]
@[simp ↓] theorem v_glob (g : Nat) : ev G cl (.glob g) env w = R.lift (globF G g) w := by simp only [ev]
@[simp ↓] theorem v_non : ev G cl .non env w = .ok .non w := by simp only [ev]
@[simp ↓] theorem v_bl (b : Bool) : ev G cl (.bl b) env w = .ok (.bl b) w := by simp only [ev]
@[simp ↓] theorem v_int (i : Int) : ev G cl (.int i) env w = .ok (.int i) w := by simp only [ev]
@[simp ↓] theorem v_str (s : Tx) : ev G cl (.str s) env w = .ok (.str s) w := by simp only [ev]
@[simp ↓] theorem v_bin (op : BOp) (a b : E) : ev G cl (.bin op a b) env w = bnd (ev G cl a env w) (fun x w => bnd (ev G cl b env w) (fun y w => R.lift (binop op x y) w) ⟨⟩) ⟨⟩ := by simp only [ev, bnd]
@[simp ↓] theorem v_catm (a b : E) : ev G cl (.catm a b) env w = bnd (ev G cl a env w) (fun x w => bnd (ev G cl b env w) (fun y w => catF x y w) ⟨⟩) ⟨⟩ := by simp only [ev, bnd]
@[simp] theorem catF_lst (a b : List D) : catF (.lst a) (.lst b) w = newL true (a ++ b) w := Eq.trans rfl rfl
def negF : D → W → R D | .int i, w => .ok (.int (-i)) w | _, _ => .bad
@[simp] theorem negF_int (i : Int) : negF (.int i) w = .ok (.int (-i)) w := Eq.trans rfl rfl
@[simp ↓] theorem v_neg (a : E) : ev G cl (.neg a) env w = bnd (ev G cl a env w) negF ⟨⟩ := by
  simp only [ev, bnd]
  congr 1; funext x w; cases x <;> rfl
def notF (x : D) (w : W) : R D := bnd (R.lift x.truth w) (fun b w => .ok (.bl (!b)) w) ⟨⟩
@[simp ↓] theorem v_not (a : E) : ev G cl (.not a) env w = bnd (ev G cl a env w) (fun x w => bnd (R.lift x.truth w) (fun b w => .ok (.bl (!b)) w) ⟨⟩) ⟨⟩ := by simp only [ev, bnd]
@[simp ↓] theorem v_and (a b : E) : ev G cl (.and a b) env w = bnd (ev G cl a env w) (fun x w => bnd (R.lift x.truth w) (fun t w => sel t (ev G cl b env w) (.ok x w) ⟨⟩ ⟨⟩) ⟨⟩) ⟨⟩ := by simp only [ev, bnd, sel]
@[simp ↓] theorem v_or (a b : E) : ev G cl (.or a b) env w = bnd (ev G cl a env w) (fun x w => bnd (R.lift x.truth w) (fun t w => sel t (.ok x w) (ev G cl b env w) ⟨⟩ ⟨⟩) ⟨⟩) ⟨⟩ := by simp only [ev, bnd, sel]
@[simp ↓] theorem v_cmp (op : COp) (a b : E) : ev G cl (.cmp op a b) env w = bnd (ev G cl a env w) (fun x w => bnd (ev G cl b env w) (fun y w => cmpF G cl op x y w) ⟨⟩) ⟨⟩ := by simp only [ev, bnd]
@[simp ↓] theorem v_cmp3 (op op' op2 : COp) (a b c d : E) : ev G cl (.cmp3 op op' op2 a b c d) env w = bnd (ev G cl a env w) (fun x w => bnd (ev G cl b env w) (fun y w => els (cmpop op x y) .bad (fun t => sel t (bnd (ev G cl c env w) (fun z w => els (cmpop op' y z) .bad (fun t => sel t (bnd (ev G cl d env w) (fun u w => R.lift ((cmpop op2 z u).map .bl) w) ⟨⟩) (.ok (.bl false) w) ⟨⟩ ⟨⟩) ⟨⟩) ⟨⟩) (.ok (.bl false) w) ⟨⟩ ⟨⟩) ⟨⟩) ⟨⟩) ⟨⟩ := by
  simp only [ev, bnd]
  congr 1; funext x w; congr 1; funext y w
  cases cmpop op x y with
  | none => rfl
  | some b =>
    cases b with
    | false => rfl
    | true =>
      simp only [els, sel, bnd]
      congr 1; funext z w
      cases cmpop op' y z with
      | none => rfl
      | some b => cases b <;> rfl
@[simp ↓] theorem v_cmp2 (op op' : COp) (a b c : E) : ev G cl (.cmp2 op op' a b c) env w = bnd (ev G cl a env w) (fun x w => bnd (ev G cl b env w) (fun y w => els (cmpop op x y) .bad (fun t => sel t (bnd (ev G cl c env w) (fun z w => R.lift ((cmpop op' y z).map .bl) w) ⟨⟩) (.ok (.bl false) w) ⟨⟩ ⟨⟩) ⟨⟩) ⟨⟩) ⟨⟩ := by
  simp only [ev, bnd]
  congr 1; funext x w; congr 1; funext y w
  cases cmpop op x y with
  | none => rfl
  | some b => cases b <;> rfl
@[simp ↓] theorem v_ite (c a b : E) : ev G cl (.ite c a b) env w = bnd (ev G cl c env w) (fun x w => bnd (R.lift x.truth w) (fun t w => sel t (ev G cl a env w) (ev G cl b env w) ⟨⟩ ⟨⟩) ⟨⟩) ⟨⟩ := by simp only [ev, bnd, sel]
@[simp ↓] theorem v_tup (es : Es) : ev G cl (.tup es) env w = bnd (evs G cl es env w) (fun ds w => .ok (.tup ds) w) ⟨⟩ := by simp only [ev, bnd]
@[simp ↓] theorem v_lst (m : Bool) (es : Es) : ev G cl (.lst m es) env w = bnd (evs G cl es env w) (fun ds w => newL m ds w) ⟨⟩ := by simp only [ev, bnd]
@[simp ↓] theorem v_dct (m : Bool) (es : Es) : ev G cl (.dct m es) env w = bnd (evs G cl es env (w ++ [.dct []])) (fun ds w2 => dispF m w.length ds w2) ⟨⟩ := by simp only [ev, bnd]
@[simp ↓] theorem v_sub (o i : E) : ev G cl (.sub o i) env w = bnd (ev G cl o env w) (fun o w => bnd (ev G cl i env w) (fun i w => R.lift (subF w o i) w) ⟨⟩) ⟨⟩ := by simp only [ev, bnd]
def bnE (G : Prog) (cl : CallT) (e : E) (env : Env) (w : W) : R D := match e with | .non => .ok .non w | _ => (ev G cl e env w).bind intR
@[simp ↓] theorem bnE_non : bnE G cl .non env w = .ok .non w := Eq.trans rfl rfl
@[simp ↓] theorem bnE_int (i : Int) : bnE G cl (.int i) env w = .ok (.int i) w := by simp only [bnE, ev, R.bind, intR]
@[simp ↓] theorem bnE_loc (i : Nat) : bnE G cl (.loc i) env w = bnd (ev G cl (.loc i) env w) intR ⟨⟩ := Eq.trans rfl rfl
@[simp ↓] theorem bnE_bin (o : BOp) (a b : E) : bnE G cl (.bin o a b) env w = bnd (ev G cl (.bin o a b) env w) intR ⟨⟩ := Eq.trans rfl rfl
@[simp ↓] theorem bnE_neg (a : E) : bnE G cl (.neg a) env w = bnd (ev G cl (.neg a) env w) intR ⟨⟩ := Eq.trans rfl rfl
@[simp ↓] theorem bnE_bi (b : BI) (es : Es) : bnE G cl (.bi b es) env w = bnd (ev G cl (.bi b es) env w) intR ⟨⟩ := Eq.trans rfl rfl
@[simp ↓] theorem bnE_sub (a b : E) : bnE G cl (.sub a b) env w = bnd (ev G cl (.sub a b) env w) intR ⟨⟩ := Eq.trans rfl rfl
@[simp ↓] theorem bnE_ite (a b c : E) : bnE G cl (.ite a b c) env w = bnd (ev G cl (.ite a b c) env w) intR ⟨⟩ := Eq.trans rfl rfl
@[simp ↓] theorem bnE_call (g : Nat) (es : Es) (kws : List Nat) (ks : Es) : bnE G cl (.call g es kws ks) env w = bnd (ev G cl (.call g es kws ks) env w) intR ⟨⟩ := Eq.trans rfl rfl
@[simp] theorem intR_ok (i : Int) (w : W) : intR (.int i) w = .ok (.int i) w := Eq.trans rfl rfl
@[simp ↓] theorem v_slc (o lo hi : E) : ev G cl (.slc o lo hi) env w = bnd (ev G cl o env w) (fun o w => bnd (bnE G cl lo env w) (fun lo w => bnd (bnE G cl hi env w) (fun hi w => slcF o lo hi w) ⟨⟩) ⟨⟩) ⟨⟩ := by
  simp only [ev, bnd]; rfl
@[simp ↓] theorem v_attr (o : E) (f : Nat) : ev G cl (.attr o f) env w = bnd (ev G cl o env w) (fun o w => attrF G cl o f w) ⟨⟩ := by simp only [ev, bnd]
@[simp ↓] theorem v_call (g : Nat) (es : Es) (kws : List Nat) (ks : Es) : ev G cl (.call g es kws ks) env w = bnd (evs G cl es env w) (fun vs w => bnd (evs G cl ks env w) (fun ks w => callF G cl g vs kws ks w) ⟨⟩) ⟨⟩ := by simp only [ev, bnd]
@[simp ↓] theorem v_make (g : Nat) (es : Es) (kws : List Nat) (ks : Es) : ev G cl (.make g es kws ks) env w = bnd (evs G cl es env w) (fun vs w => bnd (evs G cl ks env w) (fun ks w => makeC G cl g vs kws ks w) ⟨⟩) ⟨⟩ := by simp only [ev, bnd]
@[simp ↓] theorem v_bi (b : BI) (es : Es) : ev G cl (.bi b es) env w = bnd (evs G cl es env w) (fun ds w => biF G b ds w) ⟨⟩ := by simp only [ev, bnd]
@[simp ↓] theorem v_bm (m : BM) (o : E) (es : Es) : ev G cl (.bm m o es) env w = bnd (ev G cl o env w) (fun o w => sel (bmTy m o w) (bnd (evs G cl es env w) (fun ds w => bmF m o ds w) ⟨⟩) .bad ⟨⟩ ⟨⟩) ⟨⟩ := by simp only [ev, bnd, sel]
@[simp ↓] theorem v_meth (o : E) (m : Nat) (es : Es) (kws : List Nat) (ks : Es) : ev G cl (.meth o m es kws ks) env w = bnd (ev G cl o env w) (fun o w => bnd (evs G cl es env w) (fun vs w => bnd (evs G cl ks env w) (fun ks w => methF G cl o m vs kws ks w) ⟨⟩) ⟨⟩) ⟨⟩ := by simp only [ev, bnd]
@[simp ↓] theorem v_isi (a : E) (ts : List (Sum BT Nat)) (one : Bool) : ev G cl (.isi a ts one) env w = bnd (ev G cl a env w) (fun x w => R.lift ((isTs G x ts).map .bl) w) ⟨⟩ := by simp only [ev, bnd]
def zip2F (ds : List D) (w : W) : R D := match ds with | [.tup a, .tup b] => newL false (zipD a b) w | _ => .bad
@[simp] theorem zip2F_ok (a b : List D) (w : W) : zip2F [.tup a, .tup b] w = newL false (zipD a b) w := Eq.trans rfl rfl
@[simp ↓] theorem v_lzip (es : Es) : ev G cl (.lzip es) env w = bnd (evs G cl es env w) zip2F ⟨⟩ := by simp only [ev, bnd]; rfl
@[simp ↓] theorem v_lsts (m : Bool) (ss : List Bool) (es : Es) : ev G cl (.lsts m ss es) env w = bnd (evsp G cl ss es env w) (fun ds w => newL m ds w) ⟨⟩ := by simp only [ev, bnd]
def tupF (ds : List D) (w : W) : R D := if ds.length ≤ 100000 then .ok (.tup ds) w else .bad
@[simp] theorem tupF_ok (ds : List D) (w : W) (h : ds.length ≤ 100000) : tupF ds w = .ok (.tup ds) w := by simp only [tupF]; rw [if_pos h]
@[simp ↓] theorem v_tups (ss : List Bool) (es : Es) : ev G cl (.tups ss es) env w = bnd (evsp G cl ss es env w) (fun ds w => tupF ds w) ⟨⟩ := by simp only [ev, bnd] <;> rfl
@[simp] theorem seqOf_lst (xs : List D) : seqOf (.lst xs) = some xs := Eq.trans rfl rfl
@[simp] theorem seqOf_tup (xs : List D) : seqOf (.tup xs) = some xs := Eq.trans rfl rfl
@[simp ↓] theorem sp_nil : evsp G cl [] .nil env w = .ok [] w := by simp only [evsp]
@[simp ↓] theorem sp_cons (e : E) (ss : List Bool) (r : Es) : evsp G cl (false :: ss) (.cons e r) env w = bnd (ev G cl e env w) (fun x w => bnd (evsp G cl ss r env w) (fun ys w => .ok (x :: ys) w) ⟨⟩) ⟨⟩ := by simp only [evsp, bnd]
@[simp ↓] theorem sp_star (e : E) (ss : List Bool) (r : Es) : evsp G cl (true :: ss) (.cons e r) env w = bnd (ev G cl e env w) (fun x w => els (seqOf x) .bad (fun xs => bnd (evsp G cl ss r env w) (fun ys w => .ok (xs ++ ys) w) ⟨⟩) ⟨⟩) ⟨⟩ := by
  simp only [evsp, bnd]
  congr 1; funext x w; cases seqOf x <;> rfl
@[simp ↓] theorem v_fst (es : Es) : ev G cl (.fst es) env w = evJ G cl es [] env w := by simp only [ev]
@[simp ↓] theorem v_fmt (e : E) : ev G cl (.fmt e) env w = bnd (ev G cl e env w) (fun d w => R.lift (fmtF d) w) ⟨⟩ := by simp only [ev, bnd]
def jF (acc : Tx) (x : D) (f : Tx → R D) (_ : Tag f) : R D := match x with
  | .str y => if acc.length + y.length ≤ 16000000 then f (acc ++ y) else .bad
  | _ => .bad
@[simp ↓] theorem j_nil (acc : Tx) : evJ G cl .nil acc env w = .ok (.str acc) w := by simp only [evJ]
@[simp ↓] theorem j_cons (e : E) (r : Es) (acc : Tx) : evJ G cl (.cons e r) acc env w = bnd (ev G cl e env w) (fun x w => jF acc x (fun acc => evJ G cl r acc env w) ⟨⟩) ⟨⟩ := by
  simp only [evJ, bnd, jF] <;> rfl
@[simp ↓] theorem vs_nil : evs G cl .nil env w = .ok [] w := by simp only [evs]
@[simp ↓] theorem vs_cons (e : E) (r : Es) : evs G cl (.cons e r) env w = bnd (ev G cl e env w) (fun x w => bnd (evs G cl r env w) (fun xs w => .ok (x :: xs) w) ⟨⟩) ⟨⟩ := by simp only [evs, bnd]
@[simp ↓] theorem if_nil : evIf G cl .nil env w = .ok true w := by simp only [evIf]
@[simp ↓] theorem if_one (e : E) : evIf G cl (.cons e .nil) env w = bnd (ev G cl e env w) (fun x w => R.lift x.truth w) ⟨⟩ := by simp only [evIf, bnd]
@[simp ↓] theorem it_e (e : E) : evI G cl (.e e) env w = bnd (ev G cl e env w) (fun d w => R.lift (items d) w) ⟨⟩ := by simp only [evI, bnd]
@[simp ↓] theorem it_range (es : Es) : evI G cl (.range es) env w = bnd (evs G cl es env w) (fun ds w => R.lift (rangeOf ds) w) ⟨⟩ := by simp only [evI, bnd]
def enumOf (d : D) : Option (List D) := (match d with | .str _ => none | .dct _ => none | d => items d).map (enumD 0)
@[simp] theorem enumOf_tup (xs : List D) : enumOf (.tup xs) = some (enumD 0 xs) := Eq.trans rfl rfl
@[simp] theorem enumOf_lst (xs : List D) : enumOf (.lst xs) = some (enumD 0 xs) := Eq.trans rfl rfl
@[simp ↓] theorem it_enum (e : E) : evI G cl (.enum e) env w = bnd (ev G cl e env w) (fun d w => R.lift (enumOf d) w) ⟨⟩ := by simp only [evI, bnd]; rfl
@[simp ↓] theorem it_zip (es : Es) : evI G cl (.zip es) env w = bnd (evs G cl es env w) (fun ds w => R.lift (zipOf ds) w) ⟨⟩ := by simp only [evI, bnd]
@[simp ↓] theorem a_loc (i : Nat) (d : D) : asg G cl (.loc i) d env w = if i < env.length then .next (env.set i (some d)) w else .bad := by simp only [asg]
@[simp ↓] theorem a_tup (ts : Ts) (ds : List D) : asg G cl (.tup ts) (.tup ds) env w = asgs G cl ts ds env w := by simp only [asg, unpack]
@[simp ↓] theorem a_lst (ts : Ts) (ds : List D) : asg G cl (.tup ts) (.lst ds) env w = asgs G cl ts ds env w := by simp only [asg, unpack]
@[simp ↓] theorem a_sub (o i : E) (d : D) : asg G cl (.sub o i) d env w = too (ev G cl o env w) env (fun o w => too (ev G cl i env w) env (fun i w => els (setSub w o i d) .bad (fun w => .next env w) ⟨⟩) ⟨⟩ ⟨⟩) ⟨⟩ ⟨⟩ := by
  simp only [asg, too]
  congr 1; funext x w; congr 1; funext y w
  cases setSub w x y d <;> rfl
@[simp ↓] theorem a_att (o : E) (f : Nat) (d : D) : asg G cl (.att o f) d env w = too (ev G cl o env w) env (fun o w => els (setAtt G w o f d) .bad (fun w => .next env w) ⟨⟩) ⟨⟩ ⟨⟩ := by
  simp only [asg, too]
  congr 1; funext x w
  cases setAtt G w x f d <;> rfl
@[simp ↓] theorem as_nil : asgs G cl .nil [] env w = .next env w := by simp only [asgs]
@[simp ↓] theorem as_cons (t : T) (r : Ts) (d : D) (ds : List D) : asgs G cl (.cons t r) (d :: ds) env w = sqn (asg G cl t d env w) (fun env w => asgs G cl r ds env w) ⟨⟩ := by simp only [asgs, sqn]
@[simp ↓] theorem x_asg (t : T) (e : E) : exec G cl (.asg t e) env w = too (ev G cl e env w) env (fun d w => asg G cl t d env w) ⟨⟩ ⟨⟩ := by simp only [exec, too]
@[simp ↓] theorem x_aug (i : Nat) (op : BOp) (e : E) : exec G cl (.aug i op e) env w = els (locF env i) .bad (fun x => too (ev G cl e env w) env (fun y w => els (augF op x y) .bad (fun z => .next (env.set i (some z)) w) ⟨⟩) ⟨⟩ ⟨⟩) ⟨⟩ := by
  simp only [exec, too]
  cases locF env i with
  | none => rfl
  | some x =>
    simp only [els, Option.elim]
    congr 1; funext y w
    cases augF op x y <;> rfl
@[simp ↓] theorem x_expr (e : E) : exec G cl (.expr e) env w = too (ev G cl e env w) env (fun _ w => .next env w) ⟨⟩ ⟨⟩ := by simp only [exec, too]
@[simp ↓] theorem x_ret (e : E) : exec G cl (.ret e) env w = too (ev G cl e env w) env (fun d w => .ret d w) ⟨⟩ ⟨⟩ := by simp only [exec, too]
@[simp ↓] theorem x_retn : exec G cl .retn env w = .ret .non w := by simp only [exec]
@[simp ↓] theorem x_ite (c : E) (a b : Ss) : exec G cl (.ite c a b) env w = too (ev G cl c env w) env (fun x w => too (R.lift x.truth w) env (fun t w => sel t (execs G cl a env w) (execs G cl b env w) ⟨⟩ ⟨⟩) ⟨⟩ ⟨⟩) ⟨⟩ ⟨⟩ := by
  simp only [exec, too, evT, sel]
  cases ev G cl c env w with
  | ok x w1 => rfl
  | exc e w1 => rfl
  | bad => rfl
def turnF (G : Prog) (cl : CallT) (t : T) (b : Ss) (d : D) (env : Env) (w : W) : O := els (asgN t d env) .bad (fun env => execs G cl b env w) ⟨⟩
def loopL (G : Prog) (cl : CallT) (t : T) (b : Ss) (_ : Tag t) (_ : Tag b) (xs : List D) (env : Env) (w : W) : O := loopF (turnF G cl t b) xs env w
@[simp ↓] theorem x_for (t : T) (it : It) (b : Ss) : exec G cl (.for t it b) env w = too (evI G cl it env w) env (fun xs w => loopL G cl t b ⟨⟩ ⟨⟩ xs env w) ⟨⟩ ⟨⟩ := by simp only [exec, too]; rfl
@[simp ↓] theorem x_seal (i : Nat) : exec G cl (.cls i) env w = sealF i env w := by simp only [exec]
@[simp ↓] theorem x_pass : exec G cl .pass env w = .next env w := by simp only [exec]
@[simp ↓] theorem x_brk : exec G cl .brk env w = .brk env w := by simp only [exec]
@[simp ↓] theorem x_cnt : exec G cl .cnt env w = .cnt env w := by simp only [exec]
@[simp ↓] theorem xs_nil : execs G cl .nil env w = .next env w := by simp only [execs]
@[simp ↓] theorem xs_cons (s : S) (r : Ss) : execs G cl (.cons s r) env w = sqn (exec G cl s env w) (fun env w => execs G cl r env w) ⟨⟩ := by simp only [execs, sqn]
def tryF : O → O | .exc _ _ _ => .bad | o => o
@[simp] theorem tryF_next : tryF (.next env w) = .next env w := Eq.trans rfl rfl
@[simp] theorem tryF_ret (d : D) : tryF (.ret d w) = .ret d w := Eq.trans rfl rfl
@[simp ↓] theorem x_try (b : Ss) (h : Hs) : exec G cl (.try b h) env w = tryF (execs G cl b env w) := by
  simp only [exec]; cases execs G cl b env w <;> rfl
@[simp ↓] theorem wpo_try (x : O) (Q : O → Prop) (t : Tag Q) : wpo (tryF x) Q t = wpo x (fun o => Q (tryF o)) ⟨⟩ := Eq.trans rfl rfl
def turnC (G : Prog) (cl : CallT) (own : List Nat) (e : E) (t : T) (ifs : Es) (env : Env) (n : Nat) (d : D) (w : W) : R Unit := els (asgN t d (wipeE env own)) .bad (fun env => bnd (evIf G cl ifs env w) (fun b w => sel b (bnd (ev G cl e env w) (fun y w => R.ofO (appC n y w)) ⟨⟩) (.ok () w) ⟨⟩ ⟨⟩) ⟨⟩) ⟨⟩
def compL (G : Prog) (cl : CallT) (m : Bool) (own : List Nat) (e : E) (t : T) (ifs : Es) (_ : Tag e) (_ : Tag t) (_ : Tag ifs) (xs : List D) (env : Env) (w : W) : R D := (mapC (turnC G cl own e t ifs env w.length) xs (w ++ [.lst []])).bind fun _ w' => endC m w.length w'
@[simp ↓] theorem v_comp (m : Bool) (own : List Nat) (e : E) (t : T) (it : It) (ifs : Es) : ev G cl (.comp m own e t it ifs) env w = bnd (evI G cl it env w) (fun xs w => compL G cl m own e t ifs ⟨⟩ ⟨⟩ ⟨⟩ xs env w) ⟨⟩ := by simp only [ev, bnd]; rfl
def turn2 (G : Prog) (cl : CallT) (own : List Nat) (e : E) (t : T) (ifs : Es) (own1 : List Nat) (t1 : T) (it1 : It) (ifs1 : Es) (env : Env) (n : Nat) (d : D) (w : W) : R Unit := els (asgN t d (wipeE env own)) .bad (fun env => bnd (evIf G cl ifs env w) (fun b w => sel b (bnd (evI G cl it1 env w) (fun xs1 w => mapC (turnC G cl own1 e t1 ifs1 env n) xs1 w) ⟨⟩) (.ok () w) ⟨⟩ ⟨⟩) ⟨⟩) ⟨⟩
def comp2L (G : Prog) (cl : CallT) (own : List Nat) (e : E) (t : T) (ifs : Es) (own1 : List Nat) (t1 : T) (it1 : It) (ifs1 : Es) (_ : Tag e) (_ : Tag t) (_ : Tag ifs) (_ : Tag t1) (_ : Tag it1) (_ : Tag ifs1) (xs : List D) (env : Env) (w : W) : R D := (mapC (turn2 G cl own e t ifs own1 t1 it1 ifs1 env w.length) xs (w ++ [.lst []])).bind fun _ w' => endC false w.length w'
@[simp ↓] theorem v_comp2 (own : List Nat) (e : E) (t : T) (it : It) (ifs : Es) (own1 : List Nat) (t1 : T) (it1 : It) (ifs1 : Es) : ev G cl (.comp2 own e t it ifs own1 t1 it1 ifs1) env w = bnd (evI G cl it env w) (fun xs w => comp2L G cl own e t ifs own1 t1 it1 ifs1 ⟨⟩ ⟨⟩ ⟨⟩ ⟨⟩ ⟨⟩ ⟨⟩ xs env w) ⟨⟩ := by simp only [ev, bnd]; rfl
def turnK (G : Prog) (cl : CallT) (own : List Nat) (k v : E) (t : T) (ifs : Es) (env : Env) (n : Nat) (d : D) (w : W) : R Unit := els (asgN t d (wipeE env own)) .bad (fun env => bnd (evIf G cl ifs env w) (fun b w => sel b (bnd (ev G cl k env w) (fun y w => bnd (ev G cl v env w) (fun z w => R.ofO (appK n y z w)) ⟨⟩) ⟨⟩) (.ok () w) ⟨⟩ ⟨⟩) ⟨⟩) ⟨⟩
def dcompL (G : Prog) (cl : CallT) (own : List Nat) (k v : E) (t : T) (ifs : Es) (_ : Tag k) (_ : Tag v) (_ : Tag t) (_ : Tag ifs) (xs : List D) (env : Env) (w : W) : R D := (mapC (turnK G cl own k v t ifs env w.length) xs (w ++ [.dct []])).bind fun _ w' => endK w.length w'
@[simp ↓] theorem v_dcomp (own : List Nat) (k v : E) (t : T) (it : It) (ifs : Es) : ev G cl (.dcomp own k v t it ifs) env w = bnd (evI G cl it env w) (fun xs w => dcompL G cl own k v t ifs ⟨⟩ ⟨⟩ ⟨⟩ ⟨⟩ xs env w) ⟨⟩ := by simp only [ev, bnd]; rfl
end
end Sv

set_option Elab.async false
set_option linter.all false
set_option maxRecDepth 100000
namespace Sv
@[simp ↓] theorem rawif_true {α : Type} (x y : α) : (if (true : Bool) = true then x else y) = x := Eq.trans rfl rfl
@[simp] theorem nr_non : D.noRef .non = true := Eq.trans rfl rfl
@[simp] theorem nr_bl (b : Bool) : D.noRef (.bl b) = true := Eq.trans rfl rfl
@[simp] theorem nr_int (b : Int) : D.noRef (.int b) = true := Eq.trans rfl rfl
@[simp] theorem nr_str (b : Tx) : D.noRef (.str b) = true := Eq.trans rfl rfl
@[simp] theorem nr_scr (b : List Int) : D.noRef (.scr b) = true := Eq.trans rfl rfl
@[simp] theorem nr_glo (b : Nat) : D.noRef (.glo b) = true := Eq.trans rfl rfl
@[simp] theorem nr_tup (b : List D) : D.noRef (.tup b) = D.noRefL b := Eq.trans (by simp only [D.noRef]) rfl
@[simp] theorem nr_lst (b : List D) : D.noRef (.lst b) = D.noRefL b := Eq.trans (by simp only [D.noRef]) rfl
@[simp] theorem nr_dct (b : List (D × D)) : D.noRef (.dct b) = D.noRefP b := Eq.trans (by simp only [D.noRef]) rfl
@[simp] theorem nr_obj (c : Nat) (b : List (Nat × D)) : D.noRef (.obj c b) = D.noRefF b := Eq.trans (by simp only [D.noRef]) rfl
@[simp] theorem nrL_nil : D.noRefL [] = true := Eq.trans rfl rfl
@[simp] theorem nrL_cons (x : D) (r : List D) : D.noRefL (x :: r) = (x.noRef && D.noRefL r) := Eq.trans (by simp only [D.noRefL]) rfl
@[simp] theorem nrP_nil : D.noRefP [] = true := Eq.trans rfl rfl
@[simp] theorem nrP_cons (k v : D) (r : List (D × D)) : D.noRefP ((k, v) :: r) = (k.noRef && v.noRef && D.noRefP r) := Eq.trans (by simp only [D.noRefP]) rfl
@[simp] theorem nrF_nil : D.noRefF [] = true := Eq.trans rfl rfl
@[simp] theorem nrF_cons (k : Nat) (v : D) (r : List (Nat × D)) : D.noRefF ((k, v) :: r) = (v.noRef && D.noRefF r) := Eq.trans (by simp only [D.noRefF]) rfl
theorem nrL_iff (l : List D) : D.noRefL l = true ↔ ∀ x ∈ l, x.noRef = true := by
  induction l with
  | nil => simp
  | cons x r ih => simp [ih]
theorem nrL_map {α : Type} (l : List α) (f : α → D) (h : ∀ a ∈ l, (f a).noRef = true) : D.noRefL (l.map f) = true := by
  rw [nrL_iff]; intro x hx; obtain ⟨a, ha, rfl⟩ := List.mem_map.mp hx; exact h a ha
@[simp] theorem nrL_app (a b : List D) : D.noRefL (a ++ b) = (D.noRefL a && D.noRefL b) := by
  induction a with
  | nil => simp
  | cons x r ih => simp [ih, Bool.and_assoc]
@[simp] theorem locF_zero (d : D) (env : Env) : locF (some d :: env) 0 = some d := Eq.trans rfl rfl
@[simp] theorem locF_succ (x : Option D) (env : Env) (n : Nat) : locF (x :: env) (n + 1) = locF env n := by simp [locF]
@[simp] theorem aug_add (i j : Int) : augF .add (.int i) (.int j) = some (.int (i + j)) := Eq.trans rfl rfl
@[simp] theorem aug_sub (i j : Int) : augF .sub (.int i) (.int j) = some (.int (i - j)) := Eq.trans rfl rfl
@[simp] theorem o_add (i j : Int) : binop .add (.int i) (.int j) = some (.int (i + j)) := Eq.trans rfl rfl
@[simp] theorem o_sub (i j : Int) : binop .sub (.int i) (.int j) = some (.int (i - j)) := Eq.trans rfl rfl
@[simp] theorem o_mul (i j : Int) (h : mulOk i j = true) : binop .mul (.int i) (.int j) = some (.int (i * j)) := by simp only [binop]; rw [if_pos h]
@[simp] theorem mulOk_r {i j : Int} (h : j.natAbs < 18446744073709551616) : mulOk i j = true := by simp [mulOk, h]
@[simp] theorem mulOk_l {i j : Int} (h : i.natAbs < 18446744073709551616) : mulOk i j = true := by simp [mulOk, h]
theorem mulOk_small {i j : Int} (h : 0 ≤ i) (h2 : i < 18446744073709551616) : mulOk i j = true := mulOk_l (by omega)
theorem mulOk_smallR {i j : Int} (h : 0 ≤ j) (h2 : j < 18446744073709551616) : mulOk i j = true := mulOk_r (by omega)
theorem big_lt : (18446744073709551616 : Int) < 2 ^ 8000 := by
  have h : (2 : Nat) ^ 64 < 2 ^ 8000 := Nat.pow_lt_pow_right (by omega) (by omega)
  have h2 : ((2 ^ 64 : Nat) : Int) < ((2 ^ 8000 : Nat) : Int) := Int.ofNat_lt.mpr h
  rw [Int.natCast_pow 2 8000] at h2
  exact h2
@[simp] theorem o_div (i j : Int) (h : 0 < j) (h2 : j < 18446744073709551616) : binop .fdiv (.int i) (.int j) = some (.int (i / j)) := by simp only [binop]; rw [if_pos ⟨h, Int.lt_trans h2 big_lt⟩]
@[simp] theorem o_mod (i j : Int) (h : 0 < j) : binop .mod (.int i) (.int j) = some (.int (i % j)) := by simp only [binop]; rw [if_pos h]
@[simp] theorem o_pow (i j : Int) (h : 0 ≤ j) (h1 : j ≤ 1000) (h2 : i.natAbs < 18446744073709551616) : binop .pow (.int i) (.int j) = some (.int (i ^ j.toNat)) := by simp only [binop]; rw [if_pos ⟨h, h1, h2⟩]
@[simp] theorem o_cat (a b : List D) (h : a.length + b.length ≤ 16000000) : binop .add (.lst a) (.lst b) = some (.lst (a ++ b)) := by simp only [binop]; rw [if_pos h]
@[simp] theorem o_cats (a b : Tx) (h : a.length + b.length ≤ 16000000) : binop .add (.str a) (.str b) = some (.str (a ++ b)) := by simp only [binop]; rw [if_pos h]
@[simp] theorem c_lt (i j : Int) : cmpop .lt (.int i) (.int j) = some (decide (i < j)) := Eq.trans rfl rfl
@[simp] theorem c_le (i j : Int) : cmpop .le (.int i) (.int j) = some (decide (i ≤ j)) := Eq.trans rfl rfl
@[simp] theorem c_gt (i j : Int) : cmpop .gt (.int i) (.int j) = some (decide (j < i)) := Eq.trans rfl rfl
@[simp] theorem c_ge (i j : Int) : cmpop .ge (.int i) (.int j) = some (decide (j ≤ i)) := Eq.trans rfl rfl
theorem eqI (i j : Int) : D.eq (.int i) (.int j) = some (decide (i = j)) := by
  simp [D.eq, D.dataOk, D.isData, D.dep, D.eqv]; rfl
theorem eqT (a b : Tx) : D.eq (.str a) (.str b) = some (decide (a = b)) := by
  simp [D.eq, D.dataOk, D.isData, D.dep, D.eqv]
@[simp] theorem c_eqI (i j : Int) : cmpop .eq (.int i) (.int j) = some (decide (i = j)) := eqI i j
@[simp] theorem c_neI (i j : Int) : cmpop .ne (.int i) (.int j) = some (!decide (i = j)) := by show (D.eq (.int i) (.int j)).map _ = _; rw [eqI]; rfl
@[simp] theorem c_eqT (a b : Tx) : cmpop .eq (.str a) (.str b) = some (decide (a = b)) := eqT a b
@[simp] theorem c_neT (a b : Tx) : cmpop .ne (.str a) (.str b) = some (!decide (a = b)) := by show (D.eq (.str a) (.str b)).map _ = _; rw [eqT]; rfl
@[simp] theorem c_isN : cmpop .is .non .non = some true := Eq.trans rfl rfl
@[simp] theorem c_isI (i : Int) : cmpop .is (.int i) .non = some false := Eq.trans rfl rfl
@[simp] theorem c_isS (i : Tx) : cmpop .is (.str i) .non = some false := Eq.trans rfl rfl
@[simp] theorem c_isT (i : List D) : cmpop .is (.tup i) .non = some false := Eq.trans rfl rfl
@[simp] theorem c_isL (i : List D) : cmpop .is (.lst i) .non = some false := Eq.trans rfl rfl
@[simp] theorem c_isO (c : Nat) (i : List (Nat × D)) : cmpop .is (.obj c i) .non = some false := Eq.trans rfl rfl
@[simp] theorem c_isnN : cmpop .isn .non .non = some false := Eq.trans rfl rfl
@[simp] theorem c_isnI (i : Int) : cmpop .isn (.int i) .non = some true := Eq.trans rfl rfl
@[simp] theorem c_isnS (i : Tx) : cmpop .isn (.str i) .non = some true := Eq.trans rfl rfl
@[simp] theorem c_isnT (i : List D) : cmpop .isn (.tup i) .non = some true := Eq.trans rfl rfl
@[simp] theorem c_isnL (i : List D) : cmpop .isn (.lst i) .non = some true := Eq.trans rfl rfl
@[simp] theorem c_isnO (c : Nat) (i : List (Nat × D)) : cmpop .isn (.obj c i) .non = some true := Eq.trans rfl rfl
@[simp] theorem c_inC (c : Nat) (s : Tx) : cmpop .in (.str [c]) (.str s) = some (decide (c ∈ s)) := Eq.trans rfl rfl
@[simp] theorem cmpF_in (G : Prog) (cl : CallT) (x y : D) (w : W) : cmpF G cl .in x y w = R.lift ((cmpop .in x y).map .bl) w := Eq.trans rfl rfl
@[simp] theorem cmpF_nin (G : Prog) (cl : CallT) (x y : D) (w : W) : cmpF G cl .nin x y w = R.lift ((cmpop .nin x y).map .bl) w := Eq.trans rfl rfl
@[simp] theorem cmpF_is (G : Prog) (cl : CallT) (x y : D) (w : W) : cmpF G cl .is x y w = R.lift ((cmpop .is x y).map .bl) w := Eq.trans rfl rfl
@[simp] theorem cmpF_isn (G : Prog) (cl : CallT) (x y : D) (w : W) : cmpF G cl .isn x y w = R.lift ((cmpop .isn x y).map .bl) w := Eq.trans rfl rfl
theorem cmpF_some (G : Prog) (cl : CallT) (op : COp) (x y : D) (w : W) (b : Bool) (h : cmpop op x y = some b) : cmpF G cl op x y w = .ok (.bl b) w := by simp [cmpF, h]
@[simp] theorem cmpF_lt (G : Prog) (cl : CallT) (w : W) (i j : Int) : cmpF G cl .lt (.int i) (.int j) w = .ok (.bl (decide (i < j))) w := Eq.trans rfl rfl
@[simp] theorem cmpF_le (G : Prog) (cl : CallT) (w : W) (i j : Int) : cmpF G cl .le (.int i) (.int j) w = .ok (.bl (decide (i ≤ j))) w := Eq.trans rfl rfl
@[simp] theorem cmpF_gt (G : Prog) (cl : CallT) (w : W) (i j : Int) : cmpF G cl .gt (.int i) (.int j) w = .ok (.bl (decide (j < i))) w := Eq.trans rfl rfl
@[simp] theorem cmpF_ge (G : Prog) (cl : CallT) (w : W) (i j : Int) : cmpF G cl .ge (.int i) (.int j) w = .ok (.bl (decide (j ≤ i))) w := Eq.trans rfl rfl
@[simp] theorem cmpF_eqI (G : Prog) (cl : CallT) (w : W) (i j : Int) : cmpF G cl .eq (.int i) (.int j) w = .ok (.bl (decide (i = j))) w := cmpF_some _ _ _ _ _ _ _ (eqI i j)
@[simp] theorem cmpF_neI (G : Prog) (cl : CallT) (w : W) (i j : Int) : cmpF G cl .ne (.int i) (.int j) w = .ok (.bl (!decide (i = j))) w := cmpF_some _ _ _ _ _ _ _ (c_neI i j)
@[simp] theorem cmpF_eqT (G : Prog) (cl : CallT) (w : W) (i j : Tx) : cmpF G cl .eq (.str i) (.str j) w = .ok (.bl (decide (i = j))) w := cmpF_some _ _ _ _ _ _ _ (eqT i j)
@[simp] theorem cmpF_neT (G : Prog) (cl : CallT) (w : W) (i j : Tx) : cmpF G cl .ne (.str i) (.str j) w = .ok (.bl (!decide (i = j))) w := cmpF_some _ _ _ _ _ _ _ (c_neT i j)
@[simp] theorem t_non : D.truth .non = some false := Eq.trans rfl rfl
@[simp] theorem t_bl (b : Bool) : D.truth (.bl b) = some b := Eq.trans rfl rfl
@[simp] theorem t_int (i : Int) : D.truth (.int i) = some (!decide (i = 0)) := by simp only [D.truth, bne, BEq.beq, instBEqOfDecidableEq]
@[simp] theorem t_lst (xs : List D) : D.truth (.lst xs) = some (!xs.isEmpty) := Eq.trans rfl rfl
@[simp] theorem t_tup (xs : List D) : D.truth (.tup xs) = some (!xs.isEmpty) := Eq.trans rfl rfl
@[simp] theorem at_nat {α : Type} (xs : List α) (n : Nat) : at? xs (n : Int) = xs[n]? := by simp [at?]
@[simp] theorem at_pos {α : Type} (xs : List α) (i : Int) (h : 0 ≤ i) : at? xs i = xs[i.toNat]? := by simp only [at?]; rw [if_pos h]
@[simp] theorem at_last {α : Type} (xs : List α) : at? xs (-1) = xs.getLast? := by
  simp only [at?]
  rw [if_neg (by omega)]
  cases h : xs with
  | nil => simp
  | cons a r =>
    rw [if_pos (by simp; omega), List.getLast?_eq_getElem?]
    congr 1
    simp; omega
@[simp] theorem sub_lst (w : W) (xs : List D) (i : Int) : subF w (.lst xs) (.int i) = at? xs i := Eq.trans rfl rfl
@[simp] theorem sub_tup (w : W) (xs : List D) (i : Int) : subF w (.tup xs) (.int i) = at? xs i := Eq.trans rfl rfl
@[simp] theorem sub_scr (w : W) (xs : List Int) (i : Int) : subF w (.scr xs) (.int i) = (at? xs i).map .int := Eq.trans rfl rfl
@[simp] theorem sub_str (w : W) (s : Tx) (i : Int) (h : s.length ≤ 16000000) : subF w (.str s) (.int i) = (at? s i).map fun c => .str [c] := by simp [subF, view, h]
@[simp] theorem len_lst (w : W) (xs : List D) : lenF w (.lst xs) = some (xs.length : Int) := Eq.trans rfl rfl
@[simp] theorem len_tup (w : W) (xs : List D) : lenF w (.tup xs) = some (xs.length : Int) := Eq.trans rfl rfl
@[simp] theorem len_scr (w : W) (xs : List Int) : lenF w (.scr xs) = some (xs.length : Int) := Eq.trans rfl rfl
@[simp] theorem len_dct (w : W) (xs : List (D × D)) : lenF w (.dct xs) = some (xs.length : Int) := Eq.trans rfl rfl
@[simp] theorem len_str (w : W) (xs : Tx) (h : xs.length ≤ 16000000) : lenF w (.str xs) = some (xs.length : Int) := by simp [lenF, view, h]
@[simp] theorem bi_len (G : Prog) (d : D) (w : W) : biF G .len [d] w = R.lift ((lenF w d).map .int) w := Eq.trans rfl rfl
@[simp] theorem bi_int (G : Prog) (i : Int) (w : W) : biF G .int [.int i] w = .ok (.int i) w := Eq.trans rfl rfl
@[simp] theorem bi_intB (G : Prog) (b : Bool) (w : W) : biF G .int [.bl b] w = .ok (.int (if b then 1 else 0)) w := Eq.trans rfl rfl
@[simp] theorem bi_abs (G : Prog) (i : Int) (w : W) : biF G .abs [.int i] w = .ok (.int (i.natAbs : Int)) w := by
  simp only [biF]; congr 2; omega
@[simp] theorem bi_max (G : Prog) (i j : Int) (w : W) : biF G .max [.int i, .int j] w = .ok (.int (max i j)) w := by
  simp only [biF]; congr 2; omega
@[simp] theorem bi_min (G : Prog) (i j : Int) (w : W) : biF G .min [.int i, .int j] w = .ok (.int (min i j)) w := by
  simp only [biF]; congr 2; omega
@[simp] theorem bi_str (G : Prog) (i : Int) (w : W) (h : i.natAbs < 2 ^ 1900) : biF G .str [.int i] w = .ok (.str (intTx i)) w := by simp only [biF]; rw [if_pos h]
@[simp] theorem bi_strS (G : Prog) (s : Tx) (w : W) : biF G .str [.str s] w = .ok (.str s) w := Eq.trans rfl rfl
@[simp] theorem bi_tup (G : Prog) (xs : List D) (w : W) : biF G .tuple [.lst xs] w = .ok (.tup xs) w := Eq.trans rfl rfl
@[simp] theorem bi_tupT (G : Prog) (xs : List D) (w : W) : biF G .tuple [.tup xs] w = .ok (.tup xs) w := Eq.trans rfl rfl
@[simp] theorem bi_lst (G : Prog) (xs : List D) (w : W) : biF G .list [.lst xs] w = newL false xs w := Eq.trans rfl rfl
@[simp] theorem bi_lstT (G : Prog) (xs : List D) (w : W) : biF G .list [.tup xs] w = newL false xs w := Eq.trans rfl rfl
@[simp] theorem bi_boolB (G : Prog) (b : Bool) (w : W) : biF G .bool [.bl b] w = .ok (.bl b) w := Eq.trans rfl rfl
theorem intsD_map {α : Type} (l : List α) (f : α → Int) : intsD (l.map fun a => .int (f a)) = some (l.map f) := by
  induction l with
  | nil => rfl
  | cons a r ih => simp [intsD, ih]
theorem intsD_mapI (l : List Int) : intsD (l.map .int) = some l := by simpa using intsD_map l id
theorem boolsD_map {α : Type} (l : List α) (f : α → Bool) : boolsD (l.map fun a => .bl (f a)) = some (l.map f) := by
  induction l with
  | nil => rfl
  | cons a r ih => simp [boolsD, ih]
theorem strsD_map {α : Type} (l : List α) (f : α → Tx) : strsD (l.map fun a => .str (f a)) = some (l.map f) := by
  induction l with
  | nil => rfl
  | cons a r ih => simp [strsD, ih]
theorem bi_sum {α : Type} (G : Prog) (w : W) (l : List α) (f : α → Int) : biF G .sum [.lst (l.map fun a => .int (f a))] w = .ok (.int (l.map f).sum) w := by simp only [biF, intsD_map]; rfl
theorem bi_all {α : Type} (G : Prog) (w : W) (l : List α) (f : α → Bool) : biF G .all [.lst (l.map fun a => .bl (f a))] w = .ok (.bl (l.all f)) w := by
  simp only [biF, boolsD_map, Option.map_some, lift_some, List.all_map]; rfl
theorem bi_any {α : Type} (G : Prog) (w : W) (l : List α) (f : α → Bool) : biF G .any [.lst (l.map fun a => .bl (f a))] w = .ok (.bl (l.any f)) w := by
  simp only [biF, boolsD_map, Option.map_some, lift_some, List.any_map]; rfl
@[simp] theorem newL_val (xs : List D) (w : W) (h : xs.length ≤ 16000000) : newL false xs w = .ok (.lst xs) w := by
  simp only [newL]; rw [if_neg (by omega)]; rfl
@[simp] theorem newL_cel (xs : List D) (w : W) (h : xs.length ≤ 16000000) (h2 : D.noRefL xs = true) : newL true xs w = .ok (.cel w.length) (w ++ [.lst xs]) := by
  simp only [newL, h2]; rw [if_neg (by omega)]; rfl
@[simp] theorem items_lst (xs : List D) : items (.lst xs) = some xs := Eq.trans rfl rfl
@[simp] theorem items_tup (xs : List D) : items (.tup xs) = some xs := Eq.trans rfl rfl
@[simp] theorem items_scr (xs : List Int) : items (.scr xs) = some (xs.map .int) := Eq.trans rfl rfl
@[simp] theorem items_str (xs : Tx) : items (.str xs) = some (xs.map fun c => .str [c]) := Eq.trans rfl rfl
@[simp] theorem range_one (b : Int) (h1 : -1152921504606846976 < b) (h : b < 1152921504606846976) : rangeOf [.int b] = some (rangeD 0 b.toNat) := by simp only [rangeOf]; rw [if_pos ⟨h1, h⟩]
@[simp] theorem range_two (a b : Int) (h1 : -1152921504606846976 < a) (h2 : a < 1152921504606846976) (h3 : -1152921504606846976 < b) (h4 : b < 1152921504606846976) : rangeOf [.int a, .int b] = some (rangeD a (b - a).toNat) := by simp only [rangeOf]; rw [if_pos ⟨h1, h2, h3, h4⟩]
@[simp] theorem zipOf_lst (a b : List D) : zipOf [.lst a, .lst b] = some (zipD a b) := Eq.trans rfl rfl
@[simp] theorem zipOf_tup (a b : List D) : zipOf [.tup a, .tup b] = some (zipD a b) := Eq.trans rfl rfl
@[simp] theorem asgN_loc (i : Nat) (d : D) (env : Env) : asgN (.loc i) d env = if i < env.length then some (env.set i (some d)) else none := by simp only [asgN]
@[simp] theorem asgN_tup (ts : Ts) (ds : List D) (env : Env) : asgN (.tup ts) (.tup ds) env = asgN.asgNs ts ds env := by simp only [asgN, unpack]
@[simp] theorem asgN_lst (ts : Ts) (ds : List D) (env : Env) : asgN (.tup ts) (.lst ds) env = asgN.asgNs ts ds env := by simp only [asgN, unpack]
@[simp] theorem asgNs_nil (env : Env) : asgN.asgNs .nil [] env = some env := by simp only [asgN.asgNs]
@[simp] theorem asgNs_cons (t : T) (r : Ts) (d : D) (ds : List D) (env : Env) : asgN.asgNs (.cons t r) (d :: ds) env = els (asgN t d env) none (fun env => asgN.asgNs r ds env) ⟨⟩ := by
  simp only [asgN.asgNs]; cases asgN t d env <;> rfl
@[simp] theorem wipe_nil (env : Env) : wipeE env [] = env := Eq.trans rfl rfl
@[simp] theorem wipe_cons (env : Env) (i : Nat) (r : List Nat) : wipeE env (i :: r) = (wipeE env r).set i none := Eq.trans rfl rfl
@[simp] theorem fmt_int (i : Int) (h : i.natAbs < 2 ^ 1900) : fmtF (.int i) = some (.str (intTx i)) := by simp only [fmtF]; rw [if_pos h]
@[simp] theorem fmt_str (s : Tx) (h : s.length ≤ 16000000) : fmtF (.str s) = some (.str s) := by simp only [fmtF]; rw [if_pos h]
@[simp] theorem bmTy_split (s : Tx) (w : W) : bmTy .split (.str s) w = true := Eq.trans rfl rfl
@[simp] theorem bmTy_join (s : Tx) (w : W) : bmTy .join (.str s) w = true := Eq.trans rfl rfl
@[simp] theorem split_ok (s : Tx) (c : Nat) (w : W) (h : s.length ≤ 16000000) (hc : c < 256) : bmF .split (.str s) [.str [c]] w = .ok (.lst ((splitC c s).map .str)) w := by simp only [bmF]; rw [if_pos ⟨h, hc⟩]
theorem join_ok {α : Type} (s : Tx) (l : List α) (f : α → Tx) (w : W) (h : ((l.map f).map List.length).sum + (l.map f).length * s.length ≤ 16000000) : bmF .join (.str s) [.lst (l.map fun a => .str (f a))] w = .ok (.str (joinT s (l.map f))) w := by
  simp only [bmF, strsD_map]; rw [if_pos h]

@[simp] theorem da_non : D.isData .non = true := Eq.trans rfl rfl
@[simp] theorem da_bl (b : Bool) : D.isData (.bl b) = true := Eq.trans rfl rfl
@[simp] theorem da_int (b : Int) : D.isData (.int b) = true := Eq.trans rfl rfl
@[simp] theorem da_str (b : Tx) : D.isData (.str b) = true := Eq.trans rfl rfl
@[simp] theorem da_tup (b : List D) : D.isData (.tup b) = D.isDataL b := Eq.trans (by simp only [D.isData]) rfl
@[simp] theorem da_lst (b : List D) : D.isData (.lst b) = D.isDataL b := Eq.trans (by simp only [D.isData]) rfl
@[simp] theorem daL_nil : D.isDataL [] = true := Eq.trans rfl rfl
@[simp] theorem daL_cons (x : D) (r : List D) : D.isDataL (x :: r) = (x.isData && D.isDataL r) := Eq.trans (by simp only [D.isDataL]) rfl
@[simp] theorem dp_non : D.dep .non = 0 := Eq.trans rfl rfl
@[simp] theorem dp_bl (b : Bool) : D.dep (.bl b) = 0 := Eq.trans rfl rfl
@[simp] theorem dp_int (b : Int) : D.dep (.int b) = 0 := Eq.trans rfl rfl
@[simp] theorem dp_str (b : Tx) : D.dep (.str b) = 0 := Eq.trans rfl rfl
@[simp] theorem dp_tup (b : List D) : D.dep (.tup b) = D.depL b + 1 := Eq.trans (by simp only [D.dep]) rfl
@[simp] theorem dp_lst (b : List D) : D.dep (.lst b) = D.depL b + 1 := Eq.trans (by simp only [D.dep]) rfl
@[simp] theorem dpL_nil : D.depL [] = 0 := Eq.trans rfl rfl
@[simp] theorem dpL_cons (x : D) (r : List D) : D.depL (x :: r) = max x.dep (D.depL r) := Eq.trans (by simp only [D.depL]) rfl
@[simp] theorem daL_app (a b : List D) : D.isDataL (a ++ b) = (D.isDataL a && D.isDataL b) := by
  induction a with
  | nil => simp
  | cons x r ih => simp [ih, Bool.and_assoc]
@[simp] theorem dpL_app (a b : List D) : D.depL (a ++ b) = max (D.depL a) (D.depL b) := by
  induction a with
  | nil => simp
  | cons x r ih => simp [ih, Nat.max_assoc]
theorem daL_map {α : Type} (l : List α) (f : α → D) (h : ∀ a ∈ l, (f a).isData = true) : D.isDataL (l.map f) = true := by
  induction l with
  | nil => rfl
  | cons a r ih => simp [h a (by simp), ih fun x hx => h x (by simp [hx])]
theorem dpL_map {α : Type} (l : List α) (f : α → D) (n : Nat) (h : ∀ a ∈ l, (f a).dep ≤ n) : D.depL (l.map f) ≤ n := by
  induction l with
  | nil => simp
  | cons a r ih =>
    have h1 := h a (by simp)
    have h2 := ih fun x hx => h x (by simp [hx])
    simp only [List.map_cons, dpL_cons]; omega
theorem dataOk_of {d : D} (h : d.isData = true) (h2 : d.dep ≤ 60) : d.dataOk = true := by simp [D.dataOk, h, h2]
theorem dataOk_lstM {α : Type} {l : List α} {f : α → D} (h : ∀ a ∈ l, (f a).isData = true) (h2 : ∀ a ∈ l, (f a).dep ≤ 50) : (D.lst (l.map f)).dataOk = true :=
  dataOk_of (by simp only [da_lst]; exact daL_map l f h) (by have := dpL_map l f 50 h2; simp only [dp_lst]; omega)
theorem dataOk_tupM {α : Type} {l : List α} {f : α → D} (h : ∀ a ∈ l, (f a).isData = true) (h2 : ∀ a ∈ l, (f a).dep ≤ 50) : (D.tup (l.map f)).dataOk = true :=
  dataOk_of (by simp only [da_tup]; exact daL_map l f h) (by have := dpL_map l f 50 h2; simp only [dp_tup]; omega)
theorem eq_of {a b : D} (h : a.dataOk = true) (h2 : b.dataOk = true) : D.eq a b = some (D.eqv a b) := by simp [D.eq, h, h2]
@[simp] theorem ev_int (i j : Int) : D.eqv (.int i) (.int j) = decide (i = j) := by
  simp only [D.eqv]; rfl
@[simp] theorem ev_str (i j : Tx) : D.eqv (.str i) (.str j) = decide (i = j) := Eq.trans (by simp only [D.eqv]) rfl
@[simp] theorem ev_bl (i j : Bool) : D.eqv (.bl i) (.bl j) = decide (i = j) := by
  cases i <;> cases j <;> rfl
@[simp] theorem ev_non : D.eqv .non .non = true := Eq.trans (by simp only [D.eqv]) rfl
@[simp] theorem ev_tup (i j : List D) : D.eqv (.tup i) (.tup j) = D.eqvL i j := Eq.trans (by simp only [D.eqv]) rfl
@[simp] theorem ev_lst (i j : List D) : D.eqv (.lst i) (.lst j) = D.eqvL i j := Eq.trans (by simp only [D.eqv]) rfl
@[simp] theorem evL_nil : D.eqvL [] [] = true := Eq.trans (by simp only [D.eqvL]) rfl
@[simp] theorem evL_cons (x y : D) (r s : List D) : D.eqvL (x :: r) (y :: s) = (D.eqv x y && D.eqvL r s) := Eq.trans (by simp only [D.eqvL]) rfl
@[simp] theorem evL_nc (y : D) (s : List D) : D.eqvL [] (y :: s) = false := Eq.trans (by simp only [D.eqvL]) rfl
@[simp] theorem evL_cn (y : D) (s : List D) : D.eqvL (y :: s) [] = false := Eq.trans (by simp only [D.eqvL]) rfl
@[simp] theorem ev_int_str (i : Int) (s : Tx) : D.eqv (.int i) (.str s) = false := Eq.trans (by simp only [D.eqv]) rfl
@[simp] theorem ev_str_int (i : Int) (s : Tx) : D.eqv (.str s) (.int i) = false := Eq.trans (by simp only [D.eqv]) rfl
@[simp] theorem ev_non_int (i : Int) : D.eqv .non (.int i) = false := Eq.trans (by simp only [D.eqv]) rfl
@[simp] theorem ev_int_non (i : Int) : D.eqv (.int i) .non = false := Eq.trans (by simp only [D.eqv]) rfl
@[simp] theorem ev_non_str (i : Tx) : D.eqv .non (.str i) = false := Eq.trans (by simp only [D.eqv]) rfl
@[simp] theorem ev_str_non (i : Tx) : D.eqv (.str i) .non = false := Eq.trans (by simp only [D.eqv]) rfl
@[simp] theorem ev_tup_non (i : List D) : D.eqv (.tup i) .non = false := Eq.trans (by simp only [D.eqv]) rfl
@[simp] theorem ev_non_tup (i : List D) : D.eqv .non (.tup i) = false := Eq.trans (by simp only [D.eqv]) rfl
@[simp] theorem ev_lst_non (i : List D) : D.eqv (.lst i) .non = false := Eq.trans (by simp only [D.eqv]) rfl
@[simp] theorem ev_lst_tup (i j : List D) : D.eqv (.lst i) (.tup j) = false := Eq.trans (by simp only [D.eqv]) rfl
@[simp] theorem ev_tup_lst (i j : List D) : D.eqv (.tup i) (.lst j) = false := Eq.trans (by simp only [D.eqv]) rfl
theorem in_tup {x : D} {ys : List D} (h : x.dataOk = true) (h2 : (D.tup ys).dataOk = true) : cmpop .in x (.tup ys) = some (ys.any fun y => D.eqv y x) := by
  have e : (x.dataOk && (D.tup ys).dataOk) = true := by rw [h, h2]; rfl
  simp only [cmpop, inL]; rw [if_pos e]
theorem nin_tupD {x : D} {ys : List D} (h : x.dataOk = true) (h2 : (D.tup ys).dataOk = true) : cmpop .nin x (.tup ys) = some (!ys.any fun y => D.eqv y x) := by
  have e : (x.dataOk && (D.tup ys).dataOk) = true := by rw [h, h2]; rfl
  simp only [cmpop, inL]; rw [if_pos e]; rfl
theorem eqv_nilL (xs : List D) : D.eqv (.lst xs) (.lst []) = xs.isEmpty := by cases xs <;> simp [D.eqv, D.eqvL]
theorem eqv_nilT (xs : List D) : D.eqv (.tup xs) (.tup []) = xs.isEmpty := by cases xs <;> simp [D.eqv, D.eqvL]
theorem cmp_eq {G : Prog} {cl : CallT} {x y : D} {w : W} (h : x.dataOk = true) (h2 : y.dataOk = true) : cmpF G cl .eq x y w = .ok (.bl (D.eqv x y)) w := by
  have : cmpop .eq x y = some (D.eqv x y) := eq_of h h2
  simp [cmpF, this]
theorem cmp_ne {G : Prog} {cl : CallT} {x y : D} {w : W} (h : x.dataOk = true) (h2 : y.dataOk = true) : cmpF G cl .ne x y w = .ok (.bl (!D.eqv x y)) w := by
  have : cmpop .ne x y = some (!D.eqv x y) := by show (D.eq x y).map _ = _; rw [eq_of h h2]; rfl
  simp [cmpF, this]
theorem cmp_neNilL {G : Prog} {cl : CallT} {xs : List D} {w : W} (h : (D.lst xs).dataOk = true) : cmpF G cl .ne (.lst xs) (.lst []) w = .ok (.bl (!xs.isEmpty)) w := by rw [cmp_ne h rfl, eqv_nilL]
theorem cmp_eqNilT {G : Prog} {cl : CallT} {xs : List D} {w : W} (h : (D.tup xs).dataOk = true) : cmpF G cl .eq (.tup xs) (.tup []) w = .ok (.bl xs.isEmpty) w := by rw [cmp_eq h rfl, eqv_nilT]
def mkEnd (c : Nat) (frz : Bool) (n : Nat) (d : D) (w' : W) : R D := match d with
  | .non => if frz then (match w'[n]? with
    | some (.ins c' fs) => if c' = c then .ok (.obj c fs) (w'.take n) else .bad
    | _ => .bad) else .ok (.cel n) w'
  | _ => .bad
@[simp] theorem mkEnd_here (c : Nat) (w : W) (fs : List (Nat × D)) : mkEnd c true w.length .non (w ++ [.ins c fs]) = .ok (.obj c fs) w := by simp [mkEnd]
@[simp] theorem mkEnd_cel (c n : Nat) (w : W) : mkEnd c false n .non w = .ok (.cel n) w := Eq.trans rfl rfl
def nxR (r : R D) : R D := r.nx
@[simp ↓] theorem nxR_ok (v : D) (w : W) : nxR (.ok v w) = .ok v w := Eq.trans rfl rfl
@[simp] theorem nxR_ok' (v : D) (w : W) : nxR (.ok v w) = .ok v w := Eq.trans rfl rfl
def nxQ (Q : R D → Prop) (_ : Tag Q) (r : R D) : Prop := Q r.nx
@[simp ↓] theorem wp_nx (x : R D) (Q : R D → Prop) (s : Tag Q) : wp (nxR x) Q s = wp x (nxQ Q s) ⟨⟩ := Eq.trans rfl rfl
@[simp] theorem nxQ_ok (Q : R D → Prop) (s : Tag Q) (d : D) (w : W) : nxQ Q s (.ok d w) = Q (.ok d w) := Eq.trans rfl rfl
def fldOf : List (Nat × D) → Nat → Option D
  | [], _ => none
  | (g, v) :: r, f => if f = g then some v else fldOf r f
@[simp] theorem fldOf_cons (g : Nat) (v : D) (r : List (Nat × D)) (f : Nat) : fldOf ((g, v) :: r) f = if f = g then some v else fldOf r f := Eq.trans rfl rfl
theorem fldOf_eq : ∀ (fs : List (Nat × D)) (f : Nat), fldOf fs f = fs.lookup f
  | [], f => rfl
  | (g, v) :: r, f => by
    simp only [fldOf, List.lookup]
    by_cases h : f = g
    · subst h; simp
    · rw [if_neg h, show (f == g) = false by simpa using h]; exact fldOf_eq r f
theorem attr_fld {G : Prog} {cl : CallT} {c : Nat} {q : Cls} {fs : List (Nat × D)} {f : Nat} {w : W} (h : G.cls c = some q) (h1 : q.props.lookup f = none) (h2 : q.meths.lookup f = none) : attrF G cl (.obj c fs) f w = R.lift (fldOf fs f) w := by
  simp only [attrF, view, h, h1, h2, fldOf_eq]
  cases fs.lookup f <;> rfl
@[simp] theorem isTs_nil (G : Prog) (d : D) : isTs G d [] = some false := Eq.trans rfl rfl
@[simp] theorem isTs_cons (G : Prog) (d : D) (t : Sum BT Nat) (r : List (Sum BT Nat)) : isTs G d (t :: r) = els (isT G d t) none (fun b => sel b (some true) (isTs G d r) ⟨⟩ ⟨⟩) ⟨⟩ := by
  simp only [isTs]
  cases isT G d t with
  | none => rfl
  | some b => cases b <;> rfl
@[simp] theorem isT_obj (G : Prog) (c g : Nat) (fs : List (Nat × D)) : isT G (.obj c fs) (.inr g) = if (G.cls g).isNone then none else (G.cls c).map fun k => k.up.contains g := Eq.trans rfl rfl
@[simp] theorem isT_objB (G : Prog) (c : Nat) (fs : List (Nat × D)) (t : BT) : isT G (.obj c fs) (.inl t) = (G.cls c).map fun k => k.upB.contains t := by cases t <;> rfl
@[simp] theorem isT_int_int (G : Prog) (i : Int) : isT G (.int i) (.inl .int) = some true := Eq.trans rfl rfl
@[simp] theorem isT_int_bool (G : Prog) (i : Int) : isT G (.int i) (.inl .bool) = some false := Eq.trans rfl rfl
@[simp] theorem isT_int_str (G : Prog) (i : Int) : isT G (.int i) (.inl .str) = some false := Eq.trans rfl rfl
@[simp] theorem isT_int_tuple (G : Prog) (i : Int) : isT G (.int i) (.inl .tuple) = some false := Eq.trans rfl rfl
@[simp] theorem isT_int_list (G : Prog) (i : Int) : isT G (.int i) (.inl .list) = some false := Eq.trans rfl rfl
@[simp] theorem isT_int_dict (G : Prog) (i : Int) : isT G (.int i) (.inl .dict) = some false := Eq.trans rfl rfl
@[simp] theorem isT_int_valueError (G : Prog) (i : Int) : isT G (.int i) (.inl .valueError) = some false := Eq.trans rfl rfl
@[simp] theorem isT_int_lookupError (G : Prog) (i : Int) : isT G (.int i) (.inl .lookupError) = some false := Eq.trans rfl rfl
@[simp] theorem isT_int_arithmeticError (G : Prog) (i : Int) : isT G (.int i) (.inl .arithmeticError) = some false := Eq.trans rfl rfl
@[simp] theorem isT_int_c (G : Prog) (i : Int) (g : Nat) : isT G (.int i) (.inr g) = if (G.cls g).isNone then none else some false := Eq.trans rfl rfl
@[simp] theorem isT_bl_int (G : Prog) (b : Bool) : isT G (.bl b) (.inl .int) = some true := Eq.trans rfl rfl
@[simp] theorem isT_bl_bool (G : Prog) (b : Bool) : isT G (.bl b) (.inl .bool) = some true := Eq.trans rfl rfl
@[simp] theorem isT_bl_str (G : Prog) (b : Bool) : isT G (.bl b) (.inl .str) = some false := Eq.trans rfl rfl
@[simp] theorem isT_bl_tuple (G : Prog) (b : Bool) : isT G (.bl b) (.inl .tuple) = some false := Eq.trans rfl rfl
@[simp] theorem isT_bl_list (G : Prog) (b : Bool) : isT G (.bl b) (.inl .list) = some false := Eq.trans rfl rfl
@[simp] theorem isT_bl_dict (G : Prog) (b : Bool) : isT G (.bl b) (.inl .dict) = some false := Eq.trans rfl rfl
@[simp] theorem isT_bl_valueError (G : Prog) (b : Bool) : isT G (.bl b) (.inl .valueError) = some false := Eq.trans rfl rfl
@[simp] theorem isT_bl_lookupError (G : Prog) (b : Bool) : isT G (.bl b) (.inl .lookupError) = some false := Eq.trans rfl rfl
@[simp] theorem isT_bl_arithmeticError (G : Prog) (b : Bool) : isT G (.bl b) (.inl .arithmeticError) = some false := Eq.trans rfl rfl
@[simp] theorem isT_bl_c (G : Prog) (b : Bool) (g : Nat) : isT G (.bl b) (.inr g) = if (G.cls g).isNone then none else some false := Eq.trans rfl rfl
@[simp] theorem isT_str_int (G : Prog) (s : Tx) : isT G (.str s) (.inl .int) = some false := Eq.trans rfl rfl
@[simp] theorem isT_str_bool (G : Prog) (s : Tx) : isT G (.str s) (.inl .bool) = some false := Eq.trans rfl rfl
@[simp] theorem isT_str_str (G : Prog) (s : Tx) : isT G (.str s) (.inl .str) = some true := Eq.trans rfl rfl
@[simp] theorem isT_str_tuple (G : Prog) (s : Tx) : isT G (.str s) (.inl .tuple) = some false := Eq.trans rfl rfl
@[simp] theorem isT_str_list (G : Prog) (s : Tx) : isT G (.str s) (.inl .list) = some false := Eq.trans rfl rfl
@[simp] theorem isT_str_dict (G : Prog) (s : Tx) : isT G (.str s) (.inl .dict) = some false := Eq.trans rfl rfl
@[simp] theorem isT_str_valueError (G : Prog) (s : Tx) : isT G (.str s) (.inl .valueError) = some false := Eq.trans rfl rfl
@[simp] theorem isT_str_lookupError (G : Prog) (s : Tx) : isT G (.str s) (.inl .lookupError) = some false := Eq.trans rfl rfl
@[simp] theorem isT_str_arithmeticError (G : Prog) (s : Tx) : isT G (.str s) (.inl .arithmeticError) = some false := Eq.trans rfl rfl
@[simp] theorem isT_str_c (G : Prog) (s : Tx) (g : Nat) : isT G (.str s) (.inr g) = if (G.cls g).isNone then none else some false := Eq.trans rfl rfl
@[simp] theorem isT_tup_int (G : Prog) (x : List D) : isT G (.tup x) (.inl .int) = some false := Eq.trans rfl rfl
@[simp] theorem isT_tup_bool (G : Prog) (x : List D) : isT G (.tup x) (.inl .bool) = some false := Eq.trans rfl rfl
@[simp] theorem isT_tup_str (G : Prog) (x : List D) : isT G (.tup x) (.inl .str) = some false := Eq.trans rfl rfl
@[simp] theorem isT_tup_tuple (G : Prog) (x : List D) : isT G (.tup x) (.inl .tuple) = some true := Eq.trans rfl rfl
@[simp] theorem isT_tup_list (G : Prog) (x : List D) : isT G (.tup x) (.inl .list) = some false := Eq.trans rfl rfl
@[simp] theorem isT_tup_dict (G : Prog) (x : List D) : isT G (.tup x) (.inl .dict) = some false := Eq.trans rfl rfl
@[simp] theorem isT_tup_valueError (G : Prog) (x : List D) : isT G (.tup x) (.inl .valueError) = some false := Eq.trans rfl rfl
@[simp] theorem isT_tup_lookupError (G : Prog) (x : List D) : isT G (.tup x) (.inl .lookupError) = some false := Eq.trans rfl rfl
@[simp] theorem isT_tup_arithmeticError (G : Prog) (x : List D) : isT G (.tup x) (.inl .arithmeticError) = some false := Eq.trans rfl rfl
@[simp] theorem isT_tup_c (G : Prog) (x : List D) (g : Nat) : isT G (.tup x) (.inr g) = if (G.cls g).isNone then none else some false := Eq.trans rfl rfl
@[simp] theorem isT_lst_int (G : Prog) (x : List D) : isT G (.lst x) (.inl .int) = some false := Eq.trans rfl rfl
@[simp] theorem isT_lst_bool (G : Prog) (x : List D) : isT G (.lst x) (.inl .bool) = some false := Eq.trans rfl rfl
@[simp] theorem isT_lst_str (G : Prog) (x : List D) : isT G (.lst x) (.inl .str) = some false := Eq.trans rfl rfl
@[simp] theorem isT_lst_tuple (G : Prog) (x : List D) : isT G (.lst x) (.inl .tuple) = some false := Eq.trans rfl rfl
@[simp] theorem isT_lst_list (G : Prog) (x : List D) : isT G (.lst x) (.inl .list) = some true := Eq.trans rfl rfl
@[simp] theorem isT_lst_dict (G : Prog) (x : List D) : isT G (.lst x) (.inl .dict) = some false := Eq.trans rfl rfl
@[simp] theorem isT_lst_valueError (G : Prog) (x : List D) : isT G (.lst x) (.inl .valueError) = some false := Eq.trans rfl rfl
@[simp] theorem isT_lst_lookupError (G : Prog) (x : List D) : isT G (.lst x) (.inl .lookupError) = some false := Eq.trans rfl rfl
@[simp] theorem isT_lst_arithmeticError (G : Prog) (x : List D) : isT G (.lst x) (.inl .arithmeticError) = some false := Eq.trans rfl rfl
@[simp] theorem isT_lst_c (G : Prog) (x : List D) (g : Nat) : isT G (.lst x) (.inr g) = if (G.cls g).isNone then none else some false := Eq.trans rfl rfl
@[simp] theorem isT_dct_int (G : Prog) (x : List (D × D)) : isT G (.dct x) (.inl .int) = some false := Eq.trans rfl rfl
@[simp] theorem isT_dct_bool (G : Prog) (x : List (D × D)) : isT G (.dct x) (.inl .bool) = some false := Eq.trans rfl rfl
@[simp] theorem isT_dct_str (G : Prog) (x : List (D × D)) : isT G (.dct x) (.inl .str) = some false := Eq.trans rfl rfl
@[simp] theorem isT_dct_tuple (G : Prog) (x : List (D × D)) : isT G (.dct x) (.inl .tuple) = some false := Eq.trans rfl rfl
@[simp] theorem isT_dct_list (G : Prog) (x : List (D × D)) : isT G (.dct x) (.inl .list) = some false := Eq.trans rfl rfl
@[simp] theorem isT_dct_dict (G : Prog) (x : List (D × D)) : isT G (.dct x) (.inl .dict) = some true := Eq.trans rfl rfl
@[simp] theorem isT_dct_valueError (G : Prog) (x : List (D × D)) : isT G (.dct x) (.inl .valueError) = some false := Eq.trans rfl rfl
@[simp] theorem isT_dct_lookupError (G : Prog) (x : List (D × D)) : isT G (.dct x) (.inl .lookupError) = some false := Eq.trans rfl rfl
@[simp] theorem isT_dct_arithmeticError (G : Prog) (x : List (D × D)) : isT G (.dct x) (.inl .arithmeticError) = some false := Eq.trans rfl rfl
@[simp] theorem isT_dct_c (G : Prog) (x : List (D × D)) (g : Nat) : isT G (.dct x) (.inr g) = if (G.cls g).isNone then none else some false := Eq.trans rfl rfl
@[simp] theorem isT_non_int (G : Prog)  : isT G (.non) (.inl .int) = some false := Eq.trans rfl rfl
@[simp] theorem isT_non_bool (G : Prog)  : isT G (.non) (.inl .bool) = some false := Eq.trans rfl rfl
@[simp] theorem isT_non_str (G : Prog)  : isT G (.non) (.inl .str) = some false := Eq.trans rfl rfl
@[simp] theorem isT_non_tuple (G : Prog)  : isT G (.non) (.inl .tuple) = some false := Eq.trans rfl rfl
@[simp] theorem isT_non_list (G : Prog)  : isT G (.non) (.inl .list) = some false := Eq.trans rfl rfl
@[simp] theorem isT_non_dict (G : Prog)  : isT G (.non) (.inl .dict) = some false := Eq.trans rfl rfl
@[simp] theorem isT_non_valueError (G : Prog)  : isT G (.non) (.inl .valueError) = some false := Eq.trans rfl rfl
@[simp] theorem isT_non_lookupError (G : Prog)  : isT G (.non) (.inl .lookupError) = some false := Eq.trans rfl rfl
@[simp] theorem isT_non_arithmeticError (G : Prog)  : isT G (.non) (.inl .arithmeticError) = some false := Eq.trans rfl rfl
@[simp] theorem isT_non_c (G : Prog)  (g : Nat) : isT G (.non) (.inr g) = if (G.cls g).isNone then none else some false := Eq.trans rfl rfl
@[simp] theorem cut_from {α : Type} (xs : List α) (i : Int) (h : 0 ≤ i) : cut xs (.int i) .non = some (xs.drop i.toNat) := by
  simp only [cut, cutIx]
  rw [if_pos h]
  simp only [List.take_length]
  congr 1
  by_cases h2 : i.toNat ≤ xs.length
  · rw [Nat.min_eq_left h2]
  · rw [Nat.min_eq_right (by omega), List.drop_of_length_le (by omega), List.drop_of_length_le (by omega)]
@[simp] theorem cut_to {α : Type} (xs : List α) (i : Int) (h : 0 ≤ i) : cut xs .non (.int i) = some (xs.take i.toNat) := by
  simp only [cut, cutIx]
  rw [if_pos h]
  simp only [List.drop_zero]
  congr 1
  by_cases h2 : i.toNat ≤ xs.length
  · rw [Nat.min_eq_left h2]
  · rw [Nat.min_eq_right (by omega), List.take_of_length_le (by omega), List.take_of_length_le (by omega)]
@[simp] theorem cut_init {α : Type} (xs : List α) : cut xs .non (.int (-1)) = some xs.dropLast := by
  simp only [cut, cutIx]
  rw [if_neg (by omega)]
  simp only [List.drop_zero, List.dropLast_eq_take]
  congr 2; omega
@[simp] theorem cut_mid {α : Type} (xs : List α) (i j : Int) (h : 0 ≤ i) (h2 : 0 ≤ j) : cut xs (.int i) (.int j) = some ((xs.take j.toNat).drop i.toNat) := by
  simp only [cut, cutIx]
  rw [if_pos h, if_pos h2]
  congr 1
  have e : xs.take (min j.toNat xs.length) = xs.take j.toNat := by
    by_cases h2 : j.toNat ≤ xs.length
    · rw [Nat.min_eq_left h2]
    · rw [Nat.min_eq_right (by omega), List.take_of_length_le (by omega), List.take_of_length_le (by omega)]
  rw [e]
  by_cases h3 : i.toNat ≤ xs.length
  · rw [Nat.min_eq_left h3]
  · rw [Nat.min_eq_right (by omega), List.drop_of_length_le (by simp; omega), List.drop_of_length_le (by simp; omega)]
@[simp] theorem slc_lst (xs : List D) (lo hi : D) (w : W) : slcF (.lst xs) lo hi w = R.lift ((cut xs lo hi).map .lst) w := Eq.trans rfl rfl
@[simp] theorem slc_scr (xs : List Int) (lo hi : D) (w : W) : slcF (.scr xs) lo hi w = R.lift ((cut xs lo hi).map fun l => .lst (l.map .int)) w := Eq.trans rfl rfl
@[simp] theorem slc_tup (xs : List D) (lo hi : D) (w : W) : slcF (.tup xs) lo hi w = R.lift ((cut xs lo hi).map .tup) w := Eq.trans rfl rfl
@[simp] theorem slc_str (xs : Tx) (lo hi : D) (w : W) (h : xs.length ≤ 16000000) : slcF (.str xs) lo hi w = R.lift ((cut xs lo hi).map .str) w := by simp only [slcF]; rw [if_pos h]
def fin (kp : Bool) (n : Nat) : O → R D
  | .next _ w' => R.shut kp n (.ok .non w')
  | .ret d w' => R.shut kp n (.ok d w')
  | .exc e _ w' => R.shut kp n (.exc e w')
  | _ => .bad
def finQ (kp : Bool) (n : Nat) (Q : R D → Prop) (_ : Tag Q) (o : O) : Prop := Q (fin kp n o)
@[simp ↓] theorem wp_fin (kp : Bool) (n : Nat) (x : O) (Q : R D → Prop) (s : Tag Q) : wp (fin kp n x) Q s = wpo x (finQ kp n Q s) ⟨⟩ := Eq.trans rfl rfl
@[simp] theorem fin_ret (kp : Bool) (n : Nat) (d : D) (w : W) (h : w.length = n) : fin kp n (.ret d w) = .ok d w := by
  cases kp <;> simp [fin, R.shut, shut, h]
@[simp] theorem fin_next (kp : Bool) (n : Nat) (env : Env) (w : W) (h : w.length = n) : fin kp n (.next env w) = .ok .non w := by
  cases kp <;> simp [fin, R.shut, shut, h]
@[simp] theorem fin_exc (kp : Bool) (n : Nat) (e : D) (env : Env) (w : W) (h : w.length = n) : fin kp n (.exc e env w) = .exc e w := by
  cases kp <;> simp [fin, R.shut, shut, h]
@[simp] theorem fin_keep (n : Nat) (d : D) (w : W) : fin true n (.ret d w) = .ok d w := by simp [fin, R.shut, shut]
@[simp] theorem finQ_ret (kp : Bool) (n : Nat) (Q : R D → Prop) (s : Tag Q) (d : D) (w : W) (h : w.length = n) : finQ kp n Q s (.ret d w) = Q (.ok d w) := by simp only [finQ, fin_ret kp n d w h]
@[simp] theorem finQ_next (kp : Bool) (n : Nat) (Q : R D → Prop) (s : Tag Q) (env : Env) (w : W) (h : w.length = n) : finQ kp n Q s (.next env w) = Q (.ok .non w) := by simp only [finQ, fin_next kp n env w h]
@[simp] theorem finQ_exc (kp : Bool) (n : Nat) (Q : R D → Prop) (s : Tag Q) (e : D) (env : Env) (w : W) (h : w.length = n) : finQ kp n Q s (.exc e env w) = Q (.exc e w) := by simp only [finQ, fin_exc kp n e env w h]
@[simp] theorem finQ_keep (n : Nat) (Q : R D → Prop) (s : Tag Q) (d : D) (w : W) : finQ true n Q s (.ret d w) = Q (.ok d w) := by simp only [finQ, fin_keep]
theorem fin_drop (n : Nat) (d : D) (w : W) (h : d.noRef = true) (hn : n ≤ w.length) : fin false n (.ret d w) = .ok d (w.take n) := by
  simp only [fin, R.shut, shut, h]
  by_cases hw : w.length = n
  · subst hw; simp
  · simp [hw]
theorem run_fin (G : Prog) (k g : Nat) (ds : List D) (w : W) (f : Fn) (h : G.fn g = some f) (hl : ds.length = f.np) (hn : f.np ≤ f.nloc) :
    run G (k + 1) g ds w = fin f.keep w.length (execs G (run G k) f.body (ds.map some ++ List.replicate (f.nloc - f.np) none) w) := by
  simp only [run, h, body]
  rw [if_pos ⟨hl, hn⟩]
  rfl
def stepQ (I : Env → W → Prop) (Q : O → Prop) (_ : Tag I) (_ : Tag Q) : O → Prop
  | .next env w => I env w | .cnt env w => I env w | .brk env w => Q (.next env w) | .ret d w => Q (.ret d w) | .exc e env w => Q (.exc e env w) | .bad => False
@[simp ↓] theorem stepQ_next (I : Env → W → Prop) (Q : O → Prop) (t : Tag I) (u : Tag Q) (env : Env) (w : W) : stepQ I Q t u (.next env w) = I env w := Eq.trans rfl rfl
@[simp ↓] theorem stepQ_cnt (I : Env → W → Prop) (Q : O → Prop) (t : Tag I) (u : Tag Q) (env : Env) (w : W) : stepQ I Q t u (.cnt env w) = I env w := Eq.trans rfl rfl
@[simp ↓] theorem stepQ_brk (I : Env → W → Prop) (Q : O → Prop) (t : Tag I) (u : Tag Q) (env : Env) (w : W) : stepQ I Q t u (.brk env w) = Q (.next env w) := Eq.trans rfl rfl
@[simp ↓] theorem stepQ_ret (I : Env → W → Prop) (Q : O → Prop) (t : Tag I) (u : Tag Q) (d : D) (w : W) : stepQ I Q t u (.ret d w) = Q (.ret d w) := Eq.trans rfl rfl
@[simp ↓] theorem stepQ_exc (I : Env → W → Prop) (Q : O → Prop) (t : Tag I) (u : Tag Q) (e : D) (env : Env) (w : W) : stepQ I Q t u (.exc e env w) = Q (.exc e env w) := Eq.trans rfl rfl
@[simp ↓] theorem wpo_turn (G : Prog) (cl : CallT) (t : T) (b : Ss) (d : D) (env : Env) (w : W) (Q : O → Prop) (s : Tag Q) : wpo (turnF G cl t b d env w) Q s = wpo (els (asgN t d env) .bad (fun env => execs G cl b env w) ⟨⟩) Q s := Eq.trans rfl rfl
theorem loop_wp {G : Prog} {cl : CallT} {t : T} {b : Ss} {t1 : Tag t} {t2 : Tag b} {α : Type} {φ : α → D} {l : List α} {env : Env} {w : W} {Q : O → Prop} {s : Tag Q} (I : List α → Env → W → Prop)
    (h0 : I [] env w) (hs : ∀ (a : α) (done rest : List α), l = done ++ a :: rest → ∀ env w, I done env w → wpo (turnF G cl t b (φ a) env w) (stepQ (I (done ++ [a])) Q ⟨⟩ ⟨⟩) ⟨⟩)
    (he : ∀ env w, I l env w → Q (.next env w)) : wpo (loopL G cl t b t1 t2 (l.map φ) env w) Q s := by
  have key : ∀ (rest done : List α), l = done ++ rest → ∀ env w, I done env w → Q (loopF (turnF G cl t b) (rest.map φ) env w) := by
    intro rest
    induction rest with
    | nil => intro done e env w hi; simp at e; subst e; exact he env w hi
    | cons a r ih =>
      intro done e env w hi
      have h := hs a done r e env w hi
      simp only [wpo] at h
      simp only [List.map_cons, loopF]
      cases ht : turnF G cl t b (φ a) env w with
      | next env' w' => rw [ht] at h; exact ih (done ++ [a]) (by rw [e]; simp) env' w' h
      | cnt env' w' => rw [ht] at h; exact ih (done ++ [a]) (by rw [e]; simp) env' w' h
      | brk env' w' => rw [ht] at h; exact h
      | ret d w' => rw [ht] at h; exact h
      | exc e env' w' => rw [ht] at h; exact h
      | bad => rw [ht] at h; exact h.elim
  exact key l [] rfl env w h0
def elemF (G : Prog) (cl : CallT) (own : List Nat) (e : E) (t : T) (_ : Tag e) (_ : Tag t) (env : Env) (d : D) (w : W) : R D := els (asgN t d (wipeE env own)) .bad (fun env => ev G cl e env w) ⟨⟩
def testF (G : Prog) (cl : CallT) (own : List Nat) (ifs : Es) (t : T) (_ : Tag ifs) (_ : Tag t) (env : Env) (d : D) (w : W) : R Bool := els (asgN t d (wipeE env own)) .bad (fun env => evIf G cl ifs env w) ⟨⟩
@[simp ↓] theorem elemF_eq (G : Prog) (cl : CallT) (own : List Nat) (e : E) (t : T) (t1 : Tag e) (t2 : Tag t) (env : Env) (d : D) (w : W) : elemF G cl own e t t1 t2 env d w = els (asgN t d (wipeE env own)) .bad (fun env => ev G cl e env w) ⟨⟩ := Eq.trans rfl rfl
@[simp ↓] theorem testF_eq (G : Prog) (cl : CallT) (own : List Nat) (ifs : Es) (t : T) (t1 : Tag ifs) (t2 : Tag t) (env : Env) (d : D) (w : W) : testF G cl own ifs t t1 t2 env d w = els (asgN t d (wipeE env own)) .bad (fun env => evIf G cl ifs env w) ⟨⟩ := Eq.trans rfl rfl
theorem appC_ok (w g : W) (acc : List D) (y : D) (hy : y.noRef = true) (ha : acc.length < 16000000) : appC w.length y (w ++ .lst acc :: g) = some (w ++ .lst (acc ++ [y]) :: g) := by
  simp [appC, hy, ha]
theorem endC_val (w g : W) (ys : List D) (ha : ys.length ≤ 16000000) : endC false w.length (w ++ .lst ys :: g) = .ok (.lst ys) w := by
  simp only [endC, newL]
  simp
  omega
theorem turnC_yes {G : Prog} {cl : CallT} {own : List Nat} {e : E} {t : T} {ifs : Es} {env : Env} {n : Nat} {d : D} {w w1 w2 w3 : W} {y : D} (h1 : testF G cl own ifs t ⟨⟩ ⟨⟩ env d w = .ok true w1) (h2 : elemF G cl own e t ⟨⟩ ⟨⟩ env d w1 = .ok y w2) (h3 : appC n y w2 = some w3) : turnC G cl own e t ifs env n d w = .ok () w3 := by
  unfold turnC
  unfold testF at h1
  unfold elemF at h2
  cases ha : asgN t d (wipeE env own) with
  | none => rw [ha] at h1; simp [els] at h1
  | some env' =>
    rw [ha] at h1 h2
    simp only [els, Option.elim] at h1 h2 ⊢
    rw [h1]; simp only [bnd_ok, sel_true]
    rw [h2]; simp only [bnd_ok, h3, R.ofO]
theorem turnC_no {G : Prog} {cl : CallT} {own : List Nat} {e : E} {t : T} {ifs : Es} {env : Env} {n : Nat} {d : D} {w w1 : W} (h1 : testF G cl own ifs t ⟨⟩ ⟨⟩ env d w = .ok false w1) : turnC G cl own e t ifs env n d w = .ok () w1 := by
  unfold turnC
  unfold testF at h1
  cases ha : asgN t d (wipeE env own) with
  | none => rw [ha] at h1; simp [els] at h1
  | some env' =>
    rw [ha] at h1
    simp only [els, Option.elim] at h1 ⊢
    rw [h1]; simp only [bnd_ok, sel_false]
theorem noif {G : Prog} {cl : CallT} {own : List Nat} {e : E} {t : T} {env : Env} {d : D} {w w2 : W} {y : D} (h2 : elemF G cl own e t ⟨⟩ ⟨⟩ env d w = .ok y w2) : testF G cl own .nil t ⟨⟩ ⟨⟩ env d w = .ok true w := by
  unfold testF
  unfold elemF at h2
  cases ha : asgN t d (wipeE env own) with
  | none => rw [ha] at h2; simp [els] at h2
  | some env' => simp [els, evIf]
theorem comp_if {G : Prog} {cl : CallT} {own : List Nat} {e : E} {t : T} {ifs : Es} {t1 : Tag e} {t2 : Tag t} {t3 : Tag ifs} {env : Env} {w : W} {α : Type} {φ : α → D} {l : List α} (p : α → Bool) (ψ : α → D) (hl : l.length ≤ 16000000)
    (h1 : ∀ a ∈ l, ∀ acc, testF G cl own ifs t ⟨⟩ ⟨⟩ env (φ a) (w ++ [.lst acc]) = .ok (p a) (w ++ [.lst acc]))
    (h2 : ∀ a ∈ l, p a = true → ∀ acc, elemF G cl own e t ⟨⟩ ⟨⟩ env (φ a) (w ++ [.lst acc]) = .ok (ψ a) (w ++ [.lst acc]))
    (h3 : ∀ a ∈ l, p a = true → (ψ a).noRef = true) : compL G cl false own e t ifs t1 t2 t3 (l.map φ) env w = .ok (.lst ((l.filter p).map ψ)) w := by
  have key : ∀ (r : List α) (acc : List D), (∀ a ∈ r, a ∈ l) → acc.length + r.length ≤ 16000000 → mapC (turnC G cl own e t ifs env w.length) (r.map φ) (w ++ [.lst acc]) = .ok () (w ++ [.lst (acc ++ (r.filter p).map ψ)]) := by
    intro r
    induction r with
    | nil => intro acc _ _; simp [mapC]
    | cons a r ih =>
      intro acc hm hlen
      have hh := hm a (by simp)
      simp only [List.length_cons] at hlen
      by_cases hp : p a = true
      · have ht := turnC_yes (n := w.length) (hp ▸ h1 a hh acc) (h2 a hh hp acc) (appC_ok w [] acc (ψ a) (h3 a hh hp) (by omega))
        simp only [List.map_cons, mapC, ht, R.nx, R.bind]
        rw [ih (acc ++ [ψ a]) (fun x hx => hm x (by simp [hx])) (by simp; omega)]
        simp [hp]
      · have hp2 : p a = false := by simpa using hp
        have ht := turnC_no (e := e) (n := w.length) (hp2 ▸ h1 a hh acc)
        simp only [List.map_cons, mapC, ht, R.nx, R.bind]
        rw [ih acc (fun x hx => hm x (by simp [hx])) (by omega)]
        simp [hp2]
  unfold compL
  rw [key l [] (fun _ h => h) (by simpa using hl)]
  simp only [R.bind, List.nil_append]
  refine endC_val w [] _ ?_
  have := List.length_filter_le p l
  simp; omega
theorem comp_map {G : Prog} {cl : CallT} {own : List Nat} {e : E} {t : T} {t1 : Tag e} {t2 : Tag t} {t3 : Tag Es.nil} {env : Env} {w : W} {α : Type} {φ : α → D} {l : List α} (ψ : α → D) (hl : l.length ≤ 16000000)
    (h2 : ∀ a ∈ l, ∀ acc, elemF G cl own e t ⟨⟩ ⟨⟩ env (φ a) (w ++ [.lst acc]) = .ok (ψ a) (w ++ [.lst acc]))
    (h3 : ∀ a ∈ l, (ψ a).noRef = true) : compL G cl false own e t .nil t1 t2 t3 (l.map φ) env w = .ok (.lst (l.map ψ)) w := by
  have := comp_if (t1 := t1) (t2 := t2) (t3 := t3) (fun _ => true) ψ hl (fun a ha acc => noif (h2 a ha acc)) (fun a ha _ acc => h2 a ha acc) (fun a ha _ => h3 a ha)
  rw [this, List.filter_eq_self.mpr (by simp)]
def iter2F (G : Prog) (cl : CallT) (own : List Nat) (t : T) (it1 : It) (_ : Tag t) (_ : Tag it1) (env : Env) (d : D) (w : W) : R (List D) := els (asgN t d (wipeE env own)) .bad (fun env => evI G cl it1 env w) ⟨⟩
@[simp ↓] theorem iter2F_eq (G : Prog) (cl : CallT) (own : List Nat) (t : T) (it1 : It) (a : Tag t) (b : Tag it1) (env : Env) (d : D) (w : W) : iter2F G cl own t it1 a b env d w = els (asgN t d (wipeE env own)) .bad (fun env => evI G cl it1 env w) ⟨⟩ := Eq.trans rfl rfl
def elem2F (G : Prog) (cl : CallT) (own : List Nat) (t : T) (own1 : List Nat) (t1 : T) (e : E) (_ : Tag t) (_ : Tag t1) (_ : Tag e) (env : Env) (d d1 : D) (w : W) : R D := els (asgN t d (wipeE env own)) .bad (fun env => els (asgN t1 d1 (wipeE env own1)) .bad (fun env => ev G cl e env w) ⟨⟩) ⟨⟩
@[simp ↓] theorem elem2F_eq (G : Prog) (cl : CallT) (own : List Nat) (t : T) (own1 : List Nat) (t1 : T) (e : E) (a : Tag t) (b : Tag t1) (c : Tag e) (env : Env) (d d1 : D) (w : W) : elem2F G cl own t own1 t1 e a b c env d d1 w = els (asgN t d (wipeE env own)) .bad (fun env => els (asgN t1 d1 (wipeE env own1)) .bad (fun env => ev G cl e env w) ⟨⟩) ⟨⟩ := Eq.trans rfl rfl
theorem comp_all {G : Prog} {cl : CallT} {own : List Nat} {e : E} {t : T} {t1 : Tag e} {t2 : Tag t} {t3 : Tag Es.nil} {env : Env} {w : W} {Q : R D → Prop} {s : Tag Q} {α : Type} {φ : α → D} {l : List α} (hl : l.length ≤ 16000000)
    (hs : ∀ a ∈ l, ∀ w', wp (elemF G cl own e t ⟨⟩ ⟨⟩ env (φ a) w') (fun r => ∃ g, r = .ok (.bl true) (w' ++ g)) ⟨⟩)
    (he : Q (.ok (.lst (l.map fun _ => .bl true)) w)) : wp (compL G cl false own e t .nil t1 t2 t3 (l.map φ) env w) Q s := by
  have key : ∀ (r : List α) (acc : List D) (g : W), (∀ a ∈ r, a ∈ l) → acc.length + r.length ≤ 16000000 → ∃ g', mapC (turnC G cl own e t .nil env w.length) (r.map φ) (w ++ .lst acc :: g) = .ok () (w ++ .lst (acc ++ r.map fun _ => .bl true) :: g') := by
    intro r
    induction r with
    | nil => intro acc g _ _; exact ⟨g, by simp [mapC]⟩
    | cons a r ih =>
      intro acc g hm hlen
      have hh := hm a (by simp)
      simp only [List.length_cons] at hlen
      obtain ⟨g1, h1⟩ := of_wp (hs a hh (w ++ .lst acc :: g))
      have e1 : w ++ .lst acc :: g ++ g1 = w ++ .lst acc :: (g ++ g1) := by simp
      rw [e1] at h1
      have ht := turnC_yes (n := w.length) (noif h1) h1 (appC_ok w (g ++ g1) acc (.bl true) rfl (by omega))
      obtain ⟨g', h2⟩ := ih (acc ++ [.bl true]) (g ++ g1) (fun x hx => hm x (by simp [hx])) (by simp; omega)
      refine ⟨g', ?_⟩
      simp only [List.map_cons, mapC, ht, R.nx, R.bind, h2]
      simp
  obtain ⟨g', hg⟩ := key l [] [] (fun _ h => h) (by simpa using hl)
  simp only [wp, compL, hg, R.bind, List.nil_append]
  rw [endC_val w g' _ (by simpa using hl)]
  exact he
def putAll (l : List (D × D)) (acc : List (D × D)) : List (D × D) := l.foldl (fun acc p => putM p.1 p.2 acc) acc
theorem putM_len (k v : D) (kvs : List (D × D)) : (putM k v kvs).length ≤ kvs.length + 1 := by
  unfold putM; split <;> simp
theorem appK_ok (w : W) (acc : List (D × D)) (k y : D) (hk : k.keyA = true) (hy : y.noRef = true) (ha : acc.length < 16000000) : appK w.length k y (w ++ [.dct acc]) = some (w ++ [.dct (putM k y acc)]) := by
  simp [appK, hk, hy, ha]
theorem turnK_ok {G : Prog} {cl : CallT} {own : List Nat} {k v : E} {t : T} {env : Env} {n : Nat} {d : D} {w w1 w2 w3 : W} {x y : D} (h1 : elemF G cl own k t ⟨⟩ ⟨⟩ env d w = .ok x w1) (h2 : elemF G cl own v t ⟨⟩ ⟨⟩ env d w1 = .ok y w2) (h3 : appK n x y w2 = some w3) : turnK G cl own k v t .nil env n d w = .ok () w3 := by
  unfold turnK
  unfold elemF at h1 h2
  cases ha : asgN t d (wipeE env own) with
  | none => rw [ha] at h1; simp [els] at h1
  | some env' =>
    rw [ha] at h1 h2
    simp only [els, Option.elim, evIf] at h1 h2 ⊢
    simp only [bnd_ok, sel_true]
    rw [h1]; simp only [bnd_ok]
    rw [h2]; simp only [bnd_ok, h3, R.ofO]
theorem dcomp_ok {G : Prog} {cl : CallT} {own : List Nat} {k v : E} {t : T} {t0 : Tag k} {t1 : Tag v} {t2 : Tag t} {t3 : Tag Es.nil} {env : Env} {w : W} {α : Type} {φ : α → D} {l : List α} (κ υ : α → D) (hl : l.length ≤ 16000000)
    (h1 : ∀ a ∈ l, ∀ acc, elemF G cl own k t ⟨⟩ ⟨⟩ env (φ a) (w ++ [.dct acc]) = .ok (κ a) (w ++ [.dct acc]))
    (h2 : ∀ a ∈ l, ∀ acc, elemF G cl own v t ⟨⟩ ⟨⟩ env (φ a) (w ++ [.dct acc]) = .ok (υ a) (w ++ [.dct acc]))
    (h3 : ∀ a ∈ l, (κ a).keyA = true ∧ (υ a).noRef = true) : dcompL G cl own k v t .nil t0 t1 t2 t3 (l.map φ) env w = .ok (.dct (putAll (l.map fun a => (κ a, υ a)) [])) w := by
  have key : ∀ (r : List α) (acc : List (D × D)), (∀ a ∈ r, a ∈ l) → acc.length + r.length ≤ 16000000 → mapC (turnK G cl own k v t .nil env w.length) (r.map φ) (w ++ [.dct acc]) = .ok () (w ++ [.dct (putAll (r.map fun a => (κ a, υ a)) acc)]) := by
    intro r
    induction r with
    | nil => intro acc _ _; simp [mapC, putAll]
    | cons a r ih =>
      intro acc hm hlen
      have hh := hm a (by simp)
      simp only [List.length_cons] at hlen
      have ht := turnK_ok (n := w.length) (h1 a hh acc) (h2 a hh acc) (appK_ok w acc (κ a) (υ a) (h3 a hh).1 (h3 a hh).2 (by omega))
      simp only [List.map_cons, mapC, ht, R.nx, R.bind]
      have := putM_len (κ a) (υ a) acc
      rw [ih (putM (κ a) (υ a) acc) (fun x hx => hm x (by simp [hx])) (by omega)]
      simp [putAll]
  unfold dcompL
  rw [key l [] (fun _ h => h) (by simpa using hl)]
  simp [R.bind, endK]
theorem putAll_nd : ∀ (l acc : List (D × D)), (l.map Prod.fst).Pairwise (fun a b => D.eqv a b = false) → (∀ p ∈ acc, ∀ q ∈ l, D.eqv p.1 q.1 = false) → putAll l acc = acc ++ l
  | [], acc, _, _ => by simp [putAll]
  | p :: r, acc, h, h2 => by
    simp only [List.map_cons, List.pairwise_cons] at h
    have e : putM p.1 p.2 acc = acc ++ [p] := by
      unfold putM
      rw [if_neg]
      simp only [List.any_eq_true, not_exists, not_and]
      intro q hq
      rw [h2 q hq p (by simp)]; decide
    have e2 : putAll (p :: r) acc = putAll r (putM p.1 p.2 acc) := rfl
    rw [e2, e, putAll_nd r (acc ++ [p]) h.2]
    · simp
    · intro q hq z hz
      simp at hq
      rcases hq with hq | rfl
      · exact h2 q hq z (by simp [hz])
      · exact h.1 z.1 (List.mem_map_of_mem hz)
theorem comp_wp {G : Prog} {cl : CallT} {own : List Nat} {e : E} {t : T} {t1 : Tag e} {t2 : Tag t} {t3 : Tag Es.nil} {env : Env} {w : W} {Q : R D → Prop} {s : Tag Q} {α : Type} {φ : α → D} {l : List α} (I : List α → List D → W → Prop) (hl : l.length ≤ 16000000) (h0 : I [] [] w) (hw : ∀ d ys w', I d ys w' → w'.length = w.length)
    (hs : ∀ (a : α) (done rest : List α) (ys : List D), l = done ++ a :: rest → ∀ w', I done ys w' → wp (elemF G cl own e t ⟨⟩ ⟨⟩ env (φ a) (w' ++ [.lst ys])) (fun r => ∃ y w'', r = .ok y (w'' ++ [.lst ys]) ∧ y.noRef = true ∧ I (done ++ [a]) (ys ++ [y]) w'') ⟨⟩)
    (he : ∀ ys w', ys.length = l.length → I l ys w' → Q (.ok (.lst ys) w')) : wp (compL G cl false own e t .nil t1 t2 t3 (l.map φ) env w) Q s := by
  have key : ∀ (rest done : List α) (ys : List D) (w' : W), l = done ++ rest → ys.length = done.length → I done ys w' → ∃ zs w'', zs.length = rest.length ∧ I l (ys ++ zs) w'' ∧ mapC (turnC G cl own e t .nil env w.length) (rest.map φ) (w' ++ [.lst ys]) = .ok () (w'' ++ [.lst (ys ++ zs)]) := by
    intro rest
    induction rest with
    | nil => intro done ys w' e1 e2 hi; simp at e1; subst e1; exact ⟨[], w', rfl, by simpa using hi, by simp [mapC]⟩
    | cons a r ih =>
      intro done ys w' e1 e2 hi
      obtain ⟨y, w1, hr, hy, hi1⟩ := of_wp (hs a done r ys e1 w' hi)
      have hl1 := hw _ _ _ hi
      have hl2 := hw _ _ _ hi1
      have hlen : done.length + (r.length + 1) ≤ 16000000 := by rw [e1] at hl; simpa using hl
      have ha := appC_ok w1 [] ys y hy (by omega)
      rw [hl2] at ha
      have ht := turnC_yes (n := w.length) (noif hr) hr ha
      obtain ⟨zs, w2, hz, hi2, hm⟩ := ih (done ++ [a]) (ys ++ [y]) w1 (by rw [e1]; simp) (by simp [e2]) hi1
      refine ⟨y :: zs, w2, by simp [hz], by simpa using hi2, ?_⟩
      simp only [List.map_cons, mapC, ht, R.nx, R.bind, hm]
      simp
  obtain ⟨zs, w2, hz, hi2, hm⟩ := key l [] [] w rfl rfl h0
  simp only [List.nil_append] at hi2 hm
  have hl2 := hw _ _ _ hi2
  simp only [wp, compL, hm, R.bind]
  rw [← hl2, endC_val w2 [] zs (by omega)]
  exact he zs w2 hz hi2
end Sv

set_option Elab.async false
set_option linter.all false
set_option maxRecDepth 100000
set_option maxHeartbeats 1000000
namespace Sv
@[simp ↓] theorem v_sortk {G : Prog} {cl : CallT} {env : Env} {w : W} (a : E) (g : Nat) (b : Bool) : ev G cl (.sortk a g (some b)) env w = bnd (ev G cl a env w) (fun d w => R.lift (sortKF b d) w) ⟨⟩ := by simp only [ev, bnd]
@[simp ↓] theorem v_rev {G : Prog} {cl : CallT} {env : Env} {w : W} (a : E) : ev G cl (.rev a) env w = bnd (ev G cl a env w) (fun d w => R.lift (revF d) w) ⟨⟩ := by simp only [ev, bnd]
@[simp] theorem revF_lst (xs : List D) : revF (.lst xs) = some (.lst xs.reverse) := Eq.trans rfl rfl
@[simp] theorem items_dct (kvs : List (D × D)) : items (.dct kvs) = some (kvs.map (·.1)) := Eq.trans rfl rfl
theorem setSub_dct {w : W} {c : Nat} {kvs : List (D × D)} {k d : D} (h : w[c]? = some (.dct kvs)) (h1 : k.keyA = true) (h2 : d.noRef = true) (h3 : kvs.length < 16000000) : setSub w (.cel c) k d = some (w.set c (.dct (putM k d kvs))) := by
  simp only [setSub, h]
  rw [if_pos (by simp [h1, h2, h3])]
theorem disp_one (w : W) (k v : D) (h1 : k.keyA = true) (h2 : v.noRef = true) : dispF true w.length [k, v] (w ++ [.dct []]) = .ok (.cel w.length) (w ++ [.dct [(k, v)]]) := by
  have e : (w ++ [Cell.dct []])[w.length]? = some (.dct []) := by simp
  simp [dispF, e, mkA, h1, h2, putM]
theorem disp_none (w : W) : dispF true w.length [] (w ++ [.dct []]) = .ok (.cel w.length) (w ++ [.dct []]) := by
  have e : (w ++ [Cell.dct []])[w.length]? = some (.dct []) := by simp
  simp [dispF, e, mkA]
theorem sealF_okD {env : Env} {w : W} {i c : Nat} {xs : List (D × D)} (h1 : locF env i = some (.cel c)) (h2 : w[c]? = some (.dct xs)) : sealF i env w = .next (env.set i (some (.dct xs))) (w.set c .dead) := by
  simp [sealF, h1, h2]
def test2F (G : Prog) (cl : CallT) (own : List Nat) (t : T) (own1 : List Nat) (t1 : T) (ifs1 : Es) (_ : Tag t) (_ : Tag t1) (_ : Tag ifs1) (env : Env) (d d1 : D) (w : W) : R Bool := els (asgN t d (wipeE env own)) .bad (fun env => els (asgN t1 d1 (wipeE env own1)) .bad (fun env => evIf G cl ifs1 env w) ⟨⟩) ⟨⟩
@[simp ↓] theorem test2F_eq (G : Prog) (cl : CallT) (own : List Nat) (t : T) (own1 : List Nat) (t1 : T) (ifs1 : Es) (a : Tag t) (b : Tag t1) (c : Tag ifs1) (env : Env) (d d1 : D) (w : W) : test2F G cl own t own1 t1 ifs1 a b c env d d1 w = els (asgN t d (wipeE env own)) .bad (fun env => els (asgN t1 d1 (wipeE env own1)) .bad (fun env => evIf G cl ifs1 env w) ⟨⟩) ⟨⟩ := Eq.trans rfl rfl
theorem comp2_if {G : Prog} {cl : CallT} {own own1 : List Nat} {e : E} {t t1 : T} {it1 : It} {ifs1 : Es} {a1 : Tag e} {a2 : Tag t} {a3 : Tag Es.nil} {a6 : Tag ifs1} {a4 : Tag t1} {a5 : Tag it1} {env : Env} {w : W} {α β : Type} {φ : α → D} {φ1 : β → D} {l : List α} (m : α → List β) (p : α → β → Bool) (ψ : α → β → D) (hl : (l.map fun a => (m a).length).sum ≤ 16000000)
    (h1 : ∀ a ∈ l, ∀ acc, iter2F G cl own t it1 ⟨⟩ ⟨⟩ env (φ a) (w ++ [.lst acc]) = .ok ((m a).map φ1) (w ++ [.lst acc]))
    (h0 : ∀ a ∈ l, ∀ b ∈ m a, ∀ acc, test2F G cl own t own1 t1 ifs1 ⟨⟩ ⟨⟩ ⟨⟩ env (φ a) (φ1 b) (w ++ [.lst acc]) = .ok (p a b) (w ++ [.lst acc]))
    (h2 : ∀ a ∈ l, ∀ b ∈ m a, p a b = true → ∀ acc, elem2F G cl own t own1 t1 e ⟨⟩ ⟨⟩ ⟨⟩ env (φ a) (φ1 b) (w ++ [.lst acc]) = .ok (ψ a b) (w ++ [.lst acc]))
    (h3 : ∀ a ∈ l, ∀ b ∈ m a, (ψ a b).noRef = true) : comp2L G cl own e t .nil own1 t1 it1 ifs1 a1 a2 a3 a4 a5 a6 (l.map φ) env w = .ok (.lst (l.flatMap fun a => ((m a).filter (p a)).map (ψ a))) w := by
  have inner : ∀ (a : α) (env1 : Env), a ∈ l → asgN t (φ a) (wipeE env own) = some env1 → ∀ (r : List β) (acc : List D), (∀ b ∈ r, b ∈ m a) → acc.length + r.length ≤ 16000000 → mapC (turnC G cl own1 e t1 ifs1 env1 w.length) (r.map φ1) (w ++ [.lst acc]) = .ok () (w ++ [.lst (acc ++ (r.filter (p a)).map (ψ a))]) := by
    intro a env1 ha he r
    induction r with
    | nil => intro acc _ _; simp [mapC]
    | cons b r ih =>
      intro acc hm hlen
      simp only [List.length_cons] at hlen
      have hb := hm b (by simp)
      have q0 := h0 a ha b hb acc
      unfold test2F at q0
      rw [he] at q0
      simp only [els, Option.elim] at q0
      have q0' : testF G cl own1 ifs1 t1 ⟨⟩ ⟨⟩ env1 (φ1 b) (w ++ [.lst acc]) = .ok (p a b) (w ++ [.lst acc]) := by
        unfold testF; simp only [els, Option.elim]; exact q0
      by_cases hp : p a b = true
      · have q := h2 a ha b hb hp acc
        unfold elem2F at q
        rw [he] at q
        simp only [els, Option.elim] at q
        have q' : elemF G cl own1 e t1 ⟨⟩ ⟨⟩ env1 (φ1 b) (w ++ [.lst acc]) = .ok (ψ a b) (w ++ [.lst acc]) := by
          unfold elemF; simp only [els, Option.elim]; exact q
        have ht := turnC_yes (n := w.length) (hp ▸ q0') q' (appC_ok w [] acc (ψ a b) (h3 a ha b hb) (by omega))
        simp only [List.map_cons, mapC, ht, R.nx, R.bind]
        rw [ih (acc ++ [ψ a b]) (fun x hx => hm x (by simp [hx])) (by simp; omega)]
        simp [hp]
      · have hp2 : p a b = false := by simpa using hp
        have ht := turnC_no (e := e) (n := w.length) (hp2 ▸ q0')
        simp only [List.map_cons, mapC, ht, R.nx, R.bind]
        rw [ih acc (fun x hx => hm x (by simp [hx])) (by omega)]
        simp [hp2]
  have key : ∀ (r : List α) (acc : List D), (∀ a ∈ r, a ∈ l) → acc.length + (r.map fun a => (m a).length).sum ≤ 16000000 → mapC (turn2 G cl own e t .nil own1 t1 it1 ifs1 env w.length) (r.map φ) (w ++ [.lst acc]) = .ok () (w ++ [.lst (acc ++ r.flatMap fun a => ((m a).filter (p a)).map (ψ a))]) := by
    intro r
    induction r with
    | nil => intro acc _ _; simp [mapC]
    | cons a r ih =>
      intro acc hm hlen
      have hh := hm a (by simp)
      simp only [List.map_cons, List.sum_cons] at hlen
      have q := h1 a hh acc
      unfold iter2F at q
      cases he : asgN t (φ a) (wipeE env own) with
      | none => rw [he] at q; simp [els] at q
      | some env1 =>
        rw [he] at q
        simp only [els, Option.elim] at q
        have ht : turn2 G cl own e t .nil own1 t1 it1 ifs1 env w.length (φ a) (w ++ [.lst acc]) = .ok () (w ++ [.lst (acc ++ ((m a).filter (p a)).map (ψ a))]) := by
          unfold turn2
          rw [he]
          simp only [els, Option.elim, evIf, bnd_ok, sel_true]
          rw [q]
          simp only [bnd_ok]
          exact inner a env1 hh he (m a) acc (fun _ h => h) (by omega)
        simp only [List.map_cons, mapC, ht, R.nx, R.bind]
        have hf := List.length_filter_le (p a) (m a)
        rw [ih _ (fun x hx => hm x (by simp [hx])) (by simp; omega)]
        simp
  unfold comp2L
  rw [key l [] (fun _ h => h) (by simpa using hl)]
  simp only [R.bind, List.nil_append]
  refine endC_val w [] _ ?_
  have : ∀ r : List α, (r.flatMap fun a => ((m a).filter (p a)).map (ψ a)).length ≤ (r.map fun a => (m a).length).sum := by
    intro r
    induction r with
    | nil => simp
    | cons a r ih =>
      have hf := List.length_filter_le (p a) (m a)
      simp only [List.flatMap_cons, List.length_append, List.length_map, List.map_cons, List.sum_cons]
      omega
  have := this l
  omega
end Sv

set_option Elab.async false
set_option linter.all false
set_option maxRecDepth 100000
set_option maxHeartbeats 1000000
namespace Sv
def rp (d : D) : Tx := (Sv.D.py d).shown.cps.toList
def b1 : Ss := (.cons (.ret (.bi .all (.cons (.comp false [1] (.call 2 (.cons (.call 3 (.cons (.loc 0) (.cons (.loc 1) .nil)) [] .nil) .nil) [] .nil) (.loc 1) (.range (.cons (.bi .max (.cons (.int 2) (.cons (.bi .min (.cons (.bi .len (.cons (.loc 0) .nil)) (.cons (.int 4) .nil))) .nil))) .nil)) .nil) .nil))) .nil)
def f1 : Fn := { np := 1, dfl := [], nloc := 2, keep := false, body := b1 }
def b3 : Ss := (.cons (.asg (.loc 2) (.ite (.cmp .lt (.loc 1) (.bi .len (.cons (.loc 0) .nil))) (.bi .int (.cons (.sub (.loc 0) (.loc 1)) .nil)) (.bin .add (.bin .mul (.int 71) (.loc 1)) (.int 29)))) (.cons (.asg (.loc 3) (.bin .add (.int 10139) (.bin .mul (.int 653) (.loc 1)))) (.cons (.for (.loc 4) (.e (.slc (.loc 0) .non (.int 8))) (.cons (.asg (.loc 3) (.bin .mod (.bi .int (.cons (.bin .add (.bin .add (.bin .mul (.loc 3) (.int 48271)) (.bin .mod (.bi .int (.cons (.loc 4) .nil)) (.int 999979))) (.loc 1)) .nil)) (.int 2147483629))) .nil)) (.cons (.asg (.loc 3) (.bin .mod (.bi .int (.cons (.bin .add (.bin .mul (.loc 3) (.int 48271)) (.bin .mod (.bi .int (.cons (.loc 2) .nil)) (.int 999979))) .nil)) (.int 2147483629))) (.cons (.ret (.lst true (.cons (.ite (.cmp .ge (.bi .abs (.cons (.loc 2) .nil)) (.bin .pow (.int 10) (.int 18))) (.bi .abs (.cons (.loc 2) .nil)) (.int 0)) (.cons (.loc 3) (.cons (.int 0) .nil))))) .nil)))))
def f3 : Fn := { np := 2, dfl := [], nloc := 5, keep := true, body := b3 }
def b4 : Ss := (.cons (.ret (.sub (.loc 1) (.call 13 (.cons (.loc 0) (.cons (.bi .len (.cons (.loc 1) .nil)) .nil)) [] .nil))) .nil)
def f4 : Fn := { np := 2, dfl := [], nloc := 2, keep := false, body := b4 }
def b5 : Ss := (.cons (.ret (.comp false [4] (.lst false (.cons (.loc 4) (.cons (.call 9 (.cons (.loc 0) (.cons (.loc 2) .nil)) [] .nil) (.cons (.call 15 (.cons (.loc 0) (.cons (.loc 3) .nil)) [] .nil) .nil)))) (.loc 4) (.e (.call 14 (.cons (.loc 0) (.cons (.bin .add (.int 1) (.call 13 (.cons (.loc 0) (.cons (.loc 1) .nil)) [] .nil)) .nil)) [] .nil)) .nil)) .nil)
def f5 : Fn := { np := 4, dfl := [], nloc := 5, keep := false, body := b5 }
def b6 : Ss := (.cons (.asg (.loc 2) (.call 16 (.cons (.loc 1) .nil) [] .nil)) (.cons (.ite (.cmp .is (.loc 2) .non) (.cons .bad .nil) .nil) (.cons (.asg (.att (.loc 0) 5) (.loc 1)) (.cons (.asg (.att (.loc 0) 6) (.loc 2)) .nil))))
def f6 : Fn := { np := 2, dfl := [], nloc := 3, keep := false, body := b6 }
def b8 : Ss := (.cons (.asg (.loc 1) (.lst true .nil)) (.cons (.for (.loc 2) (.e (.loc 0)) (.cons (.expr (.bm .append (.loc 1) (.cons (.bm .join (.str [32]) (.cons (.bin .add (.lst false (.cons (.str [103, 114, 111, 117, 112]) (.cons (.sub (.loc 2) (.int 0)) (.cons (.bi .str (.cons (.sub (.loc 2) (.int 1)) .nil)) .nil)))) (.comp false [3] (.bin .add (.bin .add (.bi .str (.cons (.sub (.loc 3) (.int 0)) .nil)) (.str [45])) (.bi .str (.cons (.sub (.loc 3) (.int 1)) .nil))) (.loc 3) (.e (.sub (.loc 2) (.int 2))) .nil)) .nil)) .nil))) .nil)) (.cons (.cls 1) (.cons (.ret (.bm .join (.str [10]) (.cons (.loc 1) .nil))) .nil))))
def f8 : Fn := { np := 1, dfl := [], nloc := 4, keep := false, body := b8 }
def b9 : Ss := (.cons (.ite (.cmp .le (.loc 1) (.bin .pow (.int 10) (.int 6))) (.cons (.ret (.bin .add (.int 1) (.call 13 (.cons (.loc 0) (.cons (.loc 1) .nil)) [] .nil))) .nil) .nil) (.cons (.asg (.loc 2) (.call 4 (.cons (.loc 0) (.cons (.lst false (.cons (.int 1) (.cons (.int 7) (.cons (.bin .pow (.int 10) (.int 3)) (.cons (.bin .pow (.int 10) (.int 6)) (.cons (.bin .pow (.int 10) (.int 9)) (.cons (.bin .pow (.int 10) (.int 14)) (.cons (.bin .pow (.int 10) (.int 21)) (.cons (.bin .pow (.int 10) (.int 25)) .nil))))))))) .nil)) [] .nil)) (.cons (.ret (.bin .add (.int 1) (.bin .mod (.bi .int (.cons (.bin .add (.bin .mul (.call 13 (.cons (.loc 0) (.cons (.bin .pow (.int 10) (.int 6)) .nil)) [] .nil) (.loc 2)) (.call 13 (.cons (.loc 0) (.cons (.int 997) .nil)) [] .nil)) .nil)) (.loc 1)))) .nil)))
def f9 : Fn := { np := 2, dfl := [], nloc := 3, keep := false, body := b9 }
def b10 : Ss := (.cons (.ret (.bi .sum (.cons (.comp false [3] (.sub (.loc 3) (.int 1)) (.loc 3) (.e (.loc 0)) (.cons (.call 17 (.cons (.loc 3) (.cons (.loc 1) (.cons (.loc 2) .nil))) [] .nil) .nil)) .nil))) .nil)
def f10 : Fn := { np := 3, dfl := [], nloc := 4, keep := false, body := b10 }
def b11 : Ss := (.cons (.expr (.call 18 (.cons (.loc 0) .nil) [] .nil)) (.cons (.expr (.call 19 (.cons (.loc 1) (.cons (.int 1) (.cons (.glob 20) .nil))) [] .nil)) (.cons (.ret (.call 21 (.cons (.call 22 (.cons (.loc 0) .nil) [] .nil) (.cons (.loc 1) (.cons (.loc 1) .nil))) [] .nil)) .nil)))
def f11 : Fn := { np := 2, dfl := [], nloc := 2, keep := false, body := b11 }
def b12 : Ss := (.cons (.expr (.call 18 (.cons (.loc 0) .nil) [] .nil)) (.cons (.expr (.call 19 (.cons (.loc 1) (.cons (.int 1) (.cons (.glob 20) .nil))) [] .nil)) (.cons (.expr (.call 19 (.cons (.loc 2) (.cons (.int 0) (.cons (.glob 23) .nil))) [] .nil)) (.cons (.ret (.call 21 (.cons (.call 22 (.cons (.loc 0) .nil) [] .nil) (.cons (.bin .sub (.loc 1) (.loc 2)) (.cons (.loc 1) .nil))) [] .nil)) .nil))))
def f12 : Fn := { np := 3, dfl := [], nloc := 3, keep := false, body := b12 }
def b13 : Ss := (.cons (.asg (.sub (.loc 0) (.int 2)) (.bin .add (.sub (.loc 0) (.int 2)) (.int 1))) (.cons (.ite (.cmp .gt (.sub (.loc 0) (.int 0)) (.int 0)) (.cons (.asg (.loc 2) (.bin .mod (.bi .int (.cons (.sub (.loc 0) (.int 0)) .nil)) (.loc 1))) (.cons (.asg (.sub (.loc 0) (.int 0)) (.bin .fdiv (.bi .int (.cons (.sub (.loc 0) (.int 0)) .nil)) (.loc 1))) (.cons (.ret (.loc 2)) .nil))) .nil) (.cons (.asg (.sub (.loc 0) (.int 1)) (.bin .mod (.bi .int (.cons (.bin .add (.bin .add (.bin .mul (.sub (.loc 0) (.int 1)) (.int 48271)) (.bin .mul (.int 5003) (.sub (.loc 0) (.int 2)))) (.int 19)) .nil)) (.int 2147483629))) (.cons (.ret (.bin .mod (.bi .int (.cons (.bin .fdiv (.sub (.loc 0) (.int 1)) (.int 512)) .nil)) (.loc 1))) .nil))))
def f13 : Fn := { np := 2, dfl := [], nloc := 3, keep := false, body := b13 }
def b14 : Ss := (.cons (.asg (.tup (.cons (.loc 2) (.cons (.loc 3) .nil))) (.tup (.cons (.call 13 (.cons (.loc 0) (.cons (.int 11) .nil)) [] .nil) (.cons (.bin .add (.int 1) (.call 13 (.cons (.loc 0) (.cons (.int 10) .nil)) [] .nil)) .nil)))) (.cons (.asg (.loc 4) (.lst false (.cons (.str [103, 114, 111, 117, 112]) (.cons (.str [97]) (.cons (.str [119, 105, 110, 100, 111, 119]) (.cons (.str [97, 98, 99, 100, 101, 102, 103, 104]) (.cons (.str [114, 97, 110, 107]) (.cons (.str [100, 101, 115, 107]) (.cons (.str [110, 111, 110, 101]) (.cons (.str [112, 114, 105, 99, 101]) (.cons (.str [98]) (.cons (.str [110, 105, 103, 104, 116]) (.cons (.str [122]) .nil))))))))))))) (.cons (.ret (.comp false [5] (.sub (.loc 4) (.bin .mod (.bi .int (.cons (.bin .add (.loc 2) (.bin .mul (.loc 3) (.loc 5))) .nil)) (.int 11))) (.loc 5) (.range (.cons (.loc 1) .nil)) .nil)) .nil)))
def f14 : Fn := { np := 2, dfl := [], nloc := 6, keep := false, body := b14 }
def b15 : Ss := (.cons (.asg (.tup (.cons (.loc 2) (.cons (.loc 3) .nil))) (.tup (.cons (.lst true .nil) (.cons (.call 13 (.cons (.loc 0) (.cons (.bi .min (.cons (.loc 1) (.cons (.bin .pow (.int 10) (.int 6)) .nil))) .nil)) [] .nil) .nil)))) (.cons (.for (.loc 4) (.range (.cons (.bin .add (.int 1) (.call 13 (.cons (.loc 0) (.cons (.int 4) .nil)) [] .nil)) .nil)) (.cons (.asg (.loc 5) (.bin .add (.bin .add (.loc 3) (.int 1)) (.call 4 (.cons (.loc 0) (.cons (.lst false (.cons (.int 0) (.cons (.int 0) (.cons (.int 1) (.cons (.int 2) (.cons (.int 5) (.cons (.bi .max (.cons (.int 1) (.cons (.bin .fdiv (.loc 1) (.int 6)) .nil))) .nil))))))) .nil)) [] .nil))) (.cons (.asg (.loc 6) (.bin .add (.loc 5) (.call 4 (.cons (.loc 0) (.cons (.lst false (.cons (.int 0) (.cons (.int 0) (.cons (.int 1) (.cons (.int 2) (.cons (.int 3) (.cons (.int 6) (.cons (.int 9) (.cons (.bi .max (.cons (.int 1) (.cons (.bin .fdiv (.loc 1) (.int 7)) .nil))) .nil))))))))) .nil)) [] .nil))) (.cons (.ite (.cmp .le (.loc 6) (.loc 1)) (.cons (.expr (.bm .append (.loc 2) (.cons (.tup (.cons (.loc 5) (.cons (.loc 6) .nil))) .nil))) .nil) .nil) (.cons (.asg (.loc 3) (.bin .add (.loc 6) (.int 1))) .nil))))) (.cons (.cls 2) (.cons (.ret (.ite (.cmp .ne (.loc 2) (.lst false .nil)) (.loc 2) (.lst false (.cons (.tup (.cons (.int 1) (.cons (.bin .add (.int 1) (.call 13 (.cons (.loc 0) (.cons (.int 2) .nil)) [] .nil)) .nil))) .nil)))) .nil))))
def f15 : Fn := { np := 2, dfl := [], nloc := 7, keep := false, body := b15 }
def b16 : Ss := (.cons (.ite (.not (.isi (.loc 0) [.inl .str] true)) (.cons (.ret .non) .nil) .nil) (.cons (.asg (.loc 1) (.comp false [2] (.call 24 (.cons (.loc 2) .nil) [] .nil) (.loc 2) (.e (.bm .split (.loc 0) (.cons (.str [10]) .nil))) .nil)) (.cons (.ite (.or (.cmp .in .non (.loc 1)) (.or (.cmp .gt (.bi .len (.cons (.loc 1) .nil)) (.glob 25)) (.cmp .lt (.bi .len (.cons (.dcomp [3] (.sub (.loc 3) (.int 0)) (.bl true) (.loc 3) (.e (.loc 1)) .nil) .nil)) (.bi .len (.cons (.loc 1) .nil))))) (.cons (.ret .non) .nil) .nil) (.cons (.ret (.bi .tuple (.cons (.loc 1) .nil))) .nil))))
def f16 : Fn := { np := 1, dfl := [], nloc := 4, keep := false, body := b16 }
def b17 : Ss := (.cons (.ret (.cmp .ne (.comp false [3] (.loc 3) (.loc 3) (.e (.sub (.loc 0) (.int 2))) (.cons (.and (.cmp .le (.sub (.loc 3) (.int 0)) (.loc 2)) (.cmp .le (.loc 1) (.sub (.loc 3) (.int 1)))) .nil)) (.lst false .nil))) .nil)
def f17 : Fn := { np := 3, dfl := [], nloc := 4, keep := false, body := b17 }
def b18 : Ss := (.cons (.ite (.not (.isi (.loc 0) [.inr 7] true)) (.cons .bad .nil) .nil) .nil)
def f18 : Fn := { np := 1, dfl := [], nloc := 1, keep := false, body := b18 }
def b19 : Ss := (.cons (.ite (.not (.call 26 (.cons (.loc 0) (.cons (.loc 1) (.cons (.loc 2) .nil))) [] .nil)) (.cons .bad .nil) .nil) .nil)
def f19 : Fn := { np := 3, dfl := [], nloc := 3, keep := false, body := b19 }
def b21 : Ss := (.cons (.ret (.bi .sum (.cons (.comp false [3, 4] (.loc 3) (.tup (.cons (.loc 3) (.cons (.loc 4) .nil))) (.e (.loc 0)) (.cons (.bi .any (.cons (.comp false [5, 6] (.and (.cmp .le (.loc 5) (.loc 2)) (.cmp .le (.loc 1) (.loc 6))) (.tup (.cons (.loc 5) (.cons (.loc 6) .nil))) (.e (.loc 4)) .nil) .nil)) .nil)) .nil))) .nil)
def f21 : Fn := { np := 3, dfl := [], nloc := 7, keep := false, body := b21 }
def b22 : Ss := (.cons (.ret (.lzip (.cons (.attr (.loc 0) 11) (.cons (.attr (.loc 0) 12) .nil)))) .nil)
def f22 : Fn := { np := 1, dfl := [], nloc := 1, keep := false, body := b22 }
def b24 : Ss := (.cons (.asg (.loc 1) (.bm .split (.loc 0) (.cons (.str [32]) .nil))) (.cons (.ite (.or (.cmp .lt (.bi .len (.cons (.loc 1) .nil)) (.int 4)) (.or (.cmp .ne (.sub (.loc 1) (.int 0)) (.str [103, 114, 111, 117, 112])) (.not (.call 27 (.cons (.sub (.loc 1) (.int 1)) .nil) [] .nil)))) (.cons (.ret .non) .nil) .nil) (.cons (.asg (.tup (.cons (.loc 2) (.cons (.loc 3) .nil))) (.tup (.cons (.call 28 (.cons (.sub (.loc 1) (.int 2)) (.cons (.glob 29) .nil)) [] .nil) (.cons (.call 30 (.cons (.slc (.loc 1) (.int 3) .non) .nil) [] .nil) .nil)))) (.cons (.ite (.or (.cmp .is (.loc 2) .non) (.or (.cmp .eq (.loc 2) (.int 0)) (.not (.call 31 (.cons (.loc 3) .nil) [] .nil)))) (.cons (.ret .non) .nil) .nil) (.cons (.ret (.tup (.cons (.sub (.loc 1) (.int 1)) (.cons (.loc 2) (.cons (.loc 3) .nil))))) .nil)))))
def f24 : Fn := { np := 1, dfl := [], nloc := 4, keep := false, body := b24 }
def b26 : Ss := (.cons (.ret (.and (.call 32 (.cons (.loc 0) .nil) [] .nil) (.cmp2 .le .le (.loc 1) (.loc 0) (.loc 2)))) .nil)
def f26 : Fn := { np := 3, dfl := [], nloc := 3, keep := false, body := b26 }
def b27 : Ss := (.cons (.ite (.or (.not (.isi (.loc 0) [.inl .str] true)) (.not (.cmp2 .le .le (.int 1) (.bi .len (.cons (.loc 0) .nil)) (.glob 33)))) (.cons (.ret (.bl false)) .nil) .nil) (.cons (.ret (.bi .all (.cons (.comp false [1] (.cmp .in (.loc 1) (.glob 34)) (.loc 1) (.e (.loc 0)) .nil) .nil))) .nil))
def f27 : Fn := { np := 1, dfl := [], nloc := 2, keep := false, body := b27 }
def b28 : Ss := (.cons (.ite (.or (.not (.cmp2 .le .le (.int 1) (.bi .len (.cons (.loc 0) .nil)) (.glob 35))) (.not (.bi .all (.cons (.comp false [2] (.cmp .in (.loc 2) (.glob 36)) (.loc 2) (.e (.loc 0)) .nil) .nil)))) (.cons (.ret .non) .nil) .nil) (.cons (.ite (.and (.cmp .eq (.sub (.loc 0) (.int 0)) (.str [48])) (.cmp .ne (.loc 0) (.str [48]))) (.cons (.ret .non) .nil) .nil) (.cons (.ret (.ite (.cmp .le (.bi .int (.cons (.loc 0) .nil)) (.loc 1)) (.bi .int (.cons (.loc 0) .nil)) .non)) .nil)))
def f28 : Fn := { np := 2, dfl := [], nloc := 3, keep := false, body := b28 }
def b30 : Ss := (.cons (.asg (.loc 1) (.bi .tuple (.cons (.comp false [2] (.call 37 (.cons (.loc 2) .nil) [] .nil) (.loc 2) (.e (.loc 0)) .nil) .nil))) (.cons (.ret (.ite (.and (.cmp2 .le .le (.int 1) (.bi .len (.cons (.loc 1) .nil)) (.glob 38)) (.cmp .nin .non (.loc 1))) (.loc 1) .non)) .nil))
def f30 : Fn := { np := 1, dfl := [], nloc := 3, keep := false, body := b30 }
def b31 : Ss := (.cons (.try (.cons (.expr (.call 39 (.cons (.loc 0) .nil) [] .nil)) .nil) .nil) (.cons (.ret (.bl true)) .nil))
def f31 : Fn := { np := 1, dfl := [], nloc := 1, keep := false, body := b31 }
def b32 : Ss := (.cons (.ret (.and (.isi (.loc 0) [.inl .int] true) (.not (.isi (.loc 0) [.inl .bool] true)))) .nil)
def f32 : Fn := { np := 1, dfl := [], nloc := 1, keep := false, body := b32 }
def b37 : Ss := (.cons (.asg (.loc 1) (.comp false [2] (.call 28 (.cons (.loc 2) (.cons (.glob 23) .nil)) [] .nil) (.loc 2) (.e (.bm .split (.loc 0) (.cons (.str [45]) .nil))) .nil)) (.cons (.ret (.ite (.and (.cmp .eq (.bi .len (.cons (.loc 1) .nil)) (.int 2)) (.cmp .nin .non (.loc 1))) (.bi .tuple (.cons (.loc 1) .nil)) .non)) .nil))
def f37 : Fn := { np := 1, dfl := [], nloc := 3, keep := false, body := b37 }
def b39 : Ss := (.cons (.ite (.or (.not (.isi (.loc 0) [.inl .tuple] true)) (.cmp .eq (.loc 0) (.tup .nil))) (.cons .bad .nil) .nil) (.cons (.for (.tup (.cons (.loc 1) (.cons (.loc 2) .nil))) (.enum (.loc 0)) (.cons (.ite (.or (.cmp .eq (.loc 1) (.glob 38)) (.or (.not (.call 40 (.cons (.loc 2) .nil) [] .nil)) (.and (.cmp .gt (.loc 1) (.int 0)) (.cmp .lt (.sub (.loc 2) (.int 0)) (.bin .add (.sub (.sub (.loc 0) (.bin .sub (.loc 1) (.int 1))) (.int 1)) (.int 2)))))) (.cons .bad .nil) .nil) .nil)) .nil))
def f39 : Fn := { np := 1, dfl := [], nloc := 3, keep := false, body := b39 }
def b40 : Ss := (.cons (.ite (.or (.not (.isi (.loc 0) [.inl .tuple] true)) (.cmp .ne (.bi .len (.cons (.loc 0) .nil)) (.int 2))) (.cons (.ret (.bl false)) .nil) .nil) (.cons (.ret (.and (.call 26 (.cons (.sub (.loc 0) (.int 0)) (.cons (.int 1) (.cons (.glob 23) .nil))) [] .nil) (.call 26 (.cons (.sub (.loc 0) (.int 1)) (.cons (.sub (.loc 0) (.int 0)) (.cons (.glob 23) .nil))) [] .nil))) .nil))
def f40 : Fn := { np := 1, dfl := [], nloc := 1, keep := false, body := b40 }
def b41 : Ss := (.cons (.ret (.attr (.loc 0) 5)) .nil)
def f41 : Fn := { np := 1, dfl := [], nloc := 1, keep := false, body := b41 }
def b42 : Ss := (.cons (.ret (.bi .tuple (.cons (.comp false [1] (.sub (.loc 1) (.int 0)) (.loc 1) (.e (.attr (.loc 0) 6)) .nil) .nil))) .nil)
def f42 : Fn := { np := 1, dfl := [], nloc := 2, keep := false, body := b42 }
def b43 : Ss := (.cons (.ret (.bi .tuple (.cons (.comp false [1] (.sub (.loc 1) (.int 1)) (.loc 1) (.e (.attr (.loc 0) 6)) .nil) .nil))) .nil)
def f43 : Fn := { np := 1, dfl := [], nloc := 2, keep := false, body := b43 }
def b44 : Ss := (.cons (.ret (.bi .tuple (.cons (.comp false [1] (.sub (.loc 1) (.int 2)) (.loc 1) (.e (.attr (.loc 0) 6)) .nil) .nil))) .nil)
def f44 : Fn := { np := 1, dfl := [], nloc := 2, keep := false, body := b44 }
def b49 : Ss := (.cons (.ret (.lst false (.cons (.loc 1) (.cons (.call 4 (.cons (.loc 0) (.cons (.lst false (.cons (.int 1) (.cons (.int 1) (.cons (.int 2) (.cons (.int 7) (.cons (.int 12) (.cons (.bin .pow (.int 10) (.int 9)) .nil))))))) .nil)) [] .nil) (.cons (.call 4 (.cons (.loc 0) (.cons (.lst false (.cons (.int 1) (.cons (.int 1) (.cons (.int 2) (.cons (.int 3) (.cons (.int 5) (.cons (.int 10) (.cons (.int 50) .nil)))))))) .nil)) [] .nil) (.cons (.call 4 (.cons (.loc 0) (.cons (.lst false (.cons (.int 0) (.cons (.int 0) (.cons (.int 0) (.cons (.int 1) (.cons (.int 4) (.cons (.int 10) (.cons (.int 37) .nil)))))))) .nil)) [] .nil) .nil)))))) .nil)
def f49 : Fn := { np := 2, dfl := [], nloc := 2, keep := false, body := b49 }
def b50 : Ss := (.cons (.asg (.loc 2) (.call 4 (.cons (.loc 0) (.cons (.lst false (.cons (.str [119, 105, 110, 100, 111, 119]) (.cons (.str [119, 105, 110, 100, 111, 119]) (.cons (.str [119, 105, 110, 100, 111, 119]) (.cons (.str [114, 97, 110, 107]) (.cons (.str [114, 97, 110, 107]) (.cons (.str [100, 97, 121]) (.cons (.str [115, 117, 109]) (.cons (.str [109, 101, 97, 110]) .nil))))))))) .nil)) [] .nil)) (.cons (.ite (.cmp .eq (.loc 2) (.str [119, 105, 110, 100, 111, 119])) (.cons (.ret (.tup (.cons (.loc 2) (.cons (.call 4 (.cons (.loc 0) (.cons (.lst false (.cons (.int 0) (.cons (.int 0) (.cons (.bin .sub (.loc 1) (.int 1)) (.cons (.call 13 (.cons (.loc 0) (.cons (.loc 1) .nil)) [] .nil) .nil))))) .nil)) [] .nil) .nil)))) .nil) .nil) (.cons (.ite (.cmp .eq (.loc 2) (.str [114, 97, 110, 107])) (.cons (.ret (.tup (.cons (.loc 2) (.cons (.bin .add (.int 2) (.call 4 (.cons (.loc 0) (.cons (.lst false (.cons (.int 0) (.cons (.bin .sub (.loc 1) (.int 2)) (.cons (.call 13 (.cons (.loc 0) (.cons (.bin .sub (.loc 1) (.int 1)) .nil)) [] .nil) .nil)))) .nil)) [] .nil)) .nil)))) .nil) .nil) (.cons (.ret (.ite (.cmp .eq (.loc 2) (.str [100, 97, 121])) (.tup (.cons (.loc 2) (.cons (.bin .add (.int 1) (.call 13 (.cons (.loc 0) (.cons (.loc 1) .nil)) [] .nil)) .nil))) (.tup (.cons (.loc 2) .nil)))) .nil))))
def f50 : Fn := { np := 2, dfl := [], nloc := 3, keep := false, body := b50 }
def b51 : Ss := (.cons (.ret (.make 54 (.cons (.sub (.loc 0) (.int 0)) (.cons (.sub (.loc 0) (.int 1)) (.cons (.sub (.loc 0) (.int 2)) (.cons (.sub (.loc 0) (.int 3)) .nil)))) [] .nil)) .nil)
def f51 : Fn := { np := 1, dfl := [], nloc := 1, keep := false, body := b51 }
def b53 : Ss := (.cons (.expr (.call 55 (.cons (.loc 1) (.cons (.glob 56) .nil)) [] .nil)) (.cons (.expr (.call 19 (.cons (.loc 2) (.cons (.int 1) (.cons (.glob 57) .nil))) [] .nil)) (.cons (.expr (.call 19 (.cons (.loc 3) (.cons (.int 1) (.cons (.glob 58) .nil))) [] .nil)) (.cons (.expr (.call 19 (.cons (.loc 4) (.cons (.int 0) (.cons (.glob 29) .nil))) [] .nil)) (.cons (.asg (.att (.loc 0) 13) (.tup (.cons (.loc 1) (.cons (.loc 2) (.cons (.loc 3) (.cons (.loc 4) .nil)))))) .nil)))))
def f53 : Fn := { np := 5, dfl := [(.int 1), (.int 0)], nloc := 5, keep := false, body := b53 }
def b55 : Ss := (.cons (.ite (.not (.call 59 (.cons (.loc 0) (.cons (.loc 1) .nil)) [] .nil)) (.cons .bad .nil) .nil) .nil)
def f55 : Fn := { np := 2, dfl := [], nloc := 2, keep := false, body := b55 }
def b59 : Ss := (.cons (.ite (.or (.not (.isi (.loc 0) [.inl .tuple] true)) (.or (.cmp .nin (.bi .len (.cons (.loc 0) .nil)) (.tup (.cons (.int 1) (.cons (.int 2) .nil)))) (.not (.isi (.sub (.loc 0) (.int 0)) [.inl .str] true)))) (.cons (.ret (.bl false)) .nil) .nil) (.cons (.ite (.cmp .eq (.bi .len (.cons (.loc 0) .nil)) (.int 1)) (.cons (.ret (.cmp .in (.sub (.loc 0) (.int 0)) (.glob 60))) .nil) .nil) (.cons (.asg (.loc 2) (.call 61 (.cons (.sub (.loc 0) (.int 0)) (.cons (.loc 1) .nil)) [] .nil)) (.cons (.ret (.and (.cmp .isn (.loc 2) .non) (.call 26 (.cons (.sub (.loc 0) (.int 1)) (.cons (.sub (.loc 2) (.int 0)) (.cons (.sub (.loc 2) (.int 1)) .nil))) [] .nil))) .nil))))
def f59 : Fn := { np := 2, dfl := [], nloc := 3, keep := false, body := b59 }
def b61 : Ss := (.cons (.ite (.cmp .eq (.loc 0) (.str [119, 105, 110, 100, 111, 119])) (.cons (.ret (.tup (.cons (.int 0) (.cons (.bin .sub (.loc 1) (.int 1)) .nil)))) .nil) .nil) (.cons (.ite (.cmp .eq (.loc 0) (.str [114, 97, 110, 107])) (.cons (.ret (.tup (.cons (.int 2) (.cons (.loc 1) .nil)))) .nil) .nil) (.cons (.ret (.ite (.cmp .eq (.loc 0) (.str [100, 97, 121])) (.tup (.cons (.int 1) (.cons (.loc 1) .nil))) .non)) .nil)))
def f61 : Fn := { np := 2, dfl := [], nloc := 2, keep := false, body := b61 }
def b62 : Ss := (.cons (.ret (.sub (.attr (.loc 0) 13) (.int 0))) .nil)
def f62 : Fn := { np := 1, dfl := [], nloc := 1, keep := false, body := b62 }
def b63 : Ss := (.cons (.ret (.sub (.attr (.loc 0) 13) (.int 1))) .nil)
def f63 : Fn := { np := 1, dfl := [], nloc := 1, keep := false, body := b63 }
def b64 : Ss := (.cons (.ret (.sub (.attr (.loc 0) 13) (.int 2))) .nil)
def f64 : Fn := { np := 1, dfl := [], nloc := 1, keep := false, body := b64 }
def b65 : Ss := (.cons (.ret (.sub (.attr (.loc 0) 13) (.int 3))) .nil)
def f65 : Fn := { np := 1, dfl := [], nloc := 1, keep := false, body := b65 }
def b68 : Ss := (.cons (.expr (.call 18 (.cons (.loc 0) .nil) [] .nil)) (.cons (.expr (.call 70 (.cons (.loc 1) .nil) [] .nil)) (.cons (.expr (.call 71 (.cons (.loc 2) .nil) [] .nil)) (.cons (.expr (.call 55 (.cons (.loc 1) (.cons (.loc 2) .nil)) [] .nil)) (.cons (.expr (.call 19 (.cons (.loc 3) (.cons (.int 1) (.cons (.glob 23) .nil))) [] .nil)) (.cons (.ret (.call 72 (.cons (.call 22 (.cons (.loc 0) .nil) [] .nil) (.cons (.loc 1) (.cons (.loc 2) (.cons (.loc 3) .nil)))) [] .nil)) .nil))))))
def f68 : Fn := { np := 4, dfl := [], nloc := 4, keep := false, body := b68 }
def b70 : Ss := (.cons (.expr (.call 55 (.cons (.loc 0) (.cons (.int 62) .nil)) [] .nil)) .nil)
def f70 : Fn := { np := 1, dfl := [], nloc := 1, keep := false, body := b70 }
def b71 : Ss := (.cons (.ite (.not (.call 73 (.cons (.loc 0) .nil) [] .nil)) (.cons .bad .nil) .nil) .nil)
def f71 : Fn := { np := 1, dfl := [], nloc := 1, keep := false, body := b71 }
def b72 : Ss := (.cons (.asg (.tup (.cons (.loc 4) (.cons (.loc 5) .nil))) (.tup (.cons (.bin .add (.bin .mul (.bin .sub (.loc 3) (.int 1)) (.loc 2)) (.int 1)) (.cons (.bin .mul (.loc 3) (.loc 2)) .nil)))) (.cons (.ite (.cmp .eq (.sub (.loc 1) (.int 0)) (.str [119, 105, 110, 100, 111, 119])) (.cons (.ret (.call 74 (.cons (.loc 0) (.cons (.sub (.loc 1) (.int 1)) (.cons (.loc 4) (.cons (.loc 5) .nil)))) [] .nil)) .nil) .nil) (.cons (.ite (.cmp .eq (.sub (.loc 1) (.int 0)) (.str [100, 97, 121])) (.cons (.ret (.call 21 (.cons (.loc 0) (.cons (.bin .sub (.bin .add (.loc 4) (.sub (.loc 1) (.int 1))) (.int 1)) (.cons (.bin .sub (.bin .add (.loc 4) (.sub (.loc 1) (.int 1))) (.int 1)) .nil))) [] .nil)) .nil) .nil) (.cons (.asg (.loc 6) (.call 75 (.cons (.loc 0) (.cons (.loc 4) (.cons (.loc 5) .nil))) [] .nil)) (.cons (.ite (.cmp .eq (.sub (.loc 1) (.int 0)) (.str [114, 97, 110, 107])) (.cons (.ret (.call 76 (.cons (.loc 6) (.cons (.sub (.loc 1) (.int 1)) .nil)) [] .nil)) .nil) .nil) (.cons (.asg (.loc 7) (.bi .sum (.cons (.comp false [8, 9] (.bin .mul (.loc 8) (.loc 9)) (.tup (.cons (.loc 8) (.cons (.loc 9) .nil))) (.e (.loc 6)) .nil) .nil))) (.cons (.ret (.ite (.cmp .eq (.sub (.loc 1) (.int 0)) (.str [115, 117, 109])) (.loc 7) (.call 77 (.cons (.loc 7) (.cons (.loc 2) .nil)) [] .nil))) .nil)))))))
def f72 : Fn := { np := 4, dfl := [], nloc := 10, keep := false, body := b72 }
def b73 : Ss := (.cons (.ret (.call 26 (.cons (.loc 0) (.cons (.int 2) (.cons (.glob 56) .nil))) [] .nil)) .nil)
def f73 : Fn := { np := 1, dfl := [], nloc := 1, keep := false, body := b73 }
def b74 : Ss := (.cons (.asg (.loc 4) (.lsts false [false, true] (.cons (.bin .add (.loc 2) (.loc 1)) (.cons (.comp2 [5, 6, 7, 8] (.loc 7) (.tup (.cons (.loc 5) (.cons (.loc 6) .nil))) (.e (.loc 0)) .nil [7, 8] (.tup (.cons (.loc 7) (.cons (.loc 8) .nil))) (.e (.loc 6)) (.cons (.cmp2 .lt .le (.bin .add (.loc 2) (.loc 1)) (.loc 7) (.loc 3)) .nil)) .nil)))) (.cons (.ret (.bi .max (.cons (.comp false [9] (.call 21 (.cons (.loc 0) (.cons (.bin .sub (.loc 9) (.loc 1)) (.cons (.loc 9) .nil))) [] .nil) (.loc 9) (.e (.loc 4)) .nil) .nil))) .nil))
def f74 : Fn := { np := 4, dfl := [], nloc := 10, keep := false, body := b74 }
def b75 : Ss := (.cons (.asg (.loc 3) (.dct true (.cons (.loc 1) (.cons (.bl true) .nil)))) (.cons (.for (.tup (.cons (.loc 4) (.cons (.loc 5) .nil))) (.e (.loc 0)) (.cons (.for (.tup (.cons (.loc 6) (.cons (.loc 7) .nil))) (.e (.loc 5)) (.cons (.asg (.sub (.loc 3) (.loc 6)) (.bl true)) (.cons (.asg (.sub (.loc 3) (.bin .add (.loc 7) (.int 1))) (.bl true)) .nil))) .nil)) (.cons (.cls 3) (.cons (.asg (.loc 8) (.bi .sorted (.cons (.comp false [9] (.loc 9) (.loc 9) (.e (.loc 3)) (.cons (.cmp2 .le .le (.loc 1) (.loc 9) (.loc 2)) .nil)) .nil))) (.cons (.ret (.comp false [9, 10] (.tup (.cons (.bin .sub (.loc 10) (.loc 9)) (.cons (.call 21 (.cons (.loc 0) (.cons (.loc 9) (.cons (.loc 9) .nil))) [] .nil) .nil))) (.tup (.cons (.loc 9) (.cons (.loc 10) .nil))) (.zip (.cons (.loc 8) (.cons (.lsts false [true, false] (.cons (.slc (.loc 8) (.int 1) .non) (.cons (.bin .add (.loc 2) (.int 1)) .nil))) .nil))) .nil)) .nil)))))
def f75 : Fn := { np := 3, dfl := [], nloc := 11, keep := false, body := b75 }
def b76 : Ss := (.cons (.asg (.loc 2) (.loc 1)) (.cons (.for (.tup (.cons (.loc 3) (.cons (.loc 4) .nil))) (.e (.sortk (.loc 0) 78 (some true))) (.cons (.aug 2 .sub (.loc 3)) (.cons (.ite (.cmp .le (.loc 2) (.int 0)) (.cons (.ret (.loc 4)) .nil) .nil) .nil))) (.cons (.ret (.int 0)) .nil)))
def f76 : Fn := { np := 2, dfl := [], nloc := 5, keep := false, body := b76 }
def b77 : Ss := (.cons (.ret (.neg (.bin .fdiv (.neg (.loc 0)) (.loc 1)))) .nil)
def f77 : Fn := { np := 2, dfl := [], nloc := 2, keep := false, body := b77 }
def b78 : Ss := (.cons (.ret (.sub (.loc 0) (.int 1))) .nil)
def f78 : Fn := { np := 1, dfl := [], nloc := 1, keep := false, body := b78 }
def b85 : Ss := (.cons (.asg (.tup (.cons (.loc 5) (.cons (.loc 6) .nil))) (.tup (.cons (.lst false (.cons (.str [97]) (.cons (.str [110, 105, 103, 104, 116]) (.cons (.str [98]) (.cons (.str [122, 122]) (.cons (.str [97, 98, 99, 100, 101, 102, 103, 104]) (.cons (.str [100, 101, 115, 107]) (.cons (.str [120]) (.cons (.str [113]) .nil))))))))) (.cons (.call 87 (.cons (.loc 0) (.cons (.int 8) .nil)) [] .nil) .nil)))) (.cons (.asg (.loc 7) (.lst true .nil)) (.cons (.for (.loc 8) (.range (.cons (.bin .add (.int 1) (.call 87 (.cons (.loc 0) (.cons (.loc 2) .nil)) [] .nil)) .nil)) (.cons (.asg (.loc 9) (.call 90 (.cons (.loc 0) (.cons (.loc 4) .nil)) [] .nil)) (.cons (.expr (.bm .append (.loc 7) (.cons (.tup (.cons (.sub (.loc 5) (.bin .mod (.bi .int (.cons (.bin .add (.loc 6) (.loc 8)) .nil)) (.int 8))) (.cons (.loc 9) (.cons (.call 91 (.cons (.loc 0) (.cons (.loc 1) (.cons (.int 3) (.cons (.loc 3) .nil)))) [] .nil) .nil)))) .nil))) .nil))) (.cons (.cls 7) (.cons (.ret (.loc 7)) .nil)))))
def f85 : Fn := { np := 5, dfl := [], nloc := 10, keep := false, body := b85 }
def b86 : Ss := (.cons (.asg (.loc 1) (.lst true .nil)) (.cons (.for (.tup (.cons (.loc 2) (.cons (.loc 3) (.cons (.loc 4) .nil)))) (.e (.loc 0)) (.cons (.asg (.loc 5) (.bm .join (.str [32]) (.cons (.comp false [6, 7] (.bin .add (.bin .add (.bi .str (.cons (.loc 6) .nil)) (.str [45])) (.bi .str (.cons (.loc 7) .nil))) (.tup (.cons (.loc 6) (.cons (.loc 7) .nil))) (.e (.loc 4)) .nil) .nil))) (.cons (.expr (.bm .append (.loc 1) (.cons (.bin .add (.bin .add (.bin .add (.bin .add (.bin .add (.str [103, 114, 111, 117, 112, 32]) (.loc 2)) (.str [32])) (.bi .str (.cons (.loc 3) .nil))) (.str [32])) (.loc 5)) .nil))) .nil))) (.cons (.cls 1) (.cons (.ret (.bm .join (.str [10]) (.cons (.loc 1) .nil))) .nil))))
def f86 : Fn := { np := 1, dfl := [], nloc := 8, keep := false, body := b86 }
def b87 : Ss := (.cons (.asg (.sub (.loc 0) (.int 2)) (.bin .add (.sub (.loc 0) (.int 2)) (.int 1))) (.cons (.asg (.loc 2) (.bi .int (.cons (.sub (.loc 0) (.int 0)) .nil))) (.cons (.asg (.loc 3) (.bin .fdiv (.loc 2) (.int 4093))) (.cons (.asg (.sub (.loc 0) (.int 0)) (.bin .mod (.bi .int (.cons (.bin .add (.bin .add (.bin .add (.bin .mul (.loc 2) (.int 39373)) (.bin .mul (.loc 3) (.loc 3))) (.bin .mul (.int 92821) (.sub (.loc 0) (.int 2)))) (.int 5)) .nil)) (.int 2147483587))) (.cons (.ite (.cmp .gt (.sub (.loc 0) (.int 1)) (.int 0)) (.cons (.asg (.tup (.cons (.sub (.loc 0) (.int 1)) (.cons (.loc 4) .nil))) (.bi .divmod (.cons (.sub (.loc 0) (.int 1)) (.cons (.loc 1) .nil)))) (.cons (.ret (.loc 4)) .nil)) .nil) (.cons (.ret (.bin .mod (.bi .int (.cons (.bin .fdiv (.sub (.loc 0) (.int 0)) (.int 512)) .nil)) (.loc 1))) .nil))))))
def f87 : Fn := { np := 2, dfl := [], nloc := 5, keep := false, body := b87 }
def b89 : Ss := (.cons (.ret (.bi .sum (.cons (.comp false [3, 4, 5] (.loc 4) (.tup (.cons (.loc 3) (.cons (.loc 4) (.cons (.loc 5) .nil)))) (.e (.loc 0)) (.cons (.call 92 (.cons (.loc 5) (.cons (.loc 1) (.cons (.loc 2) .nil))) [] .nil) .nil)) .nil))) .nil)
def f89 : Fn := { np := 3, dfl := [], nloc := 6, keep := false, body := b89 }
def b90 : Ss := (.cons (.ret (.sub (.loc 1) (.call 87 (.cons (.loc 0) (.cons (.bi .len (.cons (.loc 1) .nil)) .nil)) [] .nil))) .nil)
def f90 : Fn := { np := 2, dfl := [], nloc := 2, keep := false, body := b90 }
def b91 : Ss := (.cons (.asg (.tup (.cons (.loc 4) (.cons (.loc 5) .nil))) (.tup (.cons (.lst true .nil) (.cons (.loc 1) .nil)))) (.cons (.for (.loc 6) (.range (.cons (.bin .add (.int 1) (.call 87 (.cons (.loc 0) (.cons (.loc 2) .nil)) [] .nil)) .nil)) (.cons (.asg (.loc 7) (.bin .add (.loc 5) (.call 87 (.cons (.loc 0) (.cons (.loc 3) .nil)) [] .nil))) (.cons (.asg (.loc 8) (.bin .add (.loc 7) (.call 87 (.cons (.loc 0) (.cons (.loc 3) .nil)) [] .nil))) (.cons (.expr (.bm .append (.loc 4) (.cons (.tup (.cons (.loc 7) (.cons (.loc 8) .nil))) .nil))) (.cons (.asg (.loc 5) (.bin .add (.loc 8) (.int 2))) .nil))))) (.cons (.cls 4) (.cons (.ret (.bi .tuple (.cons (.loc 4) .nil))) .nil))))
def f91 : Fn := { np := 4, dfl := [], nloc := 9, keep := false, body := b91 }
def b92 : Ss := (.cons (.ret (.bi .any (.cons (.comp false [3, 4] (.and (.cmp .le (.loc 3) (.loc 2)) (.cmp .le (.loc 1) (.loc 4))) (.tup (.cons (.loc 3) (.cons (.loc 4) .nil))) (.e (.loc 0)) .nil) .nil))) .nil)
def f92 : Fn := { np := 3, dfl := [], nloc := 5, keep := false, body := b92 }
def b97 : Ss := (.cons (.expr (.call 71 (.cons (.loc 0) .nil) [] .nil)) (.cons (.expr (.call 100 (.cons (.loc 1) .nil) [] .nil)) (.cons (.expr (.call 55 (.cons (.loc 2) (.cons (.loc 0) .nil)) [] .nil)) (.cons (.ret (.call 101 (.cons (.loc 0) (.cons (.loc 1) (.cons (.loc 2) .nil))) [] .nil)) .nil))))
def f97 : Fn := { np := 3, dfl := [], nloc := 3, keep := false, body := b97 }
def b98 : Ss := (.cons (.expr (.call 102 (.cons (.loc 0) (.cons (.loc 1) (.cons (.loc 2) (.cons (.loc 3) .nil)))) [] .nil)) (.cons (.expr (.call 55 (.cons (.loc 4) (.cons (.loc 0) .nil)) [] .nil)) (.cons (.ret (.call 103 (.cons (.loc 0) (.cons (.loc 1) (.cons (.loc 2) (.cons (.loc 3) (.cons (.loc 4) .nil))))) [] .nil)) .nil)))
def f98 : Fn := { np := 5, dfl := [], nloc := 5, keep := false, body := b98 }
def b100 : Ss := (.cons (.ite (.not (.call 108 (.cons (.loc 0) .nil) [] .nil)) (.cons .bad .nil) .nil) .nil)
def f100 : Fn := { np := 1, dfl := [], nloc := 1, keep := false, body := b100 }
def b101 : Ss := (.cons (.ite (.cmp .is (.loc 1) .non) (.cons (.ret .non) .nil) .nil) (.cons (.ret (.ite (.cmp .eq (.sub (.loc 2) (.int 0)) (.str [115, 117, 109])) (.bin .mul (.loc 1) (.loc 0)) (.loc 1))) .nil))
def f101 : Fn := { np := 3, dfl := [], nloc := 3, keep := false, body := b101 }
def b102 : Ss := (.cons (.expr (.call 71 (.cons (.loc 0) .nil) [] .nil)) (.cons (.expr (.call 100 (.cons (.loc 1) .nil) [] .nil)) (.cons (.expr (.call 55 (.cons (.loc 2) (.cons (.loc 0) .nil)) [] .nil)) (.cons (.asg (.loc 4) (.call 101 (.cons (.loc 0) (.cons (.loc 1) (.cons (.loc 2) .nil))) [] .nil)) (.cons (.expr (.call 19 (.cons (.loc 3) (.cons (.int 0) (.cons (.ite (.cmp .is (.loc 4) .non) (.glob 109) (.loc 4)) .nil))) [] .nil)) .nil)))))
def f102 : Fn := { np := 4, dfl := [], nloc := 5, keep := false, body := b102 }
def b103 : Ss := (.cons (.ite (.cmp .eq (.sub (.loc 4) (.int 0)) (.str [109, 101, 97, 110])) (.cons (.ite (.cmp .eq (.sub (.loc 2) (.int 0)) (.str [109, 101, 97, 110])) (.cons (.ret (.tup (.cons (.loc 3) (.cons (.loc 3) .nil)))) .nil) .nil) (.cons (.asg (.tup (.cons (.loc 5) (.cons (.loc 6) .nil))) (.call 103 (.cons (.loc 0) (.cons (.loc 1) (.cons (.loc 2) (.cons (.loc 3) (.cons (.tup (.cons (.str [115, 117, 109]) .nil)) .nil))))) [] .nil)) (.cons (.ret (.tup (.cons (.call 77 (.cons (.loc 5) (.cons (.loc 0) .nil)) [] .nil) (.cons (.ite (.cmp .is (.loc 6) .non) .non (.call 77 (.cons (.loc 6) (.cons (.loc 0) .nil)) [] .nil)) .nil)))) .nil))) .nil) (.cons (.ite (.cmp .ne (.sub (.loc 2) (.int 0)) (.str [109, 101, 97, 110])) (.cons (.ret (.call 110 (.cons (.loc 0) (.cons (.loc 1) (.cons (.loc 2) (.cons (.loc 3) (.cons (.loc 4) .nil))))) [] .nil)) .nil) .nil) (.cons (.asg (.tup (.cons (.loc 7) (.cons (.loc 8) .nil))) (.call 111 (.cons (.loc 0) (.cons (.loc 1) (.cons (.loc 3) .nil))) [] .nil)) (.cons (.asg (.loc 5) (.sub (.call 110 (.cons (.loc 0) (.cons (.loc 1) (.cons (.tup (.cons (.str [115, 117, 109]) .nil)) (.cons (.loc 7) (.cons (.loc 4) .nil))))) [] .nil) (.int 0))) (.cons (.ret (.tup (.cons (.loc 5) (.cons (.sub (.call 110 (.cons (.loc 0) (.cons (.loc 1) (.cons (.tup (.cons (.str [115, 117, 109]) .nil)) (.cons (.loc 8) (.cons (.loc 4) .nil))))) [] .nil) (.int 1)) .nil)))) .nil)))))
def f103 : Fn := { np := 5, dfl := [], nloc := 9, keep := false, body := b103 }
def b108 : Ss := (.cons (.ret (.or (.cmp .is (.loc 0) .non) (.call 26 (.cons (.loc 0) (.cons (.int 1) (.cons (.glob 29) .nil))) [] .nil))) .nil)
def f108 : Fn := { np := 1, dfl := [], nloc := 1, keep := false, body := b108 }
def b110 : Ss := (.cons (.ite (.cmp .eq (.loc 4) (.loc 2)) (.cons (.ret (.tup (.cons (.loc 3) (.cons (.loc 3) .nil)))) .nil) .nil) (.cons (.ite (.cmp .eq (.sub (.loc 2) (.int 0)) (.str [119, 105, 110, 100, 111, 119])) (.cons (.ret (.call 113 (.cons (.loc 0) (.cons (.loc 1) (.cons (.sub (.loc 2) (.int 1)) (.cons (.loc 3) (.cons (.loc 4) .nil))))) [] .nil)) .nil) .nil) (.cons (.ite (.cmp .eq (.sub (.loc 2) (.int 0)) (.str [114, 97, 110, 107])) (.cons (.ret (.call 114 (.cons (.loc 0) (.cons (.loc 1) (.cons (.sub (.loc 2) (.int 1)) (.cons (.loc 3) (.cons (.loc 4) .nil))))) [] .nil)) .nil) .nil) (.cons (.ret (.ite (.cmp .eq (.sub (.loc 2) (.int 0)) (.str [100, 97, 121])) (.call 115 (.cons (.loc 0) (.cons (.loc 1) (.cons (.loc 3) (.cons (.loc 4) .nil)))) [] .nil) (.call 116 (.cons (.loc 0) (.cons (.loc 1) (.cons (.loc 3) (.cons (.loc 4) .nil)))) [] .nil))) .nil))))
def f110 : Fn := { np := 5, dfl := [], nloc := 5, keep := false, body := b110 }
def b111 : Ss := (.cons (.asg (.loc 3) (.ite (.cmp .gt (.loc 2) (.int 0)) (.bin .add (.bin .mul (.bin .sub (.loc 2) (.int 1)) (.loc 0)) (.int 1)) (.int 0))) (.cons (.ret (.tup (.cons (.loc 3) (.cons (.ite (.cmp .is (.loc 1) .non) (.bin .mul (.loc 2) (.loc 0)) (.bi .min (.cons (.bin .mul (.loc 2) (.loc 0)) (.cons (.bin .mul (.loc 1) (.loc 0)) .nil)))) .nil)))) .nil))
def f111 : Fn := { np := 3, dfl := [], nloc := 4, keep := false, body := b111 }
def b113 : Ss := (.cons (.ite (.cmp .eq (.sub (.loc 4) (.int 0)) (.str [119, 105, 110, 100, 111, 119])) (.cons (.ite (.cmp .ge (.sub (.loc 4) (.int 1)) (.loc 2)) (.cons (.ret (.tup (.cons (.loc 3) (.cons (.call 117 (.cons (.bin .mul (.call 77 (.cons (.bin .add (.sub (.loc 4) (.int 1)) (.int 1)) (.cons (.bin .add (.loc 2) (.int 1)) .nil)) [] .nil) (.loc 3)) (.cons (.loc 1) .nil)) [] .nil) .nil)))) .nil) .nil) (.cons (.ret (.tup (.cons (.call 77 (.cons (.loc 3) (.cons (.call 77 (.cons (.bin .add (.loc 2) (.int 1)) (.cons (.bin .add (.sub (.loc 4) (.int 1)) (.int 1)) .nil)) [] .nil) .nil)) [] .nil) (.cons (.loc 3) .nil)))) .nil)) .nil) (.cons (.ret (.ite (.cmp .eq (.sub (.loc 4) (.int 0)) (.str [115, 117, 109])) (.tup (.cons (.loc 3) (.cons (.bin .mul (.loc 0) (.loc 3)) .nil))) (.tup (.cons (.int 0) (.cons (.loc 3) .nil))))) .nil))
def f113 : Fn := { np := 5, dfl := [], nloc := 5, keep := false, body := b113 }
def b114 : Ss := (.cons (.ite (.cmp .eq (.sub (.loc 4) (.int 0)) (.str [119, 105, 110, 100, 111, 119])) (.cons (.ret (.tup (.cons (.loc 3) (.cons (.loc 1) .nil)))) .nil) .nil) (.cons (.ite (.cmp .eq (.sub (.loc 4) (.int 0)) (.str [114, 97, 110, 107])) (.cons (.ret (.ite (.cmp .lt (.sub (.loc 4) (.int 1)) (.loc 2)) (.tup (.cons (.loc 3) (.cons (.loc 1) .nil))) (.tup (.cons (.int 0) (.cons (.loc 3) .nil))))) .nil) .nil) (.cons (.ite (.cmp .eq (.sub (.loc 4) (.int 0)) (.str [100, 97, 121])) (.cons (.ret (.tup (.cons (.ite (.cmp .eq (.loc 2) (.loc 0)) (.loc 3) (.int 0)) (.cons (.loc 1) .nil)))) .nil) .nil) (.cons (.asg (.loc 5) (.ite (.cmp .is (.loc 1) .non) .non (.bin .add (.bin .mul (.bin .sub (.loc 2) (.int 1)) (.loc 1)) (.bin .mul (.bin .add (.bin .sub (.loc 0) (.loc 2)) (.int 1)) (.loc 3))))) (.cons (.ret (.tup (.cons (.bin .mul (.loc 2) (.loc 3)) (.cons (.loc 5) .nil)))) .nil)))))
def f114 : Fn := { np := 5, dfl := [], nloc := 6, keep := false, body := b114 }
def b115 : Ss := (.cons (.ite (.cmp .eq (.sub (.loc 3) (.int 0)) (.str [119, 105, 110, 100, 111, 119])) (.cons (.ret (.tup (.cons (.loc 2) (.cons (.loc 1) .nil)))) .nil) .nil) (.cons (.ite (.cmp .eq (.sub (.loc 3) (.int 0)) (.str [114, 97, 110, 107])) (.cons (.ret (.tup (.cons (.int 0) (.cons (.ite (.cmp .eq (.sub (.loc 3) (.int 1)) (.loc 0)) (.loc 2) (.loc 1)) .nil)))) .nil) .nil) (.cons (.ite (.cmp .eq (.sub (.loc 3) (.int 0)) (.str [100, 97, 121])) (.cons (.ret (.tup (.cons (.int 0) (.cons (.loc 1) .nil)))) .nil) .nil) (.cons (.ret (.tup (.cons (.loc 2) (.cons (.ite (.cmp .is (.loc 1) .non) .non (.bin .add (.loc 2) (.bin .mul (.bin .sub (.loc 0) (.int 1)) (.loc 1)))) .nil)))) .nil))))
def f115 : Fn := { np := 4, dfl := [], nloc := 4, keep := false, body := b115 }
def b116 : Ss := (.cons (.ite (.cmp .eq (.sub (.loc 3) (.int 0)) (.str [119, 105, 110, 100, 111, 119])) (.cons (.ret (.tup (.cons (.call 77 (.cons (.loc 2) (.cons (.loc 0) .nil)) [] .nil) (.cons (.call 117 (.cons (.loc 2) (.cons (.loc 1) .nil)) [] .nil) .nil)))) .nil) .nil) (.cons (.ite (.cmp .eq (.sub (.loc 3) (.int 0)) (.str [114, 97, 110, 107])) (.cons (.asg (.loc 4) (.sub (.loc 3) (.int 1))) (.cons (.asg (.loc 5) (.ite (.cmp .is (.loc 1) .non) (.int 0) (.bi .max (.cons (.int 0) (.cons (.call 77 (.cons (.bin .sub (.loc 2) (.bin .mul (.bin .sub (.loc 4) (.int 1)) (.loc 1))) (.cons (.bin .add (.bin .sub (.loc 0) (.loc 4)) (.int 1)) .nil)) [] .nil) .nil))))) (.cons (.ret (.tup (.cons (.loc 5) (.cons (.call 117 (.cons (.bin .fdiv (.loc 2) (.loc 4)) (.cons (.loc 1) .nil)) [] .nil) .nil)))) .nil))) .nil) (.cons (.asg (.loc 5) (.ite (.cmp .is (.loc 1) .non) (.int 0) (.bi .max (.cons (.int 0) (.cons (.bin .sub (.loc 2) (.bin .mul (.bin .sub (.loc 0) (.int 1)) (.loc 1))) .nil))))) (.cons (.ret (.tup (.cons (.loc 5) (.cons (.call 117 (.cons (.loc 2) (.cons (.loc 1) .nil)) [] .nil) .nil)))) .nil))))
def f116 : Fn := { np := 4, dfl := [], nloc := 6, keep := false, body := b116 }
def b117 : Ss := (.cons (.ite (.or (.cmp .is (.loc 0) .non) (.cmp .is (.loc 1) .non)) (.cons (.ret (.ite (.cmp .is (.loc 0) .non) (.loc 1) (.loc 0))) .nil) .nil) (.cons (.ret (.bi .min (.cons (.loc 0) (.cons (.loc 1) .nil)))) .nil))
def f117 : Fn := { np := 2, dfl := [], nloc := 2, keep := false, body := b117 }
def b122 : Ss := (.cons (.asg (.loc 4) (.bin .add (.bin .mul (.bin .sub (.loc 3) (.int 1)) (.loc 2)) (.int 1))) (.cons (.ite (.cmp .eq (.sub (.loc 1) (.int 0)) (.str [119, 105, 110, 100, 111, 119])) (.cons (.ret (.bi .max (.cons (.comp false [6] (.call 10 (.cons (.loc 0) (.cons (.bin .add (.loc 4) (.loc 6)) (.cons (.bin .add (.bin .add (.loc 4) (.loc 6)) (.sub (.loc 1) (.int 1))) .nil))) [] .nil) (.loc 6) (.range (.cons (.bin .sub (.loc 2) (.sub (.loc 1) (.int 1))) .nil)) .nil) .nil))) .nil) .nil) (.cons (.asg (.loc 5) (.comp false [6] (.call 10 (.cons (.loc 0) (.cons (.bin .add (.loc 4) (.loc 6)) (.cons (.bin .add (.loc 4) (.loc 6)) .nil))) [] .nil) (.loc 6) (.range (.cons (.loc 2) .nil)) .nil)) (.cons (.ret (.call 123 (.cons (.loc 5) (.cons (.loc 1) .nil)) [] .nil)) .nil))))
def f122 : Fn := { np := 4, dfl := [], nloc := 7, keep := false, body := b122 }
def b123 : Ss := (.cons (.ite (.cmp .eq (.sub (.loc 1) (.int 0)) (.str [100, 97, 121])) (.cons (.ret (.sub (.loc 0) (.bin .sub (.sub (.loc 1) (.int 1)) (.int 1)))) .nil) .nil) (.cons (.ite (.cmp .eq (.sub (.loc 1) (.int 0)) (.str [114, 97, 110, 107])) (.cons (.ret (.sub (.bi .sorted (.cons (.loc 0) .nil)) (.bin .sub (.bi .len (.cons (.loc 0) .nil)) (.sub (.loc 1) (.int 1))))) .nil) .nil) (.cons (.asg (.loc 2) (.bi .sum (.cons (.loc 0) .nil))) (.cons (.ret (.ite (.cmp .eq (.sub (.loc 1) (.int 0)) (.str [115, 117, 109])) (.loc 2) (.bin .sub (.int 0) (.bin .fdiv (.bin .sub (.int 0) (.loc 2)) (.bi .len (.cons (.loc 0) .nil)))))) .nil))))
def f123 : Fn := { np := 2, dfl := [], nloc := 3, keep := false, body := b123 }
def b126 : Ss := (.cons (.ret (.bi .all (.cons (.comp false [1] (.call 127 (.cons (.call 3 (.cons (.loc 0) (.cons (.loc 1) .nil)) [] .nil) .nil) [] .nil) (.loc 1) (.range (.cons (.bi .max (.cons (.int 2) (.cons (.bi .min (.cons (.bi .len (.cons (.loc 0) .nil)) (.cons (.int 4) .nil))) .nil))) .nil)) .nil) .nil))) .nil)
def f126 : Fn := { np := 1, dfl := [], nloc := 2, keep := false, body := b126 }
def b127 : Ss := (.cons (.for (.loc 1) (.range (.cons (.int 3) .nil)) (.cons (.asg (.tup (.cons (.loc 2) (.cons (.loc 3) .nil))) (.tup (.cons (.call 5 (.cons (.loc 0) (.cons (.int 4) (.cons (.call 4 (.cons (.loc 0) (.cons (.lst false (.cons (.int 7) (.cons (.bin .pow (.int 10) (.int 28)) .nil))) .nil)) [] .nil) (.cons (.int 50) .nil)))) [] .nil) (.cons (.call 4 (.cons (.loc 0) (.cons (.lst false (.cons (.int 2) (.cons (.int 7) (.cons (.int 14) (.cons (.int 31) .nil))))) .nil)) [] .nil) .nil)))) (.cons (.asg (.loc 4) (.comp false [6] (.call 49 (.cons (.loc 0) (.cons (.call 50 (.cons (.loc 0) (.cons (.loc 3) .nil)) [] .nil) .nil)) [] .nil) (.loc 6) (.range (.cons (.int 3) .nil)) .nil)) (.cons (.asg (.tup (.cons (.loc 5) (.cons (.loc 6) .nil))) (.tup (.cons (.call 128 (.cons (.loc 2) (.cons (.loc 4) (.cons (.loc 3) .nil))) [] .nil) (.cons (.call 13 (.cons (.loc 0) (.cons (.bi .len (.cons (.loc 2) .nil)) .nil)) [] .nil) .nil)))) (.cons (.asg (.loc 7) (.sub (.loc 2) (.loc 6))) (.cons (.ite (.cmp .gt (.sub (.loc 7) (.int 1)) (.int 1)) (.cons (.asg (.loc 8) (.call 9 (.cons (.loc 0) (.cons (.bin .sub (.sub (.loc 7) (.int 1)) (.int 1)) .nil)) [] .nil)) (.cons (.asg (.loc 9) (.bin .add (.bin .add (.bin .add (.slc (.loc 2) .non (.loc 6)) (.lst false (.cons (.lst false (.cons (.sub (.loc 7) (.int 0)) (.cons (.bin .sub (.sub (.loc 7) (.int 1)) (.loc 8)) (.cons (.sub (.loc 7) (.int 2)) .nil)))) .nil))) (.slc (.loc 2) (.bin .add (.loc 6) (.int 1)) .non)) (.lst false (.cons (.lst false (.cons (.str [122, 111, 101]) (.cons (.loc 8) (.cons (.sub (.loc 7) (.int 2)) .nil)))) .nil)))) (.cons (.ite (.cmp .ne (.call 128 (.cons (.loc 9) (.cons (.loc 4) (.cons (.loc 3) .nil))) [] .nil) (.loc 5)) (.cons (.ret (.bl false)) .nil) .nil) .nil))) .nil) (.cons (.asg (.loc 10) (.rev (.comp false [20] (.lst false (.cons (.bin .add (.str [113]) (.sub (.str [97, 98, 99, 100, 101, 102]) (.loc 20))) (.cons (.sub (.sub (.loc 2) (.loc 20)) (.int 1)) (.cons (.sub (.sub (.loc 2) (.loc 20)) (.int 2)) .nil)))) (.loc 20) (.range (.cons (.bi .len (.cons (.loc 2) .nil)) .nil)) .nil))) (.cons (.ite (.cmp .ne (.call 128 (.cons (.loc 10) (.cons (.loc 4) (.cons (.loc 3) .nil))) [] .nil) (.loc 5)) (.cons (.ret (.bl false)) .nil) .nil) (.cons (.asg (.loc 11) (.call 128 (.cons (.bin .add (.loc 2) (.lst false (.cons (.lst false (.cons (.str [122, 111, 101]) (.cons (.call 9 (.cons (.loc 0) (.cons (.int 9) .nil)) [] .nil) (.cons (.call 15 (.cons (.loc 0) (.cons (.int 50) .nil)) [] .nil) .nil)))) .nil))) (.cons (.loc 4) (.cons (.loc 3) .nil))) [] .nil)) (.cons (.asg (.loc 12) (.bin .add (.bin .add (.slc (.loc 2) .non (.loc 6)) (.lst false (.cons (.lst false (.cons (.sub (.loc 7) (.int 0)) (.cons (.sub (.loc 7) (.int 1)) (.cons (.bin .add (.slc (.sub (.loc 7) (.int 2)) .non (.neg (.int 1))) (.lst false (.cons (.tup (.cons (.sub (.sub (.sub (.loc 7) (.int 2)) (.neg (.int 1))) (.int 0)) (.cons (.bin .add (.bin .add (.sub (.sub (.sub (.loc 7) (.int 2)) (.neg (.int 1))) (.int 1)) (.int 1)) (.call 13 (.cons (.loc 0) (.cons (.int 9) .nil)) [] .nil)) .nil))) .nil))) .nil)))) .nil))) (.slc (.loc 2) (.bin .add (.loc 6) (.int 1)) .non))) (.cons (.asg (.loc 13) (.call 128 (.cons (.loc 12) (.cons (.loc 4) (.cons (.loc 3) .nil))) [] .nil)) (.cons (.ite (.cmp .ne (.comp false [20] (.loc 20) (.loc 20) (.range (.cons (.bi .len (.cons (.loc 5) .nil)) .nil)) (.cons (.or (.cmp .lt (.sub (.loc 11) (.loc 20)) (.sub (.loc 5) (.loc 20))) (.cmp .lt (.sub (.loc 13) (.loc 20)) (.sub (.loc 5) (.loc 20)))) .nil)) (.lst false .nil)) (.cons (.ret (.bl false)) .nil) .nil) (.cons (.asg (.loc 14) (.call 4 (.cons (.loc 0) (.cons (.lst false (.cons (.int 2) (.cons (.int 3) (.cons (.int 10) (.cons (.int 62) .nil))))) .nil)) [] .nil)) (.cons (.asg (.loc 15) (.comp false [21] (.lst false (.cons (.sub (.loc 21) (.int 0)) (.cons (.bin .mul (.sub (.loc 21) (.int 1)) (.loc 14)) (.cons (.sub (.loc 21) (.int 2)) .nil)))) (.loc 21) (.e (.loc 2)) .nil)) (.cons (.asg (.tup (.cons (.loc 16) (.cons (.loc 17) .nil))) (.tup (.cons (.make 7 (.cons (.call 8 (.cons (.loc 2) .nil) [] .nil) .nil) [] .nil) (.cons (.make 7 (.cons (.call 8 (.cons (.loc 15) .nil) [] .nil) .nil) [] .nil) .nil)))) (.cons (.for (.loc 18) (.e (.loc 4)) (.cons (.asg (.loc 19) (.ite (.cmp .ne (.sub (.loc 18) (.int 0)) (.tup (.cons (.str [109, 101, 97, 110]) .nil))) (.sub (.loc 18) (.int 0)) (.tup (.cons (.str [115, 117, 109]) .nil)))) (.cons (.ite (.cmp .ne (.call 68 (.cons (.loc 17) (.cons (.loc 19) (.cons (.loc 3) (.cons (.int 1) .nil)))) [] .nil) (.bin .mul (.loc 14) (.call 68 (.cons (.loc 16) (.cons (.loc 19) (.cons (.loc 3) (.cons (.int 1) .nil)))) [] .nil))) (.cons (.ret (.bl false)) .nil) .nil) .nil))) .nil)))))))))))))))) (.cons (.ret (.bl true)) .nil))
def f127 : Fn := { np := 1, dfl := [], nloc := 22, keep := false, body := b127 }
def b128 : Ss := (.cons (.asg (.tup (.cons (.loc 3) (.cons (.loc 4) .nil))) (.tup (.cons (.make 7 (.cons (.call 8 (.cons (.loc 0) .nil) [] .nil) .nil) [] .nil) (.cons (.lst false .nil) .nil)))) (.cons (.for (.loc 5) (.e (.loc 1)) (.cons (.asg (.loc 4) (.catm (.loc 4) (.comp false [6] (.call 68 (.cons (.loc 3) (.cons (.sub (.loc 5) (.int 0)) (.cons (.loc 2) (.cons (.loc 6) .nil)))) [] .nil) (.loc 6) (.range (.cons (.int 1) (.cons (.int 5) .nil))) .nil))) (.cons (.expr (.bm .append (.loc 4) (.cons (.call 129 (.cons (.call 51 (.cons (.loc 5) .nil) [] .nil) (.cons (.loc 3) (.cons (.loc 2) (.cons (.int 1) (.cons (.bin .pow (.int 10) (.int 12)) .nil))))) [] .nil) .nil))) (.cons (.cls 4) .nil)))) (.cons (.ret (.loc 4)) .nil)))
def f128 : Fn := { np := 3, dfl := [], nloc := 7, keep := false, body := b128 }
def b129 : Ss := (.cons (.expr (.call 130 (.cons (.loc 0) (.cons (.loc 1) (.cons (.loc 2) (.cons (.loc 3) (.cons (.loc 4) .nil))))) [] .nil)) (.cons (.ret (.call 131 (.cons (.loc 0) (.cons (.call 22 (.cons (.loc 1) .nil) [] .nil) (.cons (.loc 2) (.cons (.loc 3) (.cons (.loc 4) .nil))))) [] .nil)) .nil))
def f129 : Fn := { np := 5, dfl := [], nloc := 5, keep := false, body := b129 }
def b130 : Ss := (.cons (.expr (.call 132 (.cons (.loc 0) .nil) [] .nil)) (.cons (.expr (.call 18 (.cons (.loc 1) .nil) [] .nil)) (.cons (.expr (.call 71 (.cons (.loc 2) .nil) [] .nil)) (.cons (.expr (.call 133 (.cons (.loc 0) (.cons (.loc 2) .nil)) [] .nil)) (.cons (.expr (.call 134 (.cons (.loc 3) (.cons (.loc 4) .nil)) [] .nil)) .nil)))))
def f130 : Fn := { np := 5, dfl := [], nloc := 5, keep := false, body := b130 }
def b131 : Ss := (.cons (.asg (.loc 5) (.call 135 (.cons (.loc 1) (.cons (.loc 2) (.cons (.loc 3) (.cons (.loc 4) .nil)))) [] .nil)) (.cons (.ret (.bi .sum (.cons (.comp false [6, 7] (.bin .mul (.loc 7) (.call 136 (.cons (.loc 0) (.cons (.loc 1) (.cons (.loc 2) (.cons (.loc 6) .nil)))) [] .nil)) (.tup (.cons (.loc 6) (.cons (.loc 7) .nil))) (.e (.loc 5)) .nil) .nil))) .nil))
def f131 : Fn := { np := 5, dfl := [], nloc := 8, keep := false, body := b131 }
def b132 : Ss := (.cons (.ite (.not (.isi (.loc 0) [.inr 54] true)) (.cons .bad .nil) .nil) .nil)
def f132 : Fn := { np := 1, dfl := [], nloc := 1, keep := false, body := b132 }
def b133 : Ss := (.cons (.expr (.call 55 (.cons (.attr (.loc 0) 14) (.cons (.loc 1) .nil)) [] .nil)) .nil)
def f133 : Fn := { np := 2, dfl := [], nloc := 2, keep := false, body := b133 }
def b134 : Ss := (.cons (.expr (.call 19 (.cons (.loc 0) (.cons (.int 1) (.cons (.glob 23) .nil))) [] .nil)) (.cons (.expr (.call 19 (.cons (.loc 1) (.cons (.loc 0) (.cons (.glob 23) .nil))) [] .nil)) .nil))
def f134 : Fn := { np := 2, dfl := [], nloc := 2, keep := false, body := b134 }
def b135 : Ss := (.cons (.asg (.tup (.cons (.loc 4) (.cons (.loc 5) .nil))) (.tup (.cons (.lst true .nil) (.cons (.loc 2) .nil)))) (.cons (.for (.loc 6) (.e (.call 137 (.cons (.loc 0) (.cons (.loc 1) (.cons (.loc 2) (.cons (.loc 3) .nil)))) [] .nil)) (.cons (.ite (.cmp .gt (.loc 6) (.loc 5)) (.cons (.expr (.bm .append (.loc 4) (.cons (.tup (.cons (.loc 5) (.cons (.bin .sub (.loc 6) (.loc 5)) .nil))) .nil))) .nil) .nil) (.cons (.expr (.bm .append (.loc 4) (.cons (.tup (.cons (.loc 6) (.cons (.int 1) .nil))) .nil))) (.cons (.asg (.loc 5) (.bin .add (.loc 6) (.int 1))) .nil)))) (.cons (.ite (.cmp .le (.loc 5) (.loc 3)) (.cons (.expr (.bm .append (.loc 4) (.cons (.tup (.cons (.loc 5) (.cons (.bin .sub (.bin .add (.loc 3) (.int 1)) (.loc 5)) .nil))) .nil))) .nil) .nil) (.cons (.cls 4) (.cons (.ret (.loc 4)) .nil)))))
def f135 : Fn := { np := 4, dfl := [], nloc := 7, keep := false, body := b135 }
def b136 : Ss := (.cons (.ret (.call 138 (.cons (.loc 0) (.cons (.call 72 (.cons (.loc 1) (.cons (.attr (.loc 0) 14) (.cons (.loc 2) (.cons (.loc 3) .nil)))) [] .nil) .nil)) [] .nil)) .nil)
def f136 : Fn := { np := 4, dfl := [], nloc := 4, keep := false, body := b136 }
def b137 : Ss := (.cons (.asg (.loc 4) (.dct true .nil)) (.cons (.for (.tup (.cons (.loc 5) (.cons (.loc 6) .nil))) (.e (.loc 0)) (.cons (.for (.tup (.cons (.loc 7) (.cons (.loc 8) .nil))) (.e (.loc 6)) (.cons (.for (.loc 9) (.e (.tup (.cons (.loc 7) (.cons (.loc 8) (.cons (.bin .add (.loc 8) (.int 1)) .nil))))) (.cons (.asg (.sub (.loc 4) (.call 77 (.cons (.loc 9) (.cons (.loc 1) .nil)) [] .nil)) (.bl true)) .nil)) .nil)) .nil)) (.cons (.cls 4) (.cons (.ret (.bi .sorted (.cons (.comp false [10] (.loc 10) (.loc 10) (.e (.loc 4)) (.cons (.cmp2 .le .le (.loc 2) (.loc 10) (.loc 3)) .nil)) .nil))) .nil))))
def f137 : Fn := { np := 4, dfl := [], nloc := 11, keep := false, body := b137 }
def b138 : Ss := (.cons (.ret (.bin .mul (.attr (.loc 0) 15) (.call 139 (.cons (.loc 0) (.cons (.loc 1) .nil)) [] .nil))) .nil)
def f138 : Fn := { np := 2, dfl := [], nloc := 2, keep := false, body := b138 }
def b139 : Ss := (.cons (.ret (.bi .max (.cons (.attr (.loc 0) 17) (.cons (.bin .mul (.attr (.loc 0) 16) (.call 77 (.cons (.loc 1) (.cons (.attr (.loc 0) 16) .nil)) [] .nil)) .nil)))) .nil)
def f139 : Fn := { np := 2, dfl := [], nloc := 2, keep := false, body := b139 }
def b150 : Ss := (.cons (.ret (.bin .mul (.sub (.loc 0) (.int 1)) (.call 152 (.cons (.loc 0) (.cons (.loc 1) .nil)) [] .nil))) .nil)
def f150 : Fn := { np := 2, dfl := [], nloc := 2, keep := false, body := b150 }
def b151 : Ss := (.cons (.expr (.call 130 (.cons (.loc 0) (.cons (.loc 1) (.cons (.loc 2) (.cons (.loc 3) (.cons (.loc 4) .nil))))) [] .nil)) (.cons (.asg (.loc 5) (.call 22 (.cons (.loc 1) .nil) [] .nil)) (.cons (.asg (.loc 6) (.comp false [8, 9] (.tup (.cons (.loc 8) (.cons (.call 136 (.cons (.loc 0) (.cons (.loc 5) (.cons (.loc 2) (.cons (.loc 8) .nil)))) [] .nil) .nil))) (.tup (.cons (.loc 8) (.cons (.loc 9) .nil))) (.e (.call 135 (.cons (.loc 5) (.cons (.loc 2) (.cons (.loc 3) (.cons (.loc 4) .nil)))) [] .nil)) .nil)) (.cons (.asg (.loc 7) (.bi .max (.cons (.comp false [8, 10] (.loc 10) (.tup (.cons (.loc 8) (.cons (.loc 10) .nil))) (.e (.loc 6)) .nil) .nil))) (.cons (.ret (.sub (.comp false [11] (.loc 11) (.loc 11) (.e (.loc 6)) (.cons (.cmp .eq (.sub (.loc 11) (.int 1)) (.loc 7)) .nil)) (.int 0))) .nil)))))
def f151 : Fn := { np := 5, dfl := [], nloc := 12, keep := false, body := b151 }
def b152 : Ss := (.cons (.asg (.loc 2) (.bin .sub (.int 0) (.bin .fdiv (.bin .sub (.int 0) (.loc 1)) (.sub (.loc 0) (.int 2))))) (.cons (.ret (.bi .max (.cons (.sub (.loc 0) (.int 3)) (.cons (.bin .mul (.loc 2) (.sub (.loc 0) (.int 2))) .nil)))) .nil))
def f152 : Fn := { np := 2, dfl := [], nloc := 3, keep := false, body := b152 }
def c7 : Cls := { init := some 6, meths := [], props := [(11, 43), (12, 44), (10, 41), (7, 42)], cmeths := [], up := [7], upB := [], frz := true }
def c54 : Cls := { init := some 53, meths := [], props := [(14, 62), (17, 65), (16, 64), (15, 63)], cmeths := [], up := [54], upB := [], frz := true }
def fnT : Nat → Option Fn
  | 1 => some f1
  | 3 => some f3
  | 4 => some f4
  | 5 => some f5
  | 6 => some f6
  | 8 => some f8
  | 9 => some f9
  | 10 => some f10
  | 11 => some f11
  | 12 => some f12
  | 13 => some f13
  | 14 => some f14
  | 15 => some f15
  | 16 => some f16
  | 17 => some f17
  | 18 => some f18
  | 19 => some f19
  | 21 => some f21
  | 22 => some f22
  | 24 => some f24
  | 26 => some f26
  | 27 => some f27
  | 28 => some f28
  | 30 => some f30
  | 31 => some f31
  | 32 => some f32
  | 37 => some f37
  | 39 => some f39
  | 40 => some f40
  | 41 => some f41
  | 42 => some f42
  | 43 => some f43
  | 44 => some f44
  | 49 => some f49
  | 50 => some f50
  | 51 => some f51
  | 53 => some f53
  | 55 => some f55
  | 59 => some f59
  | 61 => some f61
  | 62 => some f62
  | 63 => some f63
  | 64 => some f64
  | 65 => some f65
  | 68 => some f68
  | 70 => some f70
  | 71 => some f71
  | 72 => some f72
  | 73 => some f73
  | 74 => some f74
  | 75 => some f75
  | 76 => some f76
  | 77 => some f77
  | 78 => some f78
  | 85 => some f85
  | 86 => some f86
  | 87 => some f87
  | 89 => some f89
  | 90 => some f90
  | 91 => some f91
  | 92 => some f92
  | 97 => some f97
  | 98 => some f98
  | 100 => some f100
  | 101 => some f101
  | 102 => some f102
  | 103 => some f103
  | 108 => some f108
  | 110 => some f110
  | 111 => some f111
  | 113 => some f113
  | 114 => some f114
  | 115 => some f115
  | 116 => some f116
  | 117 => some f117
  | 122 => some f122
  | 123 => some f123
  | 126 => some f126
  | 127 => some f127
  | 128 => some f128
  | 129 => some f129
  | 130 => some f130
  | 131 => some f131
  | 132 => some f132
  | 133 => some f133
  | 134 => some f134
  | 135 => some f135
  | 136 => some f136
  | 137 => some f137
  | 138 => some f138
  | 139 => some f139
  | 150 => some f150
  | 151 => some f151
  | 152 => some f152
  | _ => none
def clsT : Nat → Option Cls
  | 7 => some c7
  | 54 => some c54
  | _ => none
def cstT : Nat → Option D
  | 20 => some (.int 1000000000000000)
  | 23 => some (.int 1000000000000)
  | 25 => some (.int 64)
  | 29 => some (.int 1000000000000000000000000000000)
  | 33 => some (.int 8)
  | 34 => some (.str [97, 98, 99, 100, 101, 102, 103, 104, 105, 106, 107, 108, 109, 110, 111, 112, 113, 114, 115, 116, 117, 118, 119, 120, 121, 122])
  | 35 => some (.int 60)
  | 36 => some (.str [48, 49, 50, 51, 52, 53, 54, 55, 56, 57])
  | 38 => some (.int 6)
  | 56 => some (.int 62)
  | 57 => some (.int 1000000000)
  | 58 => some (.int 50)
  | 60 => some (.tup [(.str [115, 117, 109]), (.str [109, 101, 97, 110])])
  | 109 => some (.int 1000000000000000000000000000000000000000000000)
  | _ => none
def G : Prog := ⟨fnT, clsT, cstT, rp⟩
theorem r1 (k : Nat) (a0 : D) (w : W) : run G (k + 1) 1 [a0] w = fin false w.length (execs G (run G k) b1 [some a0, none] w) := run_fin G k 1 _ w f1 rfl rfl (by decide)
@[simp ↓] theorem q1_1 (cl : CallT) (a0 : D) (w : W) : callF G cl 1 [a0] [] [] w = cl 1 [a0] w := Eq.trans rfl rfl
theorem r3 (k : Nat) (a0 a1 : D) (w : W) : run G (k + 1) 3 [a0, a1] w = fin true w.length (execs G (run G k) b3 [some a0, some a1, none, none, none] w) := run_fin G k 3 _ w f3 rfl rfl (by decide)
@[simp ↓] theorem q3_2 (cl : CallT) (a0 a1 : D) (w : W) : callF G cl 3 [a0, a1] [] [] w = cl 3 [a0, a1] w := Eq.trans rfl rfl
theorem r4 (k : Nat) (a0 a1 : D) (w : W) : run G (k + 1) 4 [a0, a1] w = fin false w.length (execs G (run G k) b4 [some a0, some a1] w) := run_fin G k 4 _ w f4 rfl rfl (by decide)
@[simp ↓] theorem q4_2 (cl : CallT) (a0 a1 : D) (w : W) : callF G cl 4 [a0, a1] [] [] w = cl 4 [a0, a1] w := Eq.trans rfl rfl
theorem r5 (k : Nat) (a0 a1 a2 a3 : D) (w : W) : run G (k + 1) 5 [a0, a1, a2, a3] w = fin false w.length (execs G (run G k) b5 [some a0, some a1, some a2, some a3, none] w) := run_fin G k 5 _ w f5 rfl rfl (by decide)
@[simp ↓] theorem q5_4 (cl : CallT) (a0 a1 a2 a3 : D) (w : W) : callF G cl 5 [a0, a1, a2, a3] [] [] w = cl 5 [a0, a1, a2, a3] w := Eq.trans rfl rfl
theorem r6 (k : Nat) (a0 a1 : D) (w : W) : run G (k + 1) 6 [a0, a1] w = fin false w.length (execs G (run G k) b6 [some a0, some a1, none] w) := run_fin G k 6 _ w f6 rfl rfl (by decide)
@[simp ↓] theorem q6_2 (cl : CallT) (a0 a1 : D) (w : W) : callF G cl 6 [a0, a1] [] [] w = cl 6 [a0, a1] w := Eq.trans rfl rfl
theorem r8 (k : Nat) (a0 : D) (w : W) : run G (k + 1) 8 [a0] w = fin false w.length (execs G (run G k) b8 [some a0, none, none, none] w) := run_fin G k 8 _ w f8 rfl rfl (by decide)
@[simp ↓] theorem q8_1 (cl : CallT) (a0 : D) (w : W) : callF G cl 8 [a0] [] [] w = cl 8 [a0] w := Eq.trans rfl rfl
theorem r9 (k : Nat) (a0 a1 : D) (w : W) : run G (k + 1) 9 [a0, a1] w = fin false w.length (execs G (run G k) b9 [some a0, some a1, none] w) := run_fin G k 9 _ w f9 rfl rfl (by decide)
@[simp ↓] theorem q9_2 (cl : CallT) (a0 a1 : D) (w : W) : callF G cl 9 [a0, a1] [] [] w = cl 9 [a0, a1] w := Eq.trans rfl rfl
@[simp ↓] theorem q10_3 (cl : CallT) (a0 a1 a2 : D) (w : W) : callF G cl 10 [a0, a1, a2] [] [] w = cl 10 [a0, a1, a2] w := Eq.trans rfl rfl
@[simp ↓] theorem q11_0_1_0 (cl : CallT) (k0 k1 : D) (w : W) : callF G cl 11 [] [1, 0] [k0, k1] w = cl 11 [k1, k0] w := Eq.trans rfl rfl
@[simp ↓] theorem q11_2 (cl : CallT) (a0 a1 : D) (w : W) : callF G cl 11 [a0, a1] [] [] w = cl 11 [a0, a1] w := Eq.trans rfl rfl
@[simp ↓] theorem q12_0_2_1_0 (cl : CallT) (k0 k1 k2 : D) (w : W) : callF G cl 12 [] [2, 1, 0] [k0, k1, k2] w = cl 12 [k2, k1, k0] w := Eq.trans rfl rfl
@[simp ↓] theorem q12_3 (cl : CallT) (a0 a1 a2 : D) (w : W) : callF G cl 12 [a0, a1, a2] [] [] w = cl 12 [a0, a1, a2] w := Eq.trans rfl rfl
theorem r13 (k : Nat) (a0 a1 : D) (w : W) : run G (k + 1) 13 [a0, a1] w = fin false w.length (execs G (run G k) b13 [some a0, some a1, none] w) := run_fin G k 13 _ w f13 rfl rfl (by decide)
@[simp ↓] theorem q13_2 (cl : CallT) (a0 a1 : D) (w : W) : callF G cl 13 [a0, a1] [] [] w = cl 13 [a0, a1] w := Eq.trans rfl rfl
theorem r14 (k : Nat) (a0 a1 : D) (w : W) : run G (k + 1) 14 [a0, a1] w = fin false w.length (execs G (run G k) b14 [some a0, some a1, none, none, none, none] w) := run_fin G k 14 _ w f14 rfl rfl (by decide)
@[simp ↓] theorem q14_2 (cl : CallT) (a0 a1 : D) (w : W) : callF G cl 14 [a0, a1] [] [] w = cl 14 [a0, a1] w := Eq.trans rfl rfl
theorem r15 (k : Nat) (a0 a1 : D) (w : W) : run G (k + 1) 15 [a0, a1] w = fin false w.length (execs G (run G k) b15 [some a0, some a1, none, none, none, none, none] w) := run_fin G k 15 _ w f15 rfl rfl (by decide)
@[simp ↓] theorem q15_2 (cl : CallT) (a0 a1 : D) (w : W) : callF G cl 15 [a0, a1] [] [] w = cl 15 [a0, a1] w := Eq.trans rfl rfl
theorem r16 (k : Nat) (a0 : D) (w : W) : run G (k + 1) 16 [a0] w = fin false w.length (execs G (run G k) b16 [some a0, none, none, none] w) := run_fin G k 16 _ w f16 rfl rfl (by decide)
@[simp ↓] theorem q16_1 (cl : CallT) (a0 : D) (w : W) : callF G cl 16 [a0] [] [] w = cl 16 [a0] w := Eq.trans rfl rfl
@[simp ↓] theorem q17_3 (cl : CallT) (a0 a1 a2 : D) (w : W) : callF G cl 17 [a0, a1, a2] [] [] w = cl 17 [a0, a1, a2] w := Eq.trans rfl rfl
theorem r18 (k : Nat) (a0 : D) (w : W) : run G (k + 1) 18 [a0] w = fin false w.length (execs G (run G k) b18 [some a0] w) := run_fin G k 18 _ w f18 rfl rfl (by decide)
@[simp ↓] theorem q18_1 (cl : CallT) (a0 : D) (w : W) : callF G cl 18 [a0] [] [] w = cl 18 [a0] w := Eq.trans rfl rfl
theorem r19 (k : Nat) (a0 a1 a2 : D) (w : W) : run G (k + 1) 19 [a0, a1, a2] w = fin false w.length (execs G (run G k) b19 [some a0, some a1, some a2] w) := run_fin G k 19 _ w f19 rfl rfl (by decide)
@[simp ↓] theorem q19_3 (cl : CallT) (a0 a1 a2 : D) (w : W) : callF G cl 19 [a0, a1, a2] [] [] w = cl 19 [a0, a1, a2] w := Eq.trans rfl rfl
theorem r21 (k : Nat) (a0 a1 a2 : D) (w : W) : run G (k + 1) 21 [a0, a1, a2] w = fin false w.length (execs G (run G k) b21 [some a0, some a1, some a2, none, none, none, none] w) := run_fin G k 21 _ w f21 rfl rfl (by decide)
@[simp ↓] theorem q21_3 (cl : CallT) (a0 a1 a2 : D) (w : W) : callF G cl 21 [a0, a1, a2] [] [] w = cl 21 [a0, a1, a2] w := Eq.trans rfl rfl
theorem r22 (k : Nat) (a0 : D) (w : W) : run G (k + 1) 22 [a0] w = fin false w.length (execs G (run G k) b22 [some a0] w) := run_fin G k 22 _ w f22 rfl rfl (by decide)
@[simp ↓] theorem q22_1 (cl : CallT) (a0 : D) (w : W) : callF G cl 22 [a0] [] [] w = cl 22 [a0] w := Eq.trans rfl rfl
theorem r24 (k : Nat) (a0 : D) (w : W) : run G (k + 1) 24 [a0] w = fin false w.length (execs G (run G k) b24 [some a0, none, none, none] w) := run_fin G k 24 _ w f24 rfl rfl (by decide)
@[simp ↓] theorem q24_1 (cl : CallT) (a0 : D) (w : W) : callF G cl 24 [a0] [] [] w = cl 24 [a0] w := Eq.trans rfl rfl
theorem r26 (k : Nat) (a0 a1 a2 : D) (w : W) : run G (k + 1) 26 [a0, a1, a2] w = fin false w.length (execs G (run G k) b26 [some a0, some a1, some a2] w) := run_fin G k 26 _ w f26 rfl rfl (by decide)
@[simp ↓] theorem q26_3 (cl : CallT) (a0 a1 a2 : D) (w : W) : callF G cl 26 [a0, a1, a2] [] [] w = cl 26 [a0, a1, a2] w := Eq.trans rfl rfl
theorem r27 (k : Nat) (a0 : D) (w : W) : run G (k + 1) 27 [a0] w = fin false w.length (execs G (run G k) b27 [some a0, none] w) := run_fin G k 27 _ w f27 rfl rfl (by decide)
@[simp ↓] theorem q27_1 (cl : CallT) (a0 : D) (w : W) : callF G cl 27 [a0] [] [] w = cl 27 [a0] w := Eq.trans rfl rfl
theorem r28 (k : Nat) (a0 a1 : D) (w : W) : run G (k + 1) 28 [a0, a1] w = fin false w.length (execs G (run G k) b28 [some a0, some a1, none] w) := run_fin G k 28 _ w f28 rfl rfl (by decide)
@[simp ↓] theorem q28_2 (cl : CallT) (a0 a1 : D) (w : W) : callF G cl 28 [a0, a1] [] [] w = cl 28 [a0, a1] w := Eq.trans rfl rfl
theorem r30 (k : Nat) (a0 : D) (w : W) : run G (k + 1) 30 [a0] w = fin false w.length (execs G (run G k) b30 [some a0, none, none] w) := run_fin G k 30 _ w f30 rfl rfl (by decide)
@[simp ↓] theorem q30_1 (cl : CallT) (a0 : D) (w : W) : callF G cl 30 [a0] [] [] w = cl 30 [a0] w := Eq.trans rfl rfl
theorem r31 (k : Nat) (a0 : D) (w : W) : run G (k + 1) 31 [a0] w = fin false w.length (execs G (run G k) b31 [some a0] w) := run_fin G k 31 _ w f31 rfl rfl (by decide)
@[simp ↓] theorem q31_1 (cl : CallT) (a0 : D) (w : W) : callF G cl 31 [a0] [] [] w = cl 31 [a0] w := Eq.trans rfl rfl
theorem r32 (k : Nat) (a0 : D) (w : W) : run G (k + 1) 32 [a0] w = fin false w.length (execs G (run G k) b32 [some a0] w) := run_fin G k 32 _ w f32 rfl rfl (by decide)
@[simp ↓] theorem q32_1 (cl : CallT) (a0 : D) (w : W) : callF G cl 32 [a0] [] [] w = cl 32 [a0] w := Eq.trans rfl rfl
theorem r37 (k : Nat) (a0 : D) (w : W) : run G (k + 1) 37 [a0] w = fin false w.length (execs G (run G k) b37 [some a0, none, none] w) := run_fin G k 37 _ w f37 rfl rfl (by decide)
@[simp ↓] theorem q37_1 (cl : CallT) (a0 : D) (w : W) : callF G cl 37 [a0] [] [] w = cl 37 [a0] w := Eq.trans rfl rfl
theorem r39 (k : Nat) (a0 : D) (w : W) : run G (k + 1) 39 [a0] w = fin false w.length (execs G (run G k) b39 [some a0, none, none] w) := run_fin G k 39 _ w f39 rfl rfl (by decide)
@[simp ↓] theorem q39_1 (cl : CallT) (a0 : D) (w : W) : callF G cl 39 [a0] [] [] w = cl 39 [a0] w := Eq.trans rfl rfl
theorem r40 (k : Nat) (a0 : D) (w : W) : run G (k + 1) 40 [a0] w = fin false w.length (execs G (run G k) b40 [some a0] w) := run_fin G k 40 _ w f40 rfl rfl (by decide)
@[simp ↓] theorem q40_1 (cl : CallT) (a0 : D) (w : W) : callF G cl 40 [a0] [] [] w = cl 40 [a0] w := Eq.trans rfl rfl
theorem r43 (k : Nat) (a0 : D) (w : W) : run G (k + 1) 43 [a0] w = fin false w.length (execs G (run G k) b43 [some a0, none] w) := run_fin G k 43 _ w f43 rfl rfl (by decide)
theorem r44 (k : Nat) (a0 : D) (w : W) : run G (k + 1) 44 [a0] w = fin false w.length (execs G (run G k) b44 [some a0, none] w) := run_fin G k 44 _ w f44 rfl rfl (by decide)
theorem r49 (k : Nat) (a0 a1 : D) (w : W) : run G (k + 1) 49 [a0, a1] w = fin false w.length (execs G (run G k) b49 [some a0, some a1] w) := run_fin G k 49 _ w f49 rfl rfl (by decide)
@[simp ↓] theorem q49_2 (cl : CallT) (a0 a1 : D) (w : W) : callF G cl 49 [a0, a1] [] [] w = cl 49 [a0, a1] w := Eq.trans rfl rfl
theorem r50 (k : Nat) (a0 a1 : D) (w : W) : run G (k + 1) 50 [a0, a1] w = fin false w.length (execs G (run G k) b50 [some a0, some a1, none] w) := run_fin G k 50 _ w f50 rfl rfl (by decide)
@[simp ↓] theorem q50_2 (cl : CallT) (a0 a1 : D) (w : W) : callF G cl 50 [a0, a1] [] [] w = cl 50 [a0, a1] w := Eq.trans rfl rfl
theorem r51 (k : Nat) (a0 : D) (w : W) : run G (k + 1) 51 [a0] w = fin false w.length (execs G (run G k) b51 [some a0] w) := run_fin G k 51 _ w f51 rfl rfl (by decide)
@[simp ↓] theorem q51_1 (cl : CallT) (a0 : D) (w : W) : callF G cl 51 [a0] [] [] w = cl 51 [a0] w := Eq.trans rfl rfl
theorem r53 (k : Nat) (a0 a1 a2 a3 a4 : D) (w : W) : run G (k + 1) 53 [a0, a1, a2, a3, a4] w = fin false w.length (execs G (run G k) b53 [some a0, some a1, some a2, some a3, some a4] w) := run_fin G k 53 _ w f53 rfl rfl (by decide)
@[simp ↓] theorem q53_5 (cl : CallT) (a0 a1 a2 a3 a4 : D) (w : W) : callF G cl 53 [a0, a1, a2, a3, a4] [] [] w = cl 53 [a0, a1, a2, a3, a4] w := Eq.trans rfl rfl
theorem r55 (k : Nat) (a0 a1 : D) (w : W) : run G (k + 1) 55 [a0, a1] w = fin false w.length (execs G (run G k) b55 [some a0, some a1] w) := run_fin G k 55 _ w f55 rfl rfl (by decide)
@[simp ↓] theorem q55_2 (cl : CallT) (a0 a1 : D) (w : W) : callF G cl 55 [a0, a1] [] [] w = cl 55 [a0, a1] w := Eq.trans rfl rfl
theorem r59 (k : Nat) (a0 a1 : D) (w : W) : run G (k + 1) 59 [a0, a1] w = fin false w.length (execs G (run G k) b59 [some a0, some a1, none] w) := run_fin G k 59 _ w f59 rfl rfl (by decide)
@[simp ↓] theorem q59_2 (cl : CallT) (a0 a1 : D) (w : W) : callF G cl 59 [a0, a1] [] [] w = cl 59 [a0, a1] w := Eq.trans rfl rfl
theorem r61 (k : Nat) (a0 a1 : D) (w : W) : run G (k + 1) 61 [a0, a1] w = fin false w.length (execs G (run G k) b61 [some a0, some a1] w) := run_fin G k 61 _ w f61 rfl rfl (by decide)
@[simp ↓] theorem q61_2 (cl : CallT) (a0 a1 : D) (w : W) : callF G cl 61 [a0, a1] [] [] w = cl 61 [a0, a1] w := Eq.trans rfl rfl
theorem r62 (k : Nat) (a0 : D) (w : W) : run G (k + 1) 62 [a0] w = fin false w.length (execs G (run G k) b62 [some a0] w) := run_fin G k 62 _ w f62 rfl rfl (by decide)
theorem r63 (k : Nat) (a0 : D) (w : W) : run G (k + 1) 63 [a0] w = fin false w.length (execs G (run G k) b63 [some a0] w) := run_fin G k 63 _ w f63 rfl rfl (by decide)
theorem r64 (k : Nat) (a0 : D) (w : W) : run G (k + 1) 64 [a0] w = fin false w.length (execs G (run G k) b64 [some a0] w) := run_fin G k 64 _ w f64 rfl rfl (by decide)
theorem r65 (k : Nat) (a0 : D) (w : W) : run G (k + 1) 65 [a0] w = fin false w.length (execs G (run G k) b65 [some a0] w) := run_fin G k 65 _ w f65 rfl rfl (by decide)
theorem r68 (k : Nat) (a0 a1 a2 a3 : D) (w : W) : run G (k + 1) 68 [a0, a1, a2, a3] w = fin false w.length (execs G (run G k) b68 [some a0, some a1, some a2, some a3] w) := run_fin G k 68 _ w f68 rfl rfl (by decide)
@[simp ↓] theorem q68_4 (cl : CallT) (a0 a1 a2 a3 : D) (w : W) : callF G cl 68 [a0, a1, a2, a3] [] [] w = cl 68 [a0, a1, a2, a3] w := Eq.trans rfl rfl
theorem r70 (k : Nat) (a0 : D) (w : W) : run G (k + 1) 70 [a0] w = fin false w.length (execs G (run G k) b70 [some a0] w) := run_fin G k 70 _ w f70 rfl rfl (by decide)
@[simp ↓] theorem q70_1 (cl : CallT) (a0 : D) (w : W) : callF G cl 70 [a0] [] [] w = cl 70 [a0] w := Eq.trans rfl rfl
theorem r71 (k : Nat) (a0 : D) (w : W) : run G (k + 1) 71 [a0] w = fin false w.length (execs G (run G k) b71 [some a0] w) := run_fin G k 71 _ w f71 rfl rfl (by decide)
@[simp ↓] theorem q71_1 (cl : CallT) (a0 : D) (w : W) : callF G cl 71 [a0] [] [] w = cl 71 [a0] w := Eq.trans rfl rfl
theorem r72 (k : Nat) (a0 a1 a2 a3 : D) (w : W) : run G (k + 1) 72 [a0, a1, a2, a3] w = fin false w.length (execs G (run G k) b72 [some a0, some a1, some a2, some a3, none, none, none, none, none, none] w) := run_fin G k 72 _ w f72 rfl rfl (by decide)
@[simp ↓] theorem q72_4 (cl : CallT) (a0 a1 a2 a3 : D) (w : W) : callF G cl 72 [a0, a1, a2, a3] [] [] w = cl 72 [a0, a1, a2, a3] w := Eq.trans rfl rfl
theorem r73 (k : Nat) (a0 : D) (w : W) : run G (k + 1) 73 [a0] w = fin false w.length (execs G (run G k) b73 [some a0] w) := run_fin G k 73 _ w f73 rfl rfl (by decide)
@[simp ↓] theorem q73_1 (cl : CallT) (a0 : D) (w : W) : callF G cl 73 [a0] [] [] w = cl 73 [a0] w := Eq.trans rfl rfl
theorem r74 (k : Nat) (a0 a1 a2 a3 : D) (w : W) : run G (k + 1) 74 [a0, a1, a2, a3] w = fin false w.length (execs G (run G k) b74 [some a0, some a1, some a2, some a3, none, none, none, none, none, none] w) := run_fin G k 74 _ w f74 rfl rfl (by decide)
@[simp ↓] theorem q74_4 (cl : CallT) (a0 a1 a2 a3 : D) (w : W) : callF G cl 74 [a0, a1, a2, a3] [] [] w = cl 74 [a0, a1, a2, a3] w := Eq.trans rfl rfl
theorem r75 (k : Nat) (a0 a1 a2 : D) (w : W) : run G (k + 1) 75 [a0, a1, a2] w = fin false w.length (execs G (run G k) b75 [some a0, some a1, some a2, none, none, none, none, none, none, none, none] w) := run_fin G k 75 _ w f75 rfl rfl (by decide)
@[simp ↓] theorem q75_3 (cl : CallT) (a0 a1 a2 : D) (w : W) : callF G cl 75 [a0, a1, a2] [] [] w = cl 75 [a0, a1, a2] w := Eq.trans rfl rfl
theorem r76 (k : Nat) (a0 a1 : D) (w : W) : run G (k + 1) 76 [a0, a1] w = fin false w.length (execs G (run G k) b76 [some a0, some a1, none, none, none] w) := run_fin G k 76 _ w f76 rfl rfl (by decide)
@[simp ↓] theorem q76_2 (cl : CallT) (a0 a1 : D) (w : W) : callF G cl 76 [a0, a1] [] [] w = cl 76 [a0, a1] w := Eq.trans rfl rfl
theorem r77 (k : Nat) (a0 a1 : D) (w : W) : run G (k + 1) 77 [a0, a1] w = fin false w.length (execs G (run G k) b77 [some a0, some a1] w) := run_fin G k 77 _ w f77 rfl rfl (by decide)
@[simp ↓] theorem q77_2 (cl : CallT) (a0 a1 : D) (w : W) : callF G cl 77 [a0, a1] [] [] w = cl 77 [a0, a1] w := Eq.trans rfl rfl
@[simp ↓] theorem q78_1 (cl : CallT) (a0 : D) (w : W) : callF G cl 78 [a0] [] [] w = cl 78 [a0] w := Eq.trans rfl rfl
@[simp ↓] theorem q85_5 (cl : CallT) (a0 a1 a2 a3 a4 : D) (w : W) : callF G cl 85 [a0, a1, a2, a3, a4] [] [] w = cl 85 [a0, a1, a2, a3, a4] w := Eq.trans rfl rfl
@[simp ↓] theorem q86_1 (cl : CallT) (a0 : D) (w : W) : callF G cl 86 [a0] [] [] w = cl 86 [a0] w := Eq.trans rfl rfl
@[simp ↓] theorem q87_2 (cl : CallT) (a0 a1 : D) (w : W) : callF G cl 87 [a0, a1] [] [] w = cl 87 [a0, a1] w := Eq.trans rfl rfl
@[simp ↓] theorem q89_3 (cl : CallT) (a0 a1 a2 : D) (w : W) : callF G cl 89 [a0, a1, a2] [] [] w = cl 89 [a0, a1, a2] w := Eq.trans rfl rfl
@[simp ↓] theorem q90_2 (cl : CallT) (a0 a1 : D) (w : W) : callF G cl 90 [a0, a1] [] [] w = cl 90 [a0, a1] w := Eq.trans rfl rfl
@[simp ↓] theorem q91_4 (cl : CallT) (a0 a1 a2 a3 : D) (w : W) : callF G cl 91 [a0, a1, a2, a3] [] [] w = cl 91 [a0, a1, a2, a3] w := Eq.trans rfl rfl
@[simp ↓] theorem q92_3 (cl : CallT) (a0 a1 a2 : D) (w : W) : callF G cl 92 [a0, a1, a2] [] [] w = cl 92 [a0, a1, a2] w := Eq.trans rfl rfl
@[simp ↓] theorem q97_0_1_0_2 (cl : CallT) (k0 k1 k2 : D) (w : W) : callF G cl 97 [] [1, 0, 2] [k0, k1, k2] w = cl 97 [k1, k0, k2] w := Eq.trans rfl rfl
@[simp ↓] theorem q98_0_3_2_1_0_4 (cl : CallT) (k0 k1 k2 k3 k4 : D) (w : W) : callF G cl 98 [] [3, 2, 1, 0, 4] [k0, k1, k2, k3, k4] w = cl 98 [k3, k2, k1, k0, k4] w := Eq.trans rfl rfl
@[simp ↓] theorem q98_5 (cl : CallT) (a0 a1 a2 a3 a4 : D) (w : W) : callF G cl 98 [a0, a1, a2, a3, a4] [] [] w = cl 98 [a0, a1, a2, a3, a4] w := Eq.trans rfl rfl
@[simp ↓] theorem q100_1 (cl : CallT) (a0 : D) (w : W) : callF G cl 100 [a0] [] [] w = cl 100 [a0] w := Eq.trans rfl rfl
@[simp ↓] theorem q101_3 (cl : CallT) (a0 a1 a2 : D) (w : W) : callF G cl 101 [a0, a1, a2] [] [] w = cl 101 [a0, a1, a2] w := Eq.trans rfl rfl
@[simp ↓] theorem q102_4 (cl : CallT) (a0 a1 a2 a3 : D) (w : W) : callF G cl 102 [a0, a1, a2, a3] [] [] w = cl 102 [a0, a1, a2, a3] w := Eq.trans rfl rfl
@[simp ↓] theorem q103_5 (cl : CallT) (a0 a1 a2 a3 a4 : D) (w : W) : callF G cl 103 [a0, a1, a2, a3, a4] [] [] w = cl 103 [a0, a1, a2, a3, a4] w := Eq.trans rfl rfl
@[simp ↓] theorem q108_1 (cl : CallT) (a0 : D) (w : W) : callF G cl 108 [a0] [] [] w = cl 108 [a0] w := Eq.trans rfl rfl
@[simp ↓] theorem q110_5 (cl : CallT) (a0 a1 a2 a3 a4 : D) (w : W) : callF G cl 110 [a0, a1, a2, a3, a4] [] [] w = cl 110 [a0, a1, a2, a3, a4] w := Eq.trans rfl rfl
@[simp ↓] theorem q111_3 (cl : CallT) (a0 a1 a2 : D) (w : W) : callF G cl 111 [a0, a1, a2] [] [] w = cl 111 [a0, a1, a2] w := Eq.trans rfl rfl
@[simp ↓] theorem q113_5 (cl : CallT) (a0 a1 a2 a3 a4 : D) (w : W) : callF G cl 113 [a0, a1, a2, a3, a4] [] [] w = cl 113 [a0, a1, a2, a3, a4] w := Eq.trans rfl rfl
@[simp ↓] theorem q114_5 (cl : CallT) (a0 a1 a2 a3 a4 : D) (w : W) : callF G cl 114 [a0, a1, a2, a3, a4] [] [] w = cl 114 [a0, a1, a2, a3, a4] w := Eq.trans rfl rfl
@[simp ↓] theorem q115_4 (cl : CallT) (a0 a1 a2 a3 : D) (w : W) : callF G cl 115 [a0, a1, a2, a3] [] [] w = cl 115 [a0, a1, a2, a3] w := Eq.trans rfl rfl
@[simp ↓] theorem q116_4 (cl : CallT) (a0 a1 a2 a3 : D) (w : W) : callF G cl 116 [a0, a1, a2, a3] [] [] w = cl 116 [a0, a1, a2, a3] w := Eq.trans rfl rfl
theorem r117 (k : Nat) (a0 a1 : D) (w : W) : run G (k + 1) 117 [a0, a1] w = fin false w.length (execs G (run G k) b117 [some a0, some a1] w) := run_fin G k 117 _ w f117 rfl rfl (by decide)
@[simp ↓] theorem q117_2 (cl : CallT) (a0 a1 : D) (w : W) : callF G cl 117 [a0, a1] [] [] w = cl 117 [a0, a1] w := Eq.trans rfl rfl
@[simp ↓] theorem q122_4 (cl : CallT) (a0 a1 a2 a3 : D) (w : W) : callF G cl 122 [a0, a1, a2, a3] [] [] w = cl 122 [a0, a1, a2, a3] w := Eq.trans rfl rfl
@[simp ↓] theorem q123_2 (cl : CallT) (a0 a1 : D) (w : W) : callF G cl 123 [a0, a1] [] [] w = cl 123 [a0, a1] w := Eq.trans rfl rfl
theorem r126 (k : Nat) (a0 : D) (w : W) : run G (k + 1) 126 [a0] w = fin false w.length (execs G (run G k) b126 [some a0, none] w) := run_fin G k 126 _ w f126 rfl rfl (by decide)
@[simp ↓] theorem q126_1 (cl : CallT) (a0 : D) (w : W) : callF G cl 126 [a0] [] [] w = cl 126 [a0] w := Eq.trans rfl rfl
theorem r127 (k : Nat) (a0 : D) (w : W) : run G (k + 1) 127 [a0] w = fin false w.length (execs G (run G k) b127 [some a0, none, none, none, none, none, none, none, none, none, none, none, none, none, none, none, none, none, none, none, none, none] w) := run_fin G k 127 _ w f127 rfl rfl (by decide)
@[simp ↓] theorem q127_1 (cl : CallT) (a0 : D) (w : W) : callF G cl 127 [a0] [] [] w = cl 127 [a0] w := Eq.trans rfl rfl
theorem r128 (k : Nat) (a0 a1 a2 : D) (w : W) : run G (k + 1) 128 [a0, a1, a2] w = fin false w.length (execs G (run G k) b128 [some a0, some a1, some a2, none, none, none, none] w) := run_fin G k 128 _ w f128 rfl rfl (by decide)
@[simp ↓] theorem q128_3 (cl : CallT) (a0 a1 a2 : D) (w : W) : callF G cl 128 [a0, a1, a2] [] [] w = cl 128 [a0, a1, a2] w := Eq.trans rfl rfl
theorem r129 (k : Nat) (a0 a1 a2 a3 a4 : D) (w : W) : run G (k + 1) 129 [a0, a1, a2, a3, a4] w = fin false w.length (execs G (run G k) b129 [some a0, some a1, some a2, some a3, some a4] w) := run_fin G k 129 _ w f129 rfl rfl (by decide)
@[simp ↓] theorem q129_5 (cl : CallT) (a0 a1 a2 a3 a4 : D) (w : W) : callF G cl 129 [a0, a1, a2, a3, a4] [] [] w = cl 129 [a0, a1, a2, a3, a4] w := Eq.trans rfl rfl
theorem r130 (k : Nat) (a0 a1 a2 a3 a4 : D) (w : W) : run G (k + 1) 130 [a0, a1, a2, a3, a4] w = fin false w.length (execs G (run G k) b130 [some a0, some a1, some a2, some a3, some a4] w) := run_fin G k 130 _ w f130 rfl rfl (by decide)
@[simp ↓] theorem q130_5 (cl : CallT) (a0 a1 a2 a3 a4 : D) (w : W) : callF G cl 130 [a0, a1, a2, a3, a4] [] [] w = cl 130 [a0, a1, a2, a3, a4] w := Eq.trans rfl rfl
theorem r131 (k : Nat) (a0 a1 a2 a3 a4 : D) (w : W) : run G (k + 1) 131 [a0, a1, a2, a3, a4] w = fin false w.length (execs G (run G k) b131 [some a0, some a1, some a2, some a3, some a4, none, none, none] w) := run_fin G k 131 _ w f131 rfl rfl (by decide)
@[simp ↓] theorem q131_5 (cl : CallT) (a0 a1 a2 a3 a4 : D) (w : W) : callF G cl 131 [a0, a1, a2, a3, a4] [] [] w = cl 131 [a0, a1, a2, a3, a4] w := Eq.trans rfl rfl
theorem r132 (k : Nat) (a0 : D) (w : W) : run G (k + 1) 132 [a0] w = fin false w.length (execs G (run G k) b132 [some a0] w) := run_fin G k 132 _ w f132 rfl rfl (by decide)
@[simp ↓] theorem q132_1 (cl : CallT) (a0 : D) (w : W) : callF G cl 132 [a0] [] [] w = cl 132 [a0] w := Eq.trans rfl rfl
theorem r133 (k : Nat) (a0 a1 : D) (w : W) : run G (k + 1) 133 [a0, a1] w = fin false w.length (execs G (run G k) b133 [some a0, some a1] w) := run_fin G k 133 _ w f133 rfl rfl (by decide)
@[simp ↓] theorem q133_2 (cl : CallT) (a0 a1 : D) (w : W) : callF G cl 133 [a0, a1] [] [] w = cl 133 [a0, a1] w := Eq.trans rfl rfl
theorem r134 (k : Nat) (a0 a1 : D) (w : W) : run G (k + 1) 134 [a0, a1] w = fin false w.length (execs G (run G k) b134 [some a0, some a1] w) := run_fin G k 134 _ w f134 rfl rfl (by decide)
@[simp ↓] theorem q134_2 (cl : CallT) (a0 a1 : D) (w : W) : callF G cl 134 [a0, a1] [] [] w = cl 134 [a0, a1] w := Eq.trans rfl rfl
theorem r135 (k : Nat) (a0 a1 a2 a3 : D) (w : W) : run G (k + 1) 135 [a0, a1, a2, a3] w = fin false w.length (execs G (run G k) b135 [some a0, some a1, some a2, some a3, none, none, none] w) := run_fin G k 135 _ w f135 rfl rfl (by decide)
@[simp ↓] theorem q135_4 (cl : CallT) (a0 a1 a2 a3 : D) (w : W) : callF G cl 135 [a0, a1, a2, a3] [] [] w = cl 135 [a0, a1, a2, a3] w := Eq.trans rfl rfl
theorem r136 (k : Nat) (a0 a1 a2 a3 : D) (w : W) : run G (k + 1) 136 [a0, a1, a2, a3] w = fin false w.length (execs G (run G k) b136 [some a0, some a1, some a2, some a3] w) := run_fin G k 136 _ w f136 rfl rfl (by decide)
@[simp ↓] theorem q136_4 (cl : CallT) (a0 a1 a2 a3 : D) (w : W) : callF G cl 136 [a0, a1, a2, a3] [] [] w = cl 136 [a0, a1, a2, a3] w := Eq.trans rfl rfl
theorem r137 (k : Nat) (a0 a1 a2 a3 : D) (w : W) : run G (k + 1) 137 [a0, a1, a2, a3] w = fin false w.length (execs G (run G k) b137 [some a0, some a1, some a2, some a3, none, none, none, none, none, none, none] w) := run_fin G k 137 _ w f137 rfl rfl (by decide)
@[simp ↓] theorem q137_4 (cl : CallT) (a0 a1 a2 a3 : D) (w : W) : callF G cl 137 [a0, a1, a2, a3] [] [] w = cl 137 [a0, a1, a2, a3] w := Eq.trans rfl rfl
theorem r138 (k : Nat) (a0 a1 : D) (w : W) : run G (k + 1) 138 [a0, a1] w = fin false w.length (execs G (run G k) b138 [some a0, some a1] w) := run_fin G k 138 _ w f138 rfl rfl (by decide)
@[simp ↓] theorem q138_2 (cl : CallT) (a0 a1 : D) (w : W) : callF G cl 138 [a0, a1] [] [] w = cl 138 [a0, a1] w := Eq.trans rfl rfl
theorem r139 (k : Nat) (a0 a1 : D) (w : W) : run G (k + 1) 139 [a0, a1] w = fin false w.length (execs G (run G k) b139 [some a0, some a1] w) := run_fin G k 139 _ w f139 rfl rfl (by decide)
@[simp ↓] theorem q139_2 (cl : CallT) (a0 a1 : D) (w : W) : callF G cl 139 [a0, a1] [] [] w = cl 139 [a0, a1] w := Eq.trans rfl rfl
@[simp ↓] theorem q150_2 (cl : CallT) (a0 a1 : D) (w : W) : callF G cl 150 [a0, a1] [] [] w = cl 150 [a0, a1] w := Eq.trans rfl rfl
@[simp ↓] theorem q151_0_4_3_2_1_0 (cl : CallT) (k0 k1 k2 k3 k4 : D) (w : W) : callF G cl 151 [] [4, 3, 2, 1, 0] [k0, k1, k2, k3, k4] w = cl 151 [k4, k3, k2, k1, k0] w := Eq.trans rfl rfl
@[simp ↓] theorem q151_5 (cl : CallT) (a0 a1 a2 a3 a4 : D) (w : W) : callF G cl 151 [a0, a1, a2, a3, a4] [] [] w = cl 151 [a0, a1, a2, a3, a4] w := Eq.trans rfl rfl
@[simp ↓] theorem q152_2 (cl : CallT) (a0 a1 : D) (w : W) : callF G cl 152 [a0, a1] [] [] w = cl 152 [a0, a1] w := Eq.trans rfl rfl
@[simp ↓] theorem g20 : globF G 20 = some (.int 1000000000000000) := Eq.trans rfl rfl
@[simp ↓] theorem g23 : globF G 23 = some (.int 1000000000000) := Eq.trans rfl rfl
@[simp ↓] theorem g25 : globF G 25 = some (.int 64) := Eq.trans rfl rfl
@[simp ↓] theorem g29 : globF G 29 = some (.int 1000000000000000000000000000000) := Eq.trans rfl rfl
@[simp ↓] theorem g33 : globF G 33 = some (.int 8) := Eq.trans rfl rfl
@[simp ↓] theorem g34 : globF G 34 = some (.str [97, 98, 99, 100, 101, 102, 103, 104, 105, 106, 107, 108, 109, 110, 111, 112, 113, 114, 115, 116, 117, 118, 119, 120, 121, 122]) := Eq.trans rfl rfl
@[simp ↓] theorem g35 : globF G 35 = some (.int 60) := Eq.trans rfl rfl
@[simp ↓] theorem g36 : globF G 36 = some (.str [48, 49, 50, 51, 52, 53, 54, 55, 56, 57]) := Eq.trans rfl rfl
@[simp ↓] theorem g38 : globF G 38 = some (.int 6) := Eq.trans rfl rfl
@[simp ↓] theorem g56 : globF G 56 = some (.int 62) := Eq.trans rfl rfl
@[simp ↓] theorem g57 : globF G 57 = some (.int 1000000000) := Eq.trans rfl rfl
@[simp ↓] theorem g58 : globF G 58 = some (.int 50) := Eq.trans rfl rfl
@[simp ↓] theorem g60 : globF G 60 = some (.tup [(.str [115, 117, 109]), (.str [109, 101, 97, 110])]) := Eq.trans rfl rfl
@[simp ↓] theorem g109 : globF G 109 = some (.int 1000000000000000000000000000000000000000000000) := Eq.trans rfl rfl
@[simp ↓] theorem g3 : globF G 3 = some (.glo 3) := Eq.trans rfl rfl
@[simp ↓] theorem g4 : globF G 4 = some (.glo 4) := Eq.trans rfl rfl
@[simp ↓] theorem g5 : globF G 5 = some (.glo 5) := Eq.trans rfl rfl
@[simp ↓] theorem g7 : globF G 7 = some (.glo 7) := Eq.trans rfl rfl
@[simp ↓] theorem g8 : globF G 8 = some (.glo 8) := Eq.trans rfl rfl
@[simp ↓] theorem g9 : globF G 9 = some (.glo 9) := Eq.trans rfl rfl
@[simp ↓] theorem g13 : globF G 13 = some (.glo 13) := Eq.trans rfl rfl
@[simp ↓] theorem g14 : globF G 14 = some (.glo 14) := Eq.trans rfl rfl
@[simp ↓] theorem g15 : globF G 15 = some (.glo 15) := Eq.trans rfl rfl
@[simp ↓] theorem g16 : globF G 16 = some (.glo 16) := Eq.trans rfl rfl
@[simp ↓] theorem g18 : globF G 18 = some (.glo 18) := Eq.trans rfl rfl
@[simp ↓] theorem g19 : globF G 19 = some (.glo 19) := Eq.trans rfl rfl
@[simp ↓] theorem g21 : globF G 21 = some (.glo 21) := Eq.trans rfl rfl
@[simp ↓] theorem g22 : globF G 22 = some (.glo 22) := Eq.trans rfl rfl
@[simp ↓] theorem g24 : globF G 24 = some (.glo 24) := Eq.trans rfl rfl
@[simp ↓] theorem g26 : globF G 26 = some (.glo 26) := Eq.trans rfl rfl
@[simp ↓] theorem g27 : globF G 27 = some (.glo 27) := Eq.trans rfl rfl
@[simp ↓] theorem g28 : globF G 28 = some (.glo 28) := Eq.trans rfl rfl
@[simp ↓] theorem g30 : globF G 30 = some (.glo 30) := Eq.trans rfl rfl
@[simp ↓] theorem g31 : globF G 31 = some (.glo 31) := Eq.trans rfl rfl
@[simp ↓] theorem g32 : globF G 32 = some (.glo 32) := Eq.trans rfl rfl
@[simp ↓] theorem g37 : globF G 37 = some (.glo 37) := Eq.trans rfl rfl
@[simp ↓] theorem g39 : globF G 39 = some (.glo 39) := Eq.trans rfl rfl
@[simp ↓] theorem g40 : globF G 40 = some (.glo 40) := Eq.trans rfl rfl
@[simp ↓] theorem g49 : globF G 49 = some (.glo 49) := Eq.trans rfl rfl
@[simp ↓] theorem g50 : globF G 50 = some (.glo 50) := Eq.trans rfl rfl
@[simp ↓] theorem g51 : globF G 51 = some (.glo 51) := Eq.trans rfl rfl
@[simp ↓] theorem g54 : globF G 54 = some (.glo 54) := Eq.trans rfl rfl
@[simp ↓] theorem g55 : globF G 55 = some (.glo 55) := Eq.trans rfl rfl
@[simp ↓] theorem g59 : globF G 59 = some (.glo 59) := Eq.trans rfl rfl
@[simp ↓] theorem g61 : globF G 61 = some (.glo 61) := Eq.trans rfl rfl
@[simp ↓] theorem g68 : globF G 68 = some (.glo 68) := Eq.trans rfl rfl
@[simp ↓] theorem g70 : globF G 70 = some (.glo 70) := Eq.trans rfl rfl
@[simp ↓] theorem g71 : globF G 71 = some (.glo 71) := Eq.trans rfl rfl
@[simp ↓] theorem g72 : globF G 72 = some (.glo 72) := Eq.trans rfl rfl
@[simp ↓] theorem g73 : globF G 73 = some (.glo 73) := Eq.trans rfl rfl
@[simp ↓] theorem g74 : globF G 74 = some (.glo 74) := Eq.trans rfl rfl
@[simp ↓] theorem g75 : globF G 75 = some (.glo 75) := Eq.trans rfl rfl
@[simp ↓] theorem g76 : globF G 76 = some (.glo 76) := Eq.trans rfl rfl
@[simp ↓] theorem g77 : globF G 77 = some (.glo 77) := Eq.trans rfl rfl
@[simp ↓] theorem g78 : globF G 78 = some (.glo 78) := Eq.trans rfl rfl
@[simp ↓] theorem g126 : globF G 126 = some (.glo 126) := Eq.trans rfl rfl
@[simp ↓] theorem g127 : globF G 127 = some (.glo 127) := Eq.trans rfl rfl
@[simp ↓] theorem g128 : globF G 128 = some (.glo 128) := Eq.trans rfl rfl
@[simp ↓] theorem g129 : globF G 129 = some (.glo 129) := Eq.trans rfl rfl
@[simp ↓] theorem g130 : globF G 130 = some (.glo 130) := Eq.trans rfl rfl
@[simp ↓] theorem g131 : globF G 131 = some (.glo 131) := Eq.trans rfl rfl
@[simp ↓] theorem g132 : globF G 132 = some (.glo 132) := Eq.trans rfl rfl
@[simp ↓] theorem g133 : globF G 133 = some (.glo 133) := Eq.trans rfl rfl
@[simp ↓] theorem g134 : globF G 134 = some (.glo 134) := Eq.trans rfl rfl
@[simp ↓] theorem g135 : globF G 135 = some (.glo 135) := Eq.trans rfl rfl
@[simp ↓] theorem g136 : globF G 136 = some (.glo 136) := Eq.trans rfl rfl
@[simp ↓] theorem g137 : globF G 137 = some (.glo 137) := Eq.trans rfl rfl
@[simp ↓] theorem g138 : globF G 138 = some (.glo 138) := Eq.trans rfl rfl
@[simp ↓] theorem g139 : globF G 139 = some (.glo 139) := Eq.trans rfl rfl
@[simp] theorem cls7 : G.cls 7 = some c7 := Eq.trans rfl rfl
@[simp] theorem up7 : c7.up = [7] := rfl
@[simp] theorem ub7 : c7.upB = [] := rfl
@[simp] theorem pr7 : c7.props = [(11, 43), (12, 44), (10, 41), (7, 42)] := rfl
@[simp] theorem me7 : c7.meths = [] := rfl
@[simp ↓] theorem a7_11 (cl : CallT) (fs : List (Nat × D)) (w : W) : attrF G cl (.obj 7 fs) 11 w = nxR (cl 43 [.obj 7 fs] w) := Eq.trans rfl rfl
@[simp ↓] theorem a7_12 (cl : CallT) (fs : List (Nat × D)) (w : W) : attrF G cl (.obj 7 fs) 12 w = nxR (cl 44 [.obj 7 fs] w) := Eq.trans rfl rfl
@[simp ↓] theorem a7_10 (cl : CallT) (fs : List (Nat × D)) (w : W) : attrF G cl (.obj 7 fs) 10 w = nxR (cl 41 [.obj 7 fs] w) := Eq.trans rfl rfl
@[simp ↓] theorem a7_7 (cl : CallT) (fs : List (Nat × D)) (w : W) : attrF G cl (.obj 7 fs) 7 w = nxR (cl 42 [.obj 7 fs] w) := Eq.trans rfl rfl
@[simp ↓] theorem a7_6 (cl : CallT) (fs : List (Nat × D)) (w : W) : attrF G cl (.obj 7 fs) 6 w = R.lift (fldOf fs 6) w := attr_fld cls7 (by decide) (by decide)
@[simp ↓] theorem a7_5 (cl : CallT) (fs : List (Nat × D)) (w : W) : attrF G cl (.obj 7 fs) 5 w = R.lift (fldOf fs 5) w := attr_fld cls7 (by decide) (by decide)
@[simp] theorem fz7 : c7.frz = true := rfl
@[simp ↓] theorem m7_2 (cl : CallT) (a0 : D) (w : W) : makeC G cl 7 [a0] [] [] w = bnd (cl 6 [.cel w.length, a0] (w ++ [.ins 7 []])) (fun d w1 => mkEnd 7 true w.length d w1) ⟨⟩ := Eq.trans rfl rfl
@[simp] theorem cls54 : G.cls 54 = some c54 := Eq.trans rfl rfl
@[simp] theorem up54 : c54.up = [54] := rfl
@[simp] theorem ub54 : c54.upB = [] := rfl
@[simp] theorem pr54 : c54.props = [(14, 62), (17, 65), (16, 64), (15, 63)] := rfl
@[simp] theorem me54 : c54.meths = [] := rfl
@[simp ↓] theorem a54_14 (cl : CallT) (fs : List (Nat × D)) (w : W) : attrF G cl (.obj 54 fs) 14 w = nxR (cl 62 [.obj 54 fs] w) := Eq.trans rfl rfl
@[simp ↓] theorem a54_17 (cl : CallT) (fs : List (Nat × D)) (w : W) : attrF G cl (.obj 54 fs) 17 w = nxR (cl 65 [.obj 54 fs] w) := Eq.trans rfl rfl
@[simp ↓] theorem a54_16 (cl : CallT) (fs : List (Nat × D)) (w : W) : attrF G cl (.obj 54 fs) 16 w = nxR (cl 64 [.obj 54 fs] w) := Eq.trans rfl rfl
@[simp ↓] theorem a54_15 (cl : CallT) (fs : List (Nat × D)) (w : W) : attrF G cl (.obj 54 fs) 15 w = nxR (cl 63 [.obj 54 fs] w) := Eq.trans rfl rfl
@[simp ↓] theorem a54_13 (cl : CallT) (fs : List (Nat × D)) (w : W) : attrF G cl (.obj 54 fs) 13 w = R.lift (fldOf fs 13) w := attr_fld cls54 (by decide) (by decide)
@[simp] theorem fz54 : c54.frz = true := rfl
@[simp ↓] theorem m54_5 (cl : CallT) (a0 a1 a2 a3 : D) (w : W) : makeC G cl 54 [a0, a1, a2, a3] [] [] w = bnd (cl 53 [.cel w.length, a0, a1, a2, a3] (w ++ [.ins 54 []])) (fun d w1 => mkEnd 54 true w.length d w1) ⟨⟩ := Eq.trans rfl rfl
end Sv
set_option maxHeartbeats 8000000
namespace Lk33
open PySem PySem.Spec PyProof.Rows L2 Sv
abbrev prg : Program := PySem.Challenge.pw_seenseats_k33_whole_groups_put_together
def top (i : Nat) : Stmt := prg.main.body.getD i (.Pass ⟨0, 0, 0, 0⟩)
def inn (i j : Nat) : Stmt := (match top i with | .ClassDef _ _ _ b _ _ _ _ _ _ _ => b | _ => []).getD j (.Pass ⟨0, 0, 0, 0⟩)
def d126 : DD := ⟨126, .glo "law", "law", "law", defArgs (top 97), defBody (top 97), defScope (top 97), ["_law_script", "_law_turn"], ["_law_script"], [(1, [])], []⟩
def d127 : DD := ⟨127, .glo "_law_right", "_law_right", "_law_right", defArgs (top 96), defBody (top 96), defScope (top 96), ["_law_well_here", "_law_turn", "_law_stuff", "_law_size", "_law_offers", "_law_first", "_law_k", "_law_row", "_law_part", "_law_split_here", "_law_turned", "_law_more", "_law_longer", "_law_later", "_law_times", "_law_great", "_law_mine", "_law_wide", "_law_offer_here", "_law_kind_here", "_law_j", "_law_each"], ["_law_well_here"], [(1, [])], []⟩
def d3 : DD := ⟨3, .glo "_law_well", "_law_well", "_law_well", defArgs (top 84), defBody (top 84), defScope (top 84), ["_law_script", "_law_turn", "_law_entry", "_law_stirred", "_law_each"], ["_law_script", "_law_turn"], [(2, [])], []⟩
def d5 : DD := ⟨5, .glo "_law_crew", "_law_crew", "_law_crew", defArgs (top 90), defBody (top 90), defScope (top 90), ["_law_well_here", "_law_most_groups", "_law_most_size", "_law_far", "_law_term"], ["_law_well_here", "_law_most_groups", "_law_most_size", "_law_far"], [(4, [])], []⟩
def d4 : DD := ⟨4, .glo "_law_pick", "_law_pick", "_law_pick", defArgs (top 86), defBody (top 86), defScope (top 86), ["_law_well_here", "_law_menu"], ["_law_well_here", "_law_menu"], [(2, [])], []⟩
def d49 : DD := ⟨49, .glo "_law_offer", "_law_offer", "_law_offer", defArgs (top 93), defBody (top 93), defScope (top 93), ["_law_well_here", "_law_kind_here"], ["_law_well_here", "_law_kind_here"], [(2, [])], []⟩
def d50 : DD := ⟨50, .glo "_law_kind", "_law_kind", "_law_kind", defArgs (top 92), defBody (top 92), defScope (top 92), ["_law_well_here", "_law_size", "_law_word"], ["_law_well_here", "_law_size"], [(2, [])], []⟩
def d128 : DD := ⟨128, .glo "_law_all", "_law_all", "_law_all", defArgs (top 95), defBody (top 95), defScope (top 95), ["_law_rows_here", "_law_offers", "_law_size", "_law_mine", "_law_found", "_law_offer_here", "_law_part"], ["_law_rows_here", "_law_offers", "_law_size"], [(3, [])], []⟩
def d13 : DD := ⟨13, .glo "_law_dip", "_law_dip", "_law_dip", defArgs (top 85), defBody (top 85), defScope (top 85), ["_law_well_here", "_law_size", "_law_digit"], ["_law_well_here", "_law_size"], [(2, [])], []⟩
def d9 : DD := ⟨9, .glo "_law_up", "_law_up", "_law_up", defArgs (top 87), defBody (top 87), defScope (top 87), ["_law_well_here", "_law_most", "_law_scale"], ["_law_well_here", "_law_most"], [(2, [])], []⟩
def d15 : DD := ⟨15, .glo "_law_spans", "_law_spans", "_law_spans", defArgs (top 89), defBody (top 89), defScope (top 89), ["_law_well_here", "_law_far", "_law_found", "_law_begin", "_law_turn", "_law_low", "_law_high"], ["_law_well_here", "_law_far"], [(2, [])], []⟩
def d6 : DD := ⟨6, .meth "Roster" "__init__", "__init__", "Roster.__init__", defArgs (inn 55 0), defBody (inn 55 0), defScope (inn 55 0), ["self", "text", "rows"], ["self", "text"], [(2, [])], []⟩
def d8 : DD := ⟨8, .glo "_law_sheet", "_law_sheet", "_law_sheet", defArgs (top 91), defBody (top 91), defScope (top 91), ["_law_rows", "_law_lines", "_law_row", "_law_span"], ["_law_rows"], [(1, [])], []⟩
def d68 : DD := ⟨68, .glo "count_in", "count_in", "count_in", defArgs (top 65), defBody (top 65), defScope (top 65), ["roster", "count", "days", "period"], ["roster", "count", "days", "period"], [(4, [])], []⟩
def d41 : DD := ⟨41, .prop "Roster" "text", "text", "Roster.text", defArgs (inn 55 1), defBody (inn 55 1), defScope (inn 55 1), ["self"], ["self"], [(1, [])], []⟩
def d42 : DD := ⟨42, .prop "Roster" "titles", "titles", "Roster.titles", defArgs (inn 55 2), defBody (inn 55 2), defScope (inn 55 2), ["self", "row"], ["self"], [(1, [])], []⟩
def d43 : DD := ⟨43, .prop "Roster" "sizes", "sizes", "Roster.sizes", defArgs (inn 55 3), defBody (inn 55 3), defScope (inn 55 3), ["self", "row"], ["self"], [(1, [])], []⟩
def d44 : DD := ⟨44, .prop "Roster" "stays", "stays", "Roster.stays", defArgs (inn 55 4), defBody (inn 55 4), defScope (inn 55 4), ["self", "row"], ["self"], [(1, [])], []⟩
def d14 : DD := ⟨14, .glo "_law_terms", "_law_terms", "_law_terms", defArgs (top 88), defBody (top 88), defScope (top 88), ["_law_well_here", "_law_size", "_law_begin", "_law_far", "_law_menu", "_law_k"], ["_law_well_here", "_law_size"], [(2, [])], []⟩
def d129 : DD := ⟨129, .glo "bill", "bill", "bill", defArgs (top 82), defBody (top 82), defScope (top 82), ["rule", "roster", "days", "first", "last"], ["rule", "roster", "days", "first", "last"], [(5, [])], []⟩
def d51 : DD := ⟨51, .glo "_law_made", "_law_made", "_law_made", defArgs (top 94), defBody (top 94), defScope (top 94), ["_law_offer_here"], ["_law_offer_here"], [(1, [])], []⟩
def d16 : DD := ⟨16, .glo "rows_in", "rows_in", "rows_in", defArgs (top 52), defBody (top 52), defScope (top 52), ["text", "rows", "line", "row"], ["text"], [(1, [])], []⟩
def d18 : DD := ⟨18, .glo "check_roster", "check_roster", "check_roster", defArgs (top 56), defBody (top 56), defScope (top 56), ["value"], ["value"], [(1, [])], []⟩
def d70 : DD := ⟨70, .glo "check_any", "check_any", "check_any", defArgs (top 66), defBody (top 66), defScope (top 66), ["value"], ["value"], [(1, [])], []⟩
def d71 : DD := ⟨71, .glo "check_days", "check_days", "check_days", defArgs (top 34), defBody (top 34), defScope (top 34), ["value"], ["value"], [(1, [])], []⟩
def d55 : DD := ⟨55, .glo "check_count", "check_count", "check_count", defArgs (top 42), defBody (top 42), defScope (top 42), ["value", "days"], ["value", "days"], [(2, [])], []⟩
def d19 : DD := ⟨19, .glo "check_number", "check_number", "check_number", defArgs (top 30), defBody (top 30), defScope (top 30), ["value", "least", "most"], ["value", "least", "most"], [(3, [])], []⟩
def d72 : DD := ⟨72, .glo "count_of", "count_of", "count_of", defArgs (top 64), defBody (top 64), defScope (top 64), ["crowds", "kind", "days", "period", "first", "last", "stretches", "whole", "many", "persons"], ["crowds", "kind", "days", "period"], [(4, [])], []⟩
def d22 : DD := ⟨22, .glo "crowds_of", "crowds_of", "crowds_of", defArgs (top 57), defBody (top 57), defScope (top 57), ["roster"], ["roster"], [(1, [])], []⟩
def d130 : DD := ⟨130, .glo "check_bill", "check_bill", "check_bill", defArgs (top 81), defBody (top 81), defScope (top 81), ["rule", "roster", "days", "first", "last"], ["rule", "roster", "days", "first", "last"], [(5, [])], []⟩
def d131 : DD := ⟨131, .glo "bill_of", "bill_of", "bill_of", defArgs (top 80), defBody (top 80), defScope (top 80), ["rule", "crowds", "days", "first", "last", "runs", "period", "many"], ["rule", "crowds", "days", "first", "last"], [(5, [])], []⟩
def d53 : DD := ⟨53, .meth "Rule" "__init__", "__init__", "Rule.__init__", defArgs (inn 70 0), defBody (inn 70 0), defScope (inn 70 0), ["self", "count", "price", "pack", "least"], ["self", "count", "price", "pack", "least"], [(5, [])], [.int 1, .int 0]⟩
def d62 : DD := ⟨62, .prop "Rule" "counted", "counted", "Rule.counted", defArgs (inn 70 2), defBody (inn 70 2), defScope (inn 70 2), ["self"], ["self"], [(1, [])], []⟩
def d63 : DD := ⟨63, .prop "Rule" "price", "price", "Rule.price", defArgs (inn 70 3), defBody (inn 70 3), defScope (inn 70 3), ["self"], ["self"], [(1, [])], []⟩
def d64 : DD := ⟨64, .prop "Rule" "pack", "pack", "Rule.pack", defArgs (inn 70 4), defBody (inn 70 4), defScope (inn 70 4), ["self"], ["self"], [(1, [])], []⟩
def d65 : DD := ⟨65, .prop "Rule" "least", "least", "Rule.least", defArgs (inn 70 5), defBody (inn 70 5), defScope (inn 70 5), ["self"], ["self"], [(1, [])], []⟩
def d24 : DD := ⟨24, .glo "row_in", "row_in", "row_in", defArgs (top 51), defBody (top 51), defScope (top 51), ["line", "words", "size", "stays"], ["line"], [(1, [])], []⟩
def d73 : DD := ⟨73, .glo "is_length", "is_length", "is_length", defArgs (top 33), defBody (top 33), defScope (top 33), ["value"], ["value"], [(1, [])], []⟩
def d59 : DD := ⟨59, .glo "fits", "fits", "fits", defArgs (top 41), defBody (top 41), defScope (top 41), ["value", "days", "bounds"], ["value", "days"], [(2, [])], []⟩
def d26 : DD := ⟨26, .glo "is_between", "is_between", "is_between", defArgs (top 29), defBody (top 29), defScope (top 29), ["value", "least", "most"], ["value", "least", "most"], [(3, [])], []⟩
def d74 : DD := ⟨74, .glo "most_in_windows", "most_in_windows", "most_in_windows", defArgs (top 61), defBody (top 61), defScope (top 61), ["crowds", "back", "first", "last", "ends", "size", "stays", "low", "high", "end"], ["crowds", "back", "first", "last"], [(4, [])], []⟩
def d21 : DD := ⟨21, .glo "seen_in", "seen_in", "seen_in", defArgs (top 59), defBody (top 59), defScope (top 59), ["crowds", "first", "last", "size", "stays", "low", "high"], ["crowds", "first", "last"], [(3, [])], []⟩
def d75 : DD := ⟨75, .glo "stretches_in", "stretches_in", "stretches_in", defArgs (top 60), defBody (top 60), defScope (top 60), ["crowds", "first", "last", "begins", "size", "stays", "low", "high", "days", "day", "after"], ["crowds", "first", "last"], [(3, [])], []⟩
def d76 : DD := ⟨76, .glo "ranked", "ranked", "ranked", defArgs (top 62), defBody (top 62), defScope (top 62), ["stretches", "rank", "left", "many", "persons"], ["stretches", "rank"], [(2, [])], []⟩
def d77 : DD := ⟨77, .glo "up", "up", "up", defArgs (top 37), defBody (top 37), defScope (top 37), ["number", "part"], ["number", "part"], [(2, [])], []⟩
def d132 : DD := ⟨132, .glo "check_rule", "check_rule", "check_rule", defArgs (top 74), defBody (top 74), defScope (top 74), ["value"], ["value"], [(1, [])], []⟩
def d133 : DD := ⟨133, .glo "check_fit", "check_fit", "check_fit", defArgs (top 75), defBody (top 75), defScope (top 75), ["rule", "days"], ["rule", "days"], [(2, [])], []⟩
def d134 : DD := ⟨134, .glo "check_periods", "check_periods", "check_periods", defArgs (top 36), defBody (top 36), defScope (top 36), ["first", "last"], ["first", "last"], [(2, [])], []⟩
def d135 : DD := ⟨135, .glo "runs_of", "runs_of", "runs_of", defArgs (top 78), defBody (top 78), defScope (top 78), ["crowds", "days", "first", "last", "found", "at", "mark"], ["crowds", "days", "first", "last"], [(4, [])], []⟩
def d136 : DD := ⟨136, .glo "charge_in", "charge_in", "charge_in", defArgs (top 79), defBody (top 79), defScope (top 79), ["rule", "crowds", "days", "period"], ["rule", "crowds", "days", "period"], [(4, [])], []⟩
def d27 : DD := ⟨27, .glo "is_name", "is_name", "is_name", defArgs (top 31), defBody (top 31), defScope (top 31), ["value", "sign"], ["value"], [(1, [])], []⟩
def d28 : DD := ⟨28, .glo "number_in", "number_in", "number_in", defArgs (top 32), defBody (top 32), defScope (top 32), ["word", "most", "sign"], ["word", "most"], [(2, [])], []⟩
def d30 : DD := ⟨30, .glo "stays_in", "stays_in", "stays_in", defArgs (top 50), defBody (top 50), defScope (top 50), ["words", "pairs", "word"], ["words"], [(1, [])], []⟩
def d31 : DD := ⟨31, .glo "are_stays", "are_stays", "are_stays", defArgs (top 48), defBody (top 48), defScope (top 48), ["value"], ["value"], [(1, [])], []⟩
def d61 : DD := ⟨61, .glo "bounds_of", "bounds_of", "bounds_of", defArgs (top 40), defBody (top 40), defScope (top 40), ["word", "days"], ["word", "days"], [(2, [])], []⟩
def d32 : DD := ⟨32, .glo "is_integer", "is_integer", "is_integer", defArgs (top 28), defBody (top 28), defScope (top 28), ["value"], ["value"], [(1, [])], []⟩
def d78 : DD := ⟨78, .glo "persons_of", "persons_of", "persons_of", defArgs (top 63), defBody (top 63), defScope (top 63), ["stretch"], ["stretch"], [(1, [])], []⟩
def d137 : DD := ⟨137, .glo "marks_of", "marks_of", "marks_of", defArgs (top 77), defBody (top 77), defScope (top 77), ["crowds", "days", "first", "last", "found", "size", "stays", "low", "high", "day", "period"], ["crowds", "days", "first", "last"], [(4, [])], []⟩
def d138 : DD := ⟨138, .glo "charge_of", "charge_of", "charge_of", defArgs (top 72), defBody (top 72), defScope (top 72), ["rule", "number"], ["rule", "number"], [(2, [])], []⟩
def d37 : DD := ⟨37, .glo "stay_in", "stay_in", "stay_in", defArgs (top 49), defBody (top 49), defScope (top 49), ["word", "numbers", "part"], ["word"], [(1, [])], []⟩
def d39 : DD := ⟨39, .glo "check_stays", "check_stays", "check_stays", defArgs (top 47), defBody (top 47), defScope (top 47), ["value", "index", "stay"], ["value"], [(1, [])], []⟩
def d139 : DD := ⟨139, .glo "seats_of", "seats_of", "seats_of", defArgs (top 71), defBody (top 71), defScope (top 71), ["rule", "number"], ["rule", "number"], [(2, [])], []⟩
def d40 : DD := ⟨40, .glo "is_stay", "is_stay", "is_stay", defArgs (top 46), defBody (top 46), defScope (top 46), ["value"], ["value"], [(1, [])], []⟩
def law : Lw where
  G := Sv.G
  names := ((["__eq__", "__str__", "__repr__", "given", "index", "wording", "lines", "titles", "put", "without", "text", "sizes", "stays", "parts", "counted", "price", "pack", "least", "seats", "charge", "numbers", "read", "limit", "shown", "tries", "gain", "best", "is_endless", "peak", "first"] : List (Str)) ++ (["second", "length", "crowd", "top", "sums", "persons", "ceiling", "ranks", "fixed", "most_sum", "least_sum", "narrow", "free", "lows", "highs", "is_possible", "bind", "level", "groups", "noted", "changes", "members", "notes", "note", "so_far", "ends", "undo", "days", "people", "names"] : List (Str)) ++ (["claims", "drop", "thing", "things", "claimed", "past", "claim", "lift", "desk", "board", "run", "least_above", "circle", "marks", "lowest", "highest", "trial", "tried", "before", "ledger", "mark", "__enter__", "__exit__", "check_all", "turn_to", "__contains__", "owner", "stand", "told", "change"] : List (Str)) ++ (["put_group"] : List (Str)))
  gt := (([("BARE", 60), ("FIGURES", 36), ("LETTERS", 34), ("MOST_DAY", 23), ("MOST_DAYS", 56), ("MOST_FIGURES", 35), ("MOST_GROUPS", 25), ("MOST_LETTERS", 33), ("MOST_PACK", 58), ("MOST_PEOPLE", 29), ("MOST_PRICE", 57), ("MOST_STAYS", 38), ("Roster", 7), ("Rule", 54), ("_law_all", 128), ("_law_crew", 5), ("_law_dip", 13), ("_law_kind", 50), ("_law_made", 51), ("_law_offer", 49), ("_law_pick", 4), ("_law_right", 127), ("_law_sheet", 8), ("_law_spans", 15), ("_law_terms", 14), ("_law_up", 9), ("_law_well", 3), ("are_stays", 31), ("bill", 129), ("bill_of", 131)] : List (Str × Nat)) ++ ([("bounds_of", 61), ("charge_in", 136), ("charge_of", 138), ("check_any", 70), ("check_bill", 130), ("check_count", 55), ("check_days", 71), ("check_fit", 133), ("check_number", 19), ("check_periods", 134), ("check_roster", 18), ("check_rule", 132), ("check_stays", 39), ("count_in", 68), ("count_of", 72), ("crowds_of", 22), ("fits", 59), ("is_between", 26), ("is_integer", 32), ("is_length", 73), ("is_name", 27), ("is_stay", 40), ("law", 126), ("marks_of", 137), ("most_in_windows", 74), ("number_in", 28), ("persons_of", 78), ("ranked", 76), ("row_in", 24), ("rows_in", 16)] : List (Str × Nat)) ++ ([("runs_of", 135), ("seats_of", 139), ("seen_in", 21), ("stay_in", 37), ("stays_in", 30), ("stretches_in", 75), ("up", 77)] : List (Str × Nat)))
  bl := ["abs", "all", "any", "bool", "enumerate", "int", "isinstance", "len", "list", "max", "min", "range", "sorted", "str", "sum", "tuple", "zip"]
  sh := (([(3, 2, []), (4, 2, []), (5, 4, []), (8, 1, []), (9, 2, []), (13, 2, []), (14, 2, []), (15, 2, []), (16, 1, []), (18, 1, []), (19, 3, []), (21, 3, []), (22, 1, []), (24, 1, []), (26, 3, []), (27, 1, []), (28, 2, []), (30, 1, []), (31, 1, []), (32, 1, []), (37, 1, []), (39, 1, []), (40, 1, []), (49, 2, []), (50, 2, []), (51, 1, []), (55, 2, []), (59, 2, []), (61, 2, []), (68, 4, [])] : List (Nat × Nat × List Nat)) ++ ([(70, 1, []), (71, 1, []), (72, 4, []), (73, 1, []), (74, 4, []), (75, 3, []), (76, 2, []), (77, 2, []), (78, 1, []), (126, 1, []), (127, 1, []), (128, 3, []), (129, 5, []), (130, 5, []), (131, 5, []), (132, 1, []), (133, 2, []), (134, 2, []), (135, 4, []), (136, 4, []), (137, 4, []), (138, 2, []), (139, 2, [])] : List (Nat × Nat × List Nat)))
  mh := [(6, 2, []), (53, 5, [])]
  flds := [5, 6, 11, 12, 13, 14, 15, 16, 17]
  clss := [("Roster", 7, Sv.c7), ("Rule", 54, Sv.c54)]
  defs := (([d126, d127, d3, d5, d4, d49, d50, d128, d13, d9, d15, d6, d8, d68, d41, d42, d43, d44, d14, d129, d51, d16, d18, d70, d71, d55, d19, d72, d22, d130] : List (DD)) ++ ([d131, d53, d62, d63, d64, d65, d24, d73, d59, d26, d74, d21, d75, d76, d77, d132, d133, d134, d135, d136, d27, d28, d30, d31, d61, d32, d78, d137, d138, d37] : List (DD)) ++ ([d39, d139, d40] : List (DD)))
  keys := [78]
def loose : List Str := (((["_wall", "NotRight", "InvalidText", "InvalidNumber", "InvalidDays", "InvalidCount", "NotARoster", "NotARule", "InvalidStays", "NotKnown", "UnknownName", "NotPossible", "Alone", "MOST_DAYS", "MOST_PEOPLE", "MOST_PACK", "MOST_PRICE", "MOST_GROUPS", "MOST_STAYS", "MOST_DAY", "LETTERS", "FIGURES", "MOST_LETTERS", "MOST_FIGURES", "MOST_SUM", "MOST_MONEY", "is_integer", "is_between", "check_number", "is_name"] : List (Str)) ++ (["number_in", "is_length", "check_days", "check_known", "check_periods", "up", "BARE", "bounds_of", "fits", "check_count"] : List (Str))) : List Str) ++ (((["count_text", "count_in_words", "is_stay", "check_stays", "are_stays", "stay_in", "stays_in", "row_in", "rows_in", "stays_text", "text_of", "Roster", "check_roster", "crowds_of", "seen_in", "stretches_in", "most_in_windows", "ranked", "persons_of", "count_of", "count_in", "check_any", "PARTS", "parts_in", "Rule", "seats_of", "charge_of", "numbers_of", "check_rule", "check_fit"] : List (Str)) ++ (["marks_of", "runs_of", "charge_in", "bill_of", "check_bill", "bill", "_law_well", "_law_dip", "_law_pick", "_law_up"] : List (Str))) : List Str) ++ (["_law_terms", "_law_spans", "_law_crew", "_law_sheet", "_law_kind", "_law_offer", "_law_made", "_law_all", "_law_right"] : List Str)
abbrev R : PySem.W.OpenRow := PySem.W.OpenLaw.row PySem.Challenge.rw_seenseats_k33_whole_groups_put_together
abbrev hk : PySem.W.Hook := hookU law
def ob (s : PySem.W.SharedT) : He.AlD := obsTG s.n law (HandSHeadRun.getT s)
theorem ob_eq (s : PySem.W.SharedT) : ob s = hk.obs s.abs := obsU_eq s
theorem run (w : World) : HandSHeadRun.RunEq R (PySem.W.view R.prog [97]) hk ob 20000 loose w := by
  intro os
  kernel_rfl
end Lk33
set_option maxHeartbeats 1000000
set_option Elab.async false
set_option linter.all false
set_option maxRecDepth 100000
set_option maxHeartbeats 1000000
namespace Sv
theorem eq_wp {α : Type} {x y : R α} (h : wp x (fun r => r = y) ⟨⟩) : x = y := h
@[simp] theorem is_integer_int (k : Nat) (i : Int) (w : W) : run G (k + 1) 32 [.int i] w = .ok (.bl true) w := by
  rw [r32, b32]; simp
@[simp] theorem is_between_int (k : Nat) (v a b : Int) (w : W) : run G (k + 2) 26 [.int v, .int a, .int b] w = .ok (.bl (decide (a ≤ v) && decide (v ≤ b))) w := by
  rw [r26, b26]; simp
  by_cases h : a ≤ v <;> simp [h]
theorem check_number_ok {k : Nat} {v a b : Int} {w : W} (h : a ≤ v) (h2 : v ≤ b) : run G (k + 3) 19 [.int v, .int a, .int b] w = .ok .non w := by
  rw [r19, b19]; simp [h, h2]
def isName (s : Tx) : Bool := decide (1 ≤ s.length) && decide (s.length ≤ 8) && s.all fun c => decide (97 ≤ c) && decide (c ≤ 122)
theorem letters_mem (c : Nat) : (c ∈ ([97, 98, 99, 100, 101, 102, 103, 104, 105, 106, 107, 108, 109, 110, 111, 112, 113, 114, 115, 116, 117, 118, 119, 120, 121, 122] : List Nat)) ↔ 97 ≤ c ∧ c ≤ 122 := by
  simp only [List.mem_cons, List.not_mem_nil, or_false]; omega
theorem figures_mem (c : Nat) : (c ∈ ([48, 49, 50, 51, 52, 53, 54, 55, 56, 57] : List Nat)) ↔ 48 ≤ c ∧ c ≤ 57 := by
  simp only [List.mem_cons, List.not_mem_nil, or_false]; omega
@[simp] theorem is_name_str (k : Nat) (s : Tx) (w : W) (h : s.length ≤ 16000000) : run G (k + 1) 27 [.str s] w = .ok (.bl (isName s)) w := by
  rw [r27, b27]
  apply eq_wp
  simp [h]
  refine wp_selP (fun h1 => ?_) fun h1 => ?_
  · simp
    refine wpo_selP (fun h2 => ?_) fun h2 => ?_
    rotate_left
    · have : isName s = false := by simp [isName]; omega
      simp [this]
    · simp
      refine wp_of (comp_map (fun c => .bl (decide (97 ≤ c) && decide (c ≤ 122))) (by omega) (fun c hc acc => ?_) (fun _ _ => rfl)) ?_
      · simp [-List.mem_cons, letters_mem]
      · have e : isName s = s.all fun c => decide (97 ≤ c) && decide (c ≤ 122) := by
          simp only [isName]
          rw [decide_eq_true (by omega), decide_eq_true (by omega)]; rfl
        simp [bi_all, e]
  · have : isName s = false := by simp [isName]; omega
    simp [this]
def isDig (c : Nat) : Bool := decide (48 ≤ c) && decide (c ≤ 57)
def numVal (s : Tx) : Int := (((figs 0 s).getD 0 : Nat) : Int)
theorem figs_dig : ∀ (s : Tx) (acc : Nat), s.all isDig = true → ∃ n, figs acc s = some n
  | [], acc, _ => ⟨acc, rfl⟩
  | c :: r, acc, h => by
    simp [isDig] at h
    obtain ⟨n, hn⟩ := figs_dig r (acc * 10 + (c - 48)) (by simp [isDig]; exact h.2)
    exact ⟨n, by simp only [figs]; rw [if_pos h.1]; exact hn⟩
theorem intOf_dig {s : Tx} (h : s.all isDig = true) (h1 : 1 ≤ s.length) (h2 : s.length ≤ 640) : intOf s = some (numVal s) := by
  obtain ⟨n, hn⟩ := figs_dig s 0 h
  simp only [intOf, numVal, hn]
  rw [if_neg (by omega)]; rfl
def numWord (s : Tx) : Bool := decide (1 ≤ s.length) && decide (s.length ≤ 60) && s.all isDig && !(decide (s[0]? = some 48) && !decide (s = [48]))
def numberIn (s : Tx) (most : Int) : Option Int := if numWord s = true ∧ numVal s ≤ most then some (numVal s) else none
def optI : Option Int → D | some i => .int i | none => .non
theorem number_in_eq (k : Nat) (s : Tx) (most : Int) (w : W) (h : s.length ≤ 16000000) : run G (k + 1) 28 [.str s, .int most] w = .ok (optI (numberIn s most)) w := by
  rw [r28, b28]
  apply eq_wp
  have no : numWord s = false → optI (numberIn s most) = .non := fun z => by simp [numberIn, z, optI]
  simp [h]
  refine wp_selP (fun h1 => ?_) fun h1 => ?_
  · simp
    refine wp_selP (fun h2 => ?_) fun h2 => ?_
    · simp [h2]
      refine wp_of (comp_map (fun c => .bl (isDig c)) (by omega) (fun c hc acc => ?_) (fun _ _ => rfl)) ?_
      · simp [-List.mem_cons, figures_mem, isDig]
      · simp [bi_all]
        refine wpo_sel (fun h3 => ?_) fun h3 => ?_
        · cases s with
          | nil => simp at h1
          | cons c r =>
            simp at h
            have hi := intOf_dig h3 (by simp) (by simp at h2 ⊢; omega)
            have hb : ∀ w, biF G .int [.str (c :: r)] w = .ok (.int (numVal (c :: r))) w := fun w => by simp [biF, hi]
            simp [at_pos, h, hb]
            have fin2 : numWord (c :: r) = true → optI (numberIn (c :: r) most) = if numVal (c :: r) ≤ most then .int (numVal (c :: r)) else .non := fun z => by
              simp only [numberIn, z]; by_cases hm : numVal (c :: r) ≤ most <;> simp [hm, optI]
            have hn : numWord (c :: r) = !(decide (c = 48) && !decide (r = [])) := by
              have e1 : decide (1 ≤ (c :: r).length) = true := by simp
              have e2 : decide ((c :: r).length ≤ 60) = true := decide_eq_true (by omega)
              unfold numWord
              rw [e1, e2, h3]
              by_cases hc : c = 48 <;> simp [hc]
            refine wp_selP (fun h4 => ?_) fun h4 => ?_
            · subst h4
              simp
              refine wpo_selP (fun h5 => ?_) fun h5 => ?_
              · subst h5
                have e := fin2 (by rw [hn]; rfl)
                by_cases hm : numVal [48] ≤ most <;> simp [hb, e, hm]
              · simp [h5, no (by simp [hn, h5])]
            · have e := fin2 (by simp [hn, h4])
              by_cases hm : numVal (c :: r) ≤ most <;> simp [h4, hb, e, hm]
        · have : numWord s = false := by simp [numWord, h3]
          simp [no this]
    · have : numWord s = false := by simp [numWord]; omega
      simp [no this, h2]
  · have : numWord s = false := by simp [numWord]; omega
    simp [no this]
end Sv

set_option Elab.async false
set_option linter.all false
set_option maxRecDepth 100000
set_option maxHeartbeats 1000000
namespace Sv
abbrev Wl := Int × Int × Int
def wellD (t : Wl) : Cell := .lst [.int t.1, .int t.2.1, .int t.2.2]
def pw (w : W) (i : Nat) (t : Wl) : W := w.set i (wellD t)
@[simp] theorem pw_len (w : W) (i : Nat) (t : Wl) : (pw w i t).length = w.length := by simp [pw]
@[simp] theorem pw_pw (w : W) (i : Nat) (t u : Wl) : pw (pw w i t) i u = pw w i u := by simp [pw]
theorem pw_app {w : W} {i : Nat} {t : Wl} (h : i < w.length) (l : W) : pw w i t ++ l = pw (w ++ l) i t := by simp [pw, List.set_append_left _ _ h]
theorem pw_take {w : W} {i n : Nat} {t : Wl} (h : i < n) : (pw w i t).take n = pw (w.take n) i t := by simp [pw, List.take_set]
theorem pw_get {w : W} {i : Nat} {t : Wl} (h : i < w.length) : (pw w i t)[i]? = some (wellD t) := by simp [pw, h]
theorem pw_ne {w : W} {i j : Nat} {t : Wl} (h : i ≠ j) : (pw w i t)[j]? = w[j]? := by simp [pw, h]
theorem pw_set {w : W} {i j : Nat} {t : Wl} {c : Cell} (h : i ≠ j) : (pw w i t).set j c = pw (w.set j c) i t := by
  simp only [pw]; exact List.set_comm _ _ h
theorem pw_self {w : W} {i : Nat} {t : Wl} (h : w[i]? = some (wellD t)) : pw w i t = w := by
  unfold pw
  obtain ⟨h1, h2⟩ := List.getElem?_eq_some_iff.mp h
  rw [← h2, List.set_getElem_self]
theorem view_pw {w : W} {i : Nat} {t : Wl} (h : i < w.length) : view (pw w i t) (.cel i) = some (.lst [.int t.1, .int t.2.1, .int t.2.2]) := by simp [view, pw_get h, wellD]
theorem sub_pw {w : W} {i : Nat} {t : Wl} (h : i < w.length) (j : Int) : subF (pw w i t) (.cel i) (.int j) = at? [.int t.1, .int t.2.1, .int t.2.2] j := by simp [subF, view_pw h]
theorem set_pw {w : W} {i : Nat} {t : Wl} (h : i < w.length) (j z : Int) (h0 : 0 ≤ j) (h1 : j.toNat < 3) : setSub (pw w i t) (.cel i) (.int j) (.int z) = some ((pw w i t).set i (.lst ([D.int t.1, .int t.2.1, .int t.2.2].set j.toNat (.int z)))) := by
  simp only [setSub]
  rw [pw_get h]
  simp only [wellD, D.noRef]
  rw [if_pos ⟨h0, h1, trivial⟩]
theorem set_pw0 {w : W} {i : Nat} {t : Wl} (h : i < w.length) (z : Int) : setSub (pw w i t) (.cel i) (.int 0) (.int z) = some (pw w i (z, t.2.1, t.2.2)) := by
  rw [set_pw h 0 z (by omega) (by decide)]; simp [pw, wellD]
theorem set_pw1 {w : W} {i : Nat} {t : Wl} (h : i < w.length) (z : Int) : setSub (pw w i t) (.cel i) (.int 1) (.int z) = some (pw w i (t.1, z, t.2.2)) := by
  rw [set_pw h 1 z (by omega) (by decide)]; simp [pw, wellD]
theorem set_pw2 {w : W} {i : Nat} {t : Wl} (h : i < w.length) (z : Int) : setSub (pw w i t) (.cel i) (.int 2) (.int z) = some (pw w i (t.1, t.2.1, z)) := by
  rw [set_pw h 2 z (by omega) (by decide)]; simp [pw, wellD]
theorem pw_cell {w l : W} {i : Nat} {t : Wl} (h : i < w.length) (j : Nat) : (pw (w ++ l) i t)[w.length + j]? = l[j]? := by
  rw [pw_ne (by omega), List.getElem?_append_right (by omega)]; congr 1; omega
theorem pw_cell0 {w l : W} {i : Nat} {t : Wl} (h : i < w.length) : (pw (w ++ l) i t)[w.length]? = l[0]? := pw_cell h 0
theorem pw_cset {w l : W} {i : Nat} {t : Wl} (h : i < w.length) (j : Nat) (c : Cell) : (pw (w ++ l) i t).set (w.length + j) c = pw (w ++ l.set j c) i t := by
  rw [pw_set (by omega), List.set_append_right _ _ (by omega)]; congr 3; omega
theorem pw_cset0 {w l : W} {i : Nat} {t : Wl} (h : i < w.length) (c : Cell) : (pw (w ++ l) i t).set w.length c = pw (w ++ l.set 0 c) i t := pw_cset h 0 c
theorem pw_cut {w l : W} {i : Nat} {t : Wl} (h : i < w.length) : (pw (w ++ l) i t).take w.length = pw w i t := by
  rw [pw_take h]; simp
theorem append_ok {w : W} {c : Nat} {xs : List D} {d : D} (h : w[c]? = some (.lst xs)) (h1 : d.noRef = true) (h2 : xs.length < 16000000) : bmF .append (.cel c) [d] w = .ok .non (w.set c (.lst (xs ++ [d]))) := by
  simp [bmF, h, h1, h2]
theorem bmTy_append {w : W} {c : Nat} {xs : List D} (h : w[c]? = some (.lst xs)) : bmTy .append (.cel c) w = true := by simp [bmTy, h]
theorem sealF_ok {env : Env} {w : W} {i c : Nat} {xs : List D} (h1 : locF env i = some (.cel c)) (h2 : w[c]? = some (.lst xs)) : sealF i env w = .next (env.set i (some (.lst xs))) (w.set c .dead) := by
  simp [sealF, h1, h2]
theorem finQ_drop {n : Nat} {Q : R D → Prop} {s : Tag Q} {d : D} {w : W} (h : d.noRef = true) (hn : n ≤ w.length) (hQ : Q (.ok d (w.take n))) : finQ false n Q s (.ret d w) := by
  simp only [finQ, fin_drop n d w h hn]; exact hQ
theorem dip_wp {k : Nat} {w : W} {i : Nat} {n : Int} {t : Wl} {Q : R D → Prop} {s : Tag Q} (hi : i < w.length) (hn : 0 < n) (hn2 : n < 18446744073709551616)
    (h : ∀ v u, 0 ≤ v → v < n → Q (.ok (.int v) (pw w i u))) : wp (run G (k + 1) 13 [.cel i, .int n] (pw w i t)) Q s := by
  rw [r13, b13]
  simp [sub_pw hi, set_pw2 hi]
  refine wpo_selP (fun ha => ?_) fun ha => ?_
  · simp [sub_pw hi, set_pw0 hi, hn, hn2]
    exact h _ _ (Int.emod_nonneg _ (by omega)) (Int.emod_lt_of_pos _ hn)
  · simp [sub_pw hi, set_pw1 hi, hn]
    exact h _ _ (Int.emod_nonneg _ (by omega)) (Int.emod_lt_of_pos _ hn)
theorem pick_wp {k : Nat} {w : W} {i : Nat} {xs : List D} {t : Wl} {Q : R D → Prop} {s : Tag Q} (hi : i < w.length) (hx : 0 < xs.length) (hl : xs.length < 1000)
    (h : ∀ x u, x ∈ xs → Q (.ok x (pw w i u))) : wp (run G (k + 2) 4 [.cel i, .lst xs] (pw w i t)) Q s := by
  rw [r4, b4]
  simp
  refine dip_wp hi (by omega) (by omega) fun v u h1 h2 => ?_
  obtain ⟨x, hx⟩ : ∃ x, xs[v.toNat]? = some x := ⟨_, List.getElem?_eq_getElem (by omega)⟩
  simp [at_pos _ _ h1, hx]
  exact h _ _ (List.mem_of_getElem? hx)
theorem mem_two {x : D} {l : List Int} (h : x ∈ l.map D.int) : ∃ z ∈ l, x = .int z := by
  obtain ⟨z, h1, h2⟩ := List.mem_map.mp h; exact ⟨z, h1, h2.symm⟩
theorem up_wp {k : Nat} {w : W} {i : Nat} {n : Int} {t : Wl} {Q : R D → Prop} {s : Tag Q} (hi : i < w.length) (hn : 0 < n)
    (h : ∀ v u, 1 ≤ v → v ≤ n → Q (.ok (.int v) (pw w i u))) : wp (run G (k + 3) 9 [.cel i, .int n] (pw w i t)) Q s := by
  rw [r9, b9]
  simp
  refine wpo_selP (fun ha => ?_) fun ha => ?_
  · simp
    refine dip_wp hi (by omega) (by omega) fun v u h1 h2 => ?_
    simp
    exact h _ _ (by omega) (by omega)
  · simp
    refine pick_wp hi (by decide) (by decide) fun x u hx => ?_
    obtain ⟨s, rfl⟩ : ∃ s : Int, x = .int s := by
      simp only [List.mem_cons, List.not_mem_nil, or_false] at hx
      rcases hx with h | h | h | h | h | h | h | h <;> exact ⟨_, h⟩
    simp
    refine dip_wp hi (by omega) (by omega) fun v u h1 h2 => ?_
    simp [mulOk_small h1 (by omega)]
    refine dip_wp hi (by omega) (by omega) fun v' u h1' h2' => ?_
    simp [hn]
    have := Int.emod_nonneg (v * s + v') (show n ≠ 0 by omega)
    have := Int.emod_lt_of_pos (v * s + v') hn
    exact h _ _ (by omega) (by omega)
end Sv

set_option Elab.async false
set_option linter.all false
set_option maxRecDepth 100000
set_option maxHeartbeats 1000000
namespace Sv
abbrev Span := Int × Int
abbrev Grp := Tx × Int × List Span
def spanD (p : Span) : D := .tup [.int p.1, .int p.2]
def rowD (g : Grp) : D := .lst [.str g.1, .int g.2.1, .lst (g.2.2.map spanD)]
structure NameOk (s : Tx) : Prop where
  pos : 1 ≤ s.length
  len : s.length ≤ 8
  low : ∀ c ∈ s, 97 ≤ c ∧ c ≤ 122
structure StaysOk (far : Int) (l : List Span) : Prop where
  ne : l ≠ []
  len : l.length ≤ 6
  ok : ∀ p ∈ l, 1 ≤ p.1 ∧ p.1 ≤ p.2 ∧ p.2 ≤ far
  sep : l.Pairwise fun a b => a.2 + 2 ≤ b.1
def menuL : List Tx := [[103, 114, 111, 117, 112], [97], [119, 105, 110, 100, 111, 119], [97, 98, 99, 100, 101, 102, 103, 104], [114, 97, 110, 107], [100, 101, 115, 107], [110, 111, 110, 101], [112, 114, 105, 99, 101], [98], [110, 105, 103, 104, 116], [122]]
structure CrewOk (mg : Nat) (ms far : Int) (gs : List Grp) : Prop where
  pos : 1 ≤ gs.length
  len : gs.length ≤ mg
  nd : (gs.map Prod.fst).Nodup
  name : ∀ g ∈ gs, NameOk g.1
  size : ∀ g ∈ gs, 1 ≤ g.2.1 ∧ g.2.1 ≤ ms
  stays : ∀ g ∈ gs, StaysOk far g.2.2
  menu : ∀ g ∈ gs, g.1 ∈ menuL
def termAt (b f j : Nat) : Tx := (menuL[(b + f * j) % 11]?).getD []
def termsL (b f n : Nat) : List Tx := (List.range n).map (termAt b f)
theorem term_get (b f j : Nat) : menuL[(b + f * j) % 11]? = some (termAt b f j) := by
  have : (b + f * j) % 11 < 11 := Nat.mod_lt _ (by omega)
  unfold termAt
  rw [List.getElem?_eq_getElem (by exact this)]; rfl
theorem menu_ok : ∀ s ∈ menuL, NameOk s := by
  intro s hs
  have : (decide (1 ≤ s.length ∧ s.length ≤ 8) && s.all fun c => decide (97 ≤ c ∧ c ≤ 122)) = true := by
    revert s; decide
  simp only [Bool.and_eq_true, decide_eq_true_eq, List.all_eq_true] at this
  exact ⟨this.1.1, this.1.2, this.2⟩
theorem menu_inj : ∀ i j : Nat, i < 11 → j < 11 → menuL[i]? = menuL[j]? → i = j := by
  intro i j hi hj h
  have key : ∀ i < 11, ∀ j < 11, menuL[i]? = menuL[j]? → i = j := by decide
  exact key i hi j hj h
theorem terms_ok (b f n : Nat) (hf : 1 ≤ f) (hf2 : f ≤ 10) (hn : n ≤ 11) : (termsL b f n).Nodup ∧ ∀ s ∈ termsL b f n, NameOk s ∧ s ∈ menuL := by
  constructor
  · unfold termsL
    rw [List.Nodup, List.pairwise_map]
    refine List.Pairwise.imp_of_mem (fun {j k} hj hk hlt he => ?_) List.pairwise_lt_range
    rw [List.mem_range] at hj hk
    have h1 := term_get b f j
    rw [he, ← term_get b f k] at h1
    have h2 := menu_inj _ _ (Nat.mod_lt _ (by omega)) (Nat.mod_lt _ (by omega)) h1
    have h3 : f = 1 ∨ f = 2 ∨ f = 3 ∨ f = 4 ∨ f = 5 ∨ f = 6 ∨ f = 7 ∨ f = 8 ∨ f = 9 ∨ f = 10 := by omega
    rcases h3 with rfl | rfl | rfl | rfl | rfl | rfl | rfl | rfl | rfl | rfl <;> omega
  · intro s hs
    obtain ⟨j, hj, rfl⟩ := List.mem_map.mp hs
    exact ⟨menu_ok _ (List.mem_of_getElem? (term_get b f j)), List.mem_of_getElem? (term_get b f j)⟩
theorem terms_wp {k : Nat} {w : W} {i : Nat} {n : Nat} {t : Wl} {Q : R D → Prop} {s : Tag Q} (hi : i < w.length) (hn : n ≤ 11)
    (h : ∀ (ns : List Tx) u, ns.length = n → ns.Nodup → (∀ s ∈ ns, NameOk s ∧ s ∈ menuL) → Q (.ok (.lst (ns.map .str)) (pw w i u))) : wp (run G (k + 2) 14 [.cel i, .int n] (pw w i t)) Q s := by
  rw [r14, b14]
  simp
  refine dip_wp hi (by omega) (by omega) fun v u h1 h2 => ?_
  simp
  refine dip_wp hi (by omega) (by omega) fun v' u h1' h2' => ?_
  obtain ⟨b, rfl⟩ := Int.eq_ofNat_of_zero_le h1
  obtain ⟨f, rfl⟩ := Int.eq_ofNat_of_zero_le h1'
  have hr : (-1152921504606846976 : Int) < n ∧ (n : Int) < 1152921504606846976 := by omega
  simp [hr, rangeD]
  refine wp_of (comp_map (fun j => .str (termAt b (1 + f) j)) (by simp; omega) (fun j hj acc => ?_) (fun _ _ => rfl)) ?_
  · have hm : mulOk (1 + f) j = true := mulOk_small (by omega) (by omega)
    have hg := term_get b (1 + f) j
    obtain ⟨q, hq, he⟩ : ∃ q : Nat, (b + (1 + f) * j) % 11 = q ∧ ((b : Int) + (1 + f) * j) % 11 = (q : Int) := ⟨_, rfl, by push_cast; rfl⟩
    rw [hq] at hg
    have hg2 : (menuL.map D.str)[q]? = some (.str (termAt b (1 + f) j)) := by rw [List.getElem?_map, hg]; rfl
    simp only [menuL, List.map] at hg2
    simp [hm, he, at_nat, hg2]
  · obtain ⟨e1, e2⟩ := terms_ok b (1 + f) n (by omega) (by omega) hn
    have := h (termsL b (1 + f) n) u (by simp [termsL]) e1 e2
    simpa [termsL, List.map_map, Function.comp_def] using this
structure SpanP (far : Int) (l : List Span) (b : Int) : Prop where
  ok : ∀ p ∈ l, 1 ≤ p.1 ∧ p.1 ≤ p.2 ∧ p.2 ≤ far ∧ p.2 + 1 ≤ b
  sep : l.Pairwise fun a b => a.2 + 2 ≤ b.1
  b0 : 0 ≤ b
def spansI (w : W) (i : Nat) (far : Int) (done : List Nat) (env : Env) (w' : W) : Prop := done.length ≤ 4 → ∃ (sp : List Span) (b : Int) (e4 e5 e6 : Option D) (u : Wl), sp.length ≤ done.length ∧ SpanP far sp b ∧ env = [some (.cel i), some (.int far), some (.cel w.length), some (.int b), e4, e5, e6] ∧ w' = pw (w ++ [.lst (sp.map spanD)]) i u
theorem spans_wp {k : Nat} {w : W} {i : Nat} {far : Int} {t : Wl} {Q : R D → Prop} {s : Tag Q} (hi : i < w.length) (hf : 2 ≤ far)
    (h : ∀ (l : List Span) u, StaysOk far l → l.length ≤ 4 → Q (.ok (.lst (l.map spanD)) (pw w i u))) : wp (run G (k + 3) 15 [.cel i, .int far] (pw w i t)) Q s := by
  rw [r15, b15]
  simp [pw_app hi]
  have hi1 : ∀ l : W, i < (w ++ l).length := fun l => by simp; omega
  refine dip_wp (hi1 _) (by omega) (by omega) fun v u h1 h2 => ?_
  simp
  refine dip_wp (hi1 _) (by omega) (by omega) fun v' u h1' h2' => ?_
  have hr : (-1152921504606846976 : Int) < 1 + v' ∧ 1 + v' < (1152921504606846976 : Int) := by omega
  simp [hr, rangeD]
  refine loop_wp (spansI w i far) ?_ ?_ ?_
  · exact fun _ => ⟨[], v, none, none, none, u, by simp, ⟨by simp, by simp, h1⟩, rfl, rfl⟩
  · intro a done rest he env w' hI
    have hl : done.length + 1 ≤ 4 := by
      have := congrArg List.length he
      simp at this
      omega
    obtain ⟨sp, b, e4, e5, e6, u, hlen, hsp, rfl, rfl⟩ := hI (by omega)
    have b0 := hsp.b0
    simp
    refine pick_wp (xs := [.int 0, .int 0, .int 1, .int 2, .int 5, .int (max 1 (far / 6))]) (hi1 _) (by simp) (by simp) fun x u hx => ?_
    obtain ⟨z, hz, rfl⟩ := mem_two (l := [0, 0, 1, 2, 5, max 1 (far / 6)]) hx
    have z0 : 0 ≤ z := by simp at hz; omega
    simp
    refine pick_wp (xs := [.int 0, .int 0, .int 1, .int 2, .int 3, .int 6, .int 9, .int (max 1 (far / 7))]) (hi1 _) (by simp) (by simp) fun x u hx => ?_
    obtain ⟨y, hy, rfl⟩ := mem_two (l := [0, 0, 1, 2, 3, 6, 9, max 1 (far / 7)]) hx
    have y0 : 0 ≤ y := by simp at hy; omega
    simp
    refine wpo_selP (fun hc => ?_) fun hc => ?_
    · have hcell : ∀ l : List D, (pw (w ++ [Cell.lst l]) i u)[w.length]? = some (.lst l) := fun l => by rw [pw_cell0 hi]; rfl
      simp [bmTy_append (hcell _), append_ok (hcell _) (show (D.tup [.int (b + 1 + z), .int (b + 1 + z + y)]).noRef = true from rfl) (show (sp.map spanD).length < 16000000 by simp; omega), pw_cset0 hi]
      refine fun _ => ⟨sp ++ [(b + 1 + z, b + 1 + z + y)], b + 1 + z + y + 1, _, _, _, u, by simp; omega, ⟨?_, ?_, by omega⟩, rfl, by simp [spanD]⟩
      · intro p hp
        simp at hp
        rcases hp with hp | rfl
        · have := hsp.ok p hp; omega
        · simp only; omega
      · rw [List.pairwise_append]
        refine ⟨hsp.sep, by simp, fun a ha c hc => ?_⟩
        simp at hc; subst hc
        have := hsp.ok a ha
        simp only; omega
    · simp
      exact fun _ => ⟨sp, b + 1 + z + y + 1, _, _, _, u, by simp; omega, ⟨fun p hp => by have := hsp.ok p hp; omega, hsp.sep, by omega⟩, rfl, rfl⟩
  · intro env w' hI
    obtain ⟨sp, b, e4, e5, e6, u, hlen, hsp, rfl, rfl⟩ := hI (by simp; omega)
    simp at hlen
    have hcell : ∀ l : List D, (pw (w ++ [Cell.lst l]) i u)[w.length]? = some (.lst l) := fun l => by rw [pw_cell0 hi]; rfl
    simp
    rw [sealF_ok rfl (hcell _)]
    have hd : (D.lst (sp.map spanD)).dataOk = true := dataOk_lstM (fun p _ => rfl) (fun p _ => by simp [spanD])
    have hnr : D.noRefL (sp.map spanD) = true := nrL_map _ _ fun p _ => rfl
    simp [pw_cset0 hi, cmp_neNilL hd]
    cases hsp0 : sp with
    | nil =>
      simp
      refine dip_wp (hi1 _) (by omega) (by omega) fun v u h1 h2 => ?_
      simp
      refine finQ_drop rfl (by simp) ?_
      rw [pw_cut hi]
      exact h [(1, 1 + v)] _ ⟨by simp, by simp, by simp; omega, by simp⟩ (by simp)
    | cons p r =>
      simp
      refine finQ_drop (by rw [hsp0] at hnr; simpa using hnr) (by simp) ?_
      rw [pw_cut hi]
      rw [← List.map_cons, ← hsp0]
      exact h sp _ ⟨by simp [hsp0], by omega, fun p hp => by have := hsp.ok p hp; omega, hsp.sep⟩ (by omega)
def crewI (w : W) (i : Nat) (ms far : Int) (done : List Tx) (ys : List D) (w' : W) : Prop := ∃ gs : List Grp, gs.map Prod.fst = done ∧ ys = gs.map rowD ∧ (∀ g ∈ gs, (1 ≤ g.2.1 ∧ g.2.1 ≤ ms) ∧ StaysOk far g.2.2) ∧ ∃ u, w' = pw w i u
theorem crew_wp {k : Nat} {w : W} {i mg : Nat} {ms far : Int} {t : Wl} {Q : R D → Prop} {s : Tag Q} (hi : i < w.length) (hf : 2 ≤ far) (hm : 1 ≤ mg) (hm2 : mg ≤ 11) (hs : 1 ≤ ms)
    (h : ∀ (gs : List Grp) u, CrewOk mg ms far gs → Q (.ok (.lst (gs.map rowD)) (pw w i u))) : wp (run G (k + 4) 5 [.cel i, .int mg, .int ms, .int far] (pw w i t)) Q s := by
  rw [r5, b5]
  have hi1 : ∀ l : W, i < (w ++ l).length := fun l => by simp; omega
  simp
  refine dip_wp hi (by omega) (by omega) fun v u h1 h2 => ?_
  obtain ⟨n, hn⟩ := Int.eq_ofNat_of_zero_le (show 0 ≤ 1 + v by omega)
  simp [hn]
  refine terms_wp hi (by omega) fun ns u hl hnd hok => ?_
  simp
  refine comp_wp (crewI w i ms far) (by omega) ⟨[], by simp, rfl, by simp, u, rfl⟩ ?_ ?_ ?_
  · rintro d ys w' ⟨gs, h1, h2, h3, u, rfl⟩; simp
  · rintro a done rest ys he w' ⟨gs, h1, h2, h3, u, rfl⟩
    simp [pw_app hi]
    refine up_wp (hi1 _) hs fun z u hz1 hz2 => ?_
    simp
    refine spans_wp (hi1 _) hf fun l u hst hl4 => ?_
    simp
    refine ⟨_, pw w i u, ⟨rfl, (pw_app hi _).symm⟩, ?_, gs ++ [(a, z, l)], by simp [h1], by simp [h2, rowD], ?_, u, rfl⟩
    · simp; exact nrL_map _ _ fun p _ => rfl
    · intro g hg
      simp at hg
      rcases hg with hg | rfl
      · exact h3 g hg
      · exact ⟨⟨hz1, hz2⟩, hst⟩
  · rintro ys w' hlen ⟨gs, h1, h2, h3, u, rfl⟩
    have e : gs.length = ns.length := by rw [← h1]; simp
    have hm : ∀ g ∈ gs, g.1 ∈ ns := fun g hg => by rw [← h1]; exact List.mem_map_of_mem hg
    simp [h2]
    exact h gs u ⟨by omega, by omega, h1 ▸ hnd, fun g hg => (hok _ (hm g hg)).1, fun g hg => (h3 g hg).1, fun g hg => (h3 g hg).2, fun g hg => (hok _ (hm g hg)).2⟩
end Sv

set_option Elab.async false
set_option linter.all false
set_option maxRecDepth 100000
namespace Sv
theorem dgN_eq : ∀ (f n : Nat), n < f → ∀ g, n < g → digitsN f n = digitsN g n
  | 0, n, h, _, _ => by omega
  | f + 1, n, h, 0, h2 => by omega
  | f + 1, n, h, g + 1, h2 => by
    simp only [digitsN]
    by_cases hn : n < 10
    · rw [if_pos hn, if_pos hn]
    · rw [if_neg hn, if_neg hn, dgN_eq f (n / 10) (by omega) g (by omega)]
theorem natTx_lt {n : Nat} (h : n < 10) : natTx n = [48 + n] := by simp only [natTx, digitsN]; rw [if_pos h]
theorem natTx_ge {n : Nat} (h : ¬ n < 10) : natTx n = natTx (n / 10) ++ [48 + n % 10] := by
  have : natTx n = digitsN (n + 1) n := rfl
  rw [this, digitsN, if_neg h, natTx, dgN_eq n (n / 10) (by omega) (n / 10 + 1) (by omega)]
theorem figs_app : ∀ (a b : Tx) (acc : Nat), figs acc (a ++ b) = (figs acc a).bind fun x => figs x b
  | [], b, acc => rfl
  | c :: r, b, acc => by
    simp only [List.cons_append, figs]
    by_cases h : 48 ≤ c ∧ c ≤ 57
    · rw [if_pos h, if_pos h, figs_app]
    · rw [if_neg h, if_neg h]; rfl
theorem natTx_ind {P : Nat → Prop} (h0 : ∀ n, n < 10 → P n) (h1 : ∀ n, ¬ n < 10 → P (n / 10) → P n) (n : Nat) : P n := by
  induction n using Nat.strongRecOn with
  | _ n ih =>
    by_cases h : n < 10
    · exact h0 n h
    · exact h1 n h (ih (n / 10) (by omega))
theorem figs_nat (n : Nat) : figs 0 (natTx n) = some n := by
  induction n using natTx_ind with
  | h0 n h =>
    rw [natTx_lt h]
    simp only [figs]
    rw [if_pos (by omega)]; congr 1; omega
  | h1 n h ih =>
    rw [natTx_ge h, figs_app, ih]
    simp only [Option.bind, figs]
    rw [if_pos (by omega)]; congr 1; omega
theorem natTx_dig (n : Nat) : ∀ c ∈ natTx n, 48 ≤ c ∧ c ≤ 57 := by
  induction n using natTx_ind with
  | h0 n h => rw [natTx_lt h]; intro c hc; simp at hc; omega
  | h1 n h ih =>
    rw [natTx_ge h]; intro c hc
    rw [List.mem_append] at hc
    rcases hc with hc | hc
    · exact ih c hc
    · simp at hc; omega
theorem natTx_pos (n : Nat) : 1 ≤ (natTx n).length := by
  induction n using natTx_ind with
  | h0 n h => rw [natTx_lt h]; simp
  | h1 n h ih => rw [natTx_ge h]; simp
theorem natTx_head (n : Nat) (h0 : 0 < n) : (natTx n)[0]? ≠ some 48 := by
  revert h0
  induction n using natTx_ind with
  | h0 n h => intro h0; rw [natTx_lt h]; simp; omega
  | h1 n h ih =>
    intro h0
    rw [natTx_ge h, List.getElem?_append_left (by have := natTx_pos (n / 10); omega)]
    exact ih (by omega)
theorem natTx_len (k : Nat) : ∀ (n : Nat), 1 ≤ k → n < 10 ^ k → (natTx n).length ≤ k := by
  induction k with
  | zero => intro n h; omega
  | succ k ih =>
    intro n _ h
    by_cases hn : n < 10
    · rw [natTx_lt hn]; simp
    · rw [natTx_ge hn]
      have hk : 1 ≤ k := by
        rcases Nat.eq_zero_or_pos k with h0 | h0
        · subst h0; simp at h; omega
        · exact h0
      have := ih (n / 10) hk (by rw [Nat.pow_succ] at h; omega)
      simp; omega
theorem intTx_nat (n : Nat) : intTx (n : Int) = natTx n := by simp only [intTx]; rw [if_neg (by omega)]; simp
theorem splitC_none {c : Nat} : ∀ {s : Tx}, c ∉ s → splitC c s = [s]
  | [], _ => rfl
  | x :: r, h => by
    simp only [List.mem_cons, not_or] at h
    simp only [splitC]
    rw [if_neg (fun z => h.1 z.symm), splitC_none h.2]
theorem splitC_ne (c : Nat) : ∀ s, splitC c s ≠ []
  | [] => by simp [splitC]
  | x :: r => by
    simp only [splitC]
    split
    · simp
    · cases splitC c r <;> simp
theorem splitC_app {c : Nat} : ∀ {a : Tx} (b : Tx), c ∉ a → splitC c (a ++ c :: b) = a :: splitC c b
  | [], b, _ => by simp [splitC]
  | x :: r, b, h => by
    simp only [List.mem_cons, not_or] at h
    simp only [List.cons_append, splitC]
    rw [if_neg (fun z => h.1 z.symm), splitC_app b h.2]
theorem splitC_join {c : Nat} : ∀ {ws : List Tx}, ws ≠ [] → (∀ w ∈ ws, c ∉ w) → splitC c (joinT [c] ws) = ws
  | [], h, _ => absurd rfl h
  | [a], _, h => by simp only [joinT]; exact splitC_none (h a (by simp))
  | a :: b :: r, _, h => by
    simp only [joinT, List.append_assoc, List.cons_append, List.nil_append]
    rw [splitC_app _ (h a (by simp)), splitC_join (by simp) fun w hw => h w (by simp [hw])]
theorem splitC_mem (c : Nat) : ∀ (s : Tx), ∀ w ∈ splitC c s, c ∉ w ∧ w.length ≤ s.length
  | [], w, h => by simp [splitC] at h; subst h; simp
  | x :: r, w, h => by
    have ih := splitC_mem c r
    simp only [splitC] at h
    split at h
    · simp only [List.mem_cons] at h
      rcases h with rfl | h
      · simp
      · have := ih w h; exact ⟨this.1, by simp; omega⟩
    · rename_i hx
      cases e : splitC c r with
      | nil => exact absurd e (splitC_ne _ _)
      | cons w1 ws =>
        rw [e] at h ih
        simp only [List.mem_cons] at h
        rcases h with rfl | h
        · have := ih w1 (by simp)
          refine ⟨?_, by simp; omega⟩
          simp only [List.mem_cons, not_or]
          exact ⟨fun z => hx z.symm, this.1⟩
        · have := ih w (by simp [h]); exact ⟨this.1, by simp; omega⟩
theorem splitC_len (c : Nat) : ∀ (s : Tx), (splitC c s).length ≤ s.length + 1
  | [] => by simp [splitC]
  | x :: r => by
    have ih := splitC_len c r
    simp only [splitC]
    split
    · simp; omega
    · cases e : splitC c r with
      | nil => simp
      | cons w1 ws => rw [e] at ih; simp at ih ⊢; omega
theorem joinT_len (sep : Tx) : ∀ ws : List Tx, (joinT sep ws).length ≤ (ws.map List.length).sum + ws.length * sep.length
  | [] => by simp [joinT]
  | [a] => by simp [joinT]
  | a :: b :: r => by
    have := joinT_len sep (b :: r)
    simp only [joinT, List.length_append, List.map_cons, List.sum_cons, List.length_cons] at this ⊢
    have e : (r.length + 1 + 1) * sep.length = (r.length + 1) * sep.length + sep.length := Nat.succ_mul _ _
    omega
theorem joinT_mem (sep : Tx) (c : Nat) (hc : c ∉ sep) : ∀ ws : List Tx, (∀ w ∈ ws, c ∉ w) → c ∉ joinT sep ws
  | [], _ => by simp [joinT]
  | [a], h => by simp only [joinT]; exact h a (by simp)
  | a :: b :: r, h => by
    have := joinT_mem sep c hc (b :: r) fun w hw => h w (by simp [hw])
    simp only [joinT, List.mem_append, not_or]
    exact ⟨⟨h a (by simp), hc⟩, this⟩
theorem sum_le {α : Type} (f : α → Nat) (m : Nat) : ∀ (l : List α), (∀ a ∈ l, f a ≤ m) → (l.map f).sum ≤ l.length * m
  | [], _ => by simp
  | a :: r, h => by
    have h1 := h a (by simp)
    have h2 := sum_le f m r fun x hx => h x (by simp [hx])
    simp only [List.map_cons, List.sum_cons, List.length_cons]
    have e : (r.length + 1) * m = r.length * m + m := Nat.succ_mul _ _
    omega
end Sv

set_option Elab.async false
set_option linter.all false
set_option maxRecDepth 100000
set_option maxHeartbeats 1000000
namespace Sv
@[simp] theorem spanD_nr (p : Span) : (spanD p).noRef = true := Eq.trans rfl rfl
@[simp] theorem spanD_da (p : Span) : (spanD p).isData = true := Eq.trans rfl rfl
@[simp] theorem spanD_dp (p : Span) : (spanD p).dep = 1 := Eq.trans rfl rfl
@[simp] theorem spansD_nr (l : List Span) : D.noRefL (l.map spanD) = true := nrL_map _ _ fun _ _ => rfl
@[simp] theorem spansD_okT (l : List Span) : (D.tup (l.map spanD)).dataOk = true := dataOk_tupM (by simp) (by simp)
@[simp] theorem spansD_okL (l : List Span) : (D.lst (l.map spanD)).dataOk = true := dataOk_lstM (by simp) (by simp)
theorem zipIdx_at {α : Type} {l : List α} {n : Nat} {x : α} {i : Nat} {done rest : List (α × Nat)} (h : l.zipIdx n = done ++ (x, i) :: rest) : i = n + done.length ∧ l[done.length]? = some x ∧ done.map Prod.fst = l.take done.length := by
  have h1 : (l.zipIdx n)[done.length]? = some (x, i) := by rw [h]; simp
  rw [List.getElem?_zipIdx] at h1
  cases e : l[done.length]? with
  | none => rw [e] at h1; simp at h1
  | some y =>
    rw [e] at h1; simp at h1
    refine ⟨h1.2.symm.trans (by omega), by rw [h1.1], ?_⟩
    have := congrArg (fun z => (z.map Prod.fst).take done.length) h
    simp at this
    rw [← this]
theorem enumD_map {α : Type} (f : α → D) : ∀ (l : List α) (n : Nat), enumD n (l.map f) = (l.zipIdx n).map fun p => D.tup [.int p.2, f p.1]
  | [], n => rfl
  | a :: r, n => by simp [enumD, enumD_map f r (n + 1)]
def isStay (p : Span) : Bool := decide (1 ≤ p.1) && decide (p.1 ≤ 1000000000000) && (decide (p.1 ≤ p.2) && decide (p.2 ≤ 1000000000000))
@[simp] theorem is_stay_span (k : Nat) (p : Span) (w : W) : run G (k + 3) 40 [spanD p] w = .ok (.bl (isStay p)) w := by
  rw [r40, b40]
  simp [spanD]
  by_cases h1 : 1 ≤ p.1 <;> by_cases h2 : p.1 ≤ 1000000000000 <;> simp [h1, h2, isStay]
theorem check_stays_ok {k : Nat} {l : List Span} {w : W} (h : StaysOk 1000000000000 l) : run G (k + 4) 39 [.tup (l.map spanD)] w = .ok .non w := by
  rw [r39, b39]
  apply eq_wp
  have hne : l.isEmpty = false := by cases l with | nil => exact absurd rfl h.ne | cons => rfl
  simp [cmp_eqNilT, hne, enumD_map]
  refine loop_wp (fun done env w' => ∃ e1 e2, env = [some (.tup (l.map spanD)), e1, e2] ∧ w' = w) ⟨none, none, rfl, rfl⟩ ?_ ?_
  · rintro ⟨x, i⟩ done rest he env w' ⟨e1, e2, rfl, rfl⟩
    obtain ⟨h1, h2, -⟩ := zipIdx_at he
    simp only [Nat.zero_add] at h1
    subst h1
    have hlt : done.length < l.length := (List.getElem?_eq_some_iff.mp h2).1
    have hlen := h.len
    have hx := h.ok x (List.mem_of_getElem? h2)
    have hst : isStay x = true := by simp [isStay]; omega
    have h6 : ¬ (done.length : Int) = 6 := by omega
    simp [hst, h6]
    refine wp_selP (fun h0 => ?_) fun h0 => ?_
    · have hprev : l[done.length - 1]? = some (l[done.length - 1]'(by omega)) := List.getElem?_eq_getElem _
      have hp : at? (l.map spanD) ((done.length : Int) - 1) = some (spanD (l[done.length - 1]'(by omega))) := by
        rw [at_pos _ _ (by omega), List.getElem?_map, show ((done.length : Int) - 1).toNat = done.length - 1 by omega, hprev]; rfl
      have hsep : (l[done.length - 1]'(by omega)).2 + 2 ≤ x.1 := by
        have := List.pairwise_iff_getElem.mp h.sep (done.length - 1) done.length (by omega) hlt (by omega)
        rw [(List.getElem?_eq_some_iff.mp h2).2] at this
        exact this
      simp [hp, spanD, show ¬ x.1 < (l[done.length - 1]'(by omega)).2 + 2 by omega]
    · simp [h0]
  · rintro env w' ⟨e1, e2, rfl, rfl⟩
    simp
theorem are_stays_ok {k : Nat} {l : List Span} {w : W} (h : StaysOk 1000000000000 l) : run G (k + 5) 31 [.tup (l.map spanD)] w = .ok (.bl true) w := by
  rw [r31, b31]
  simp [check_stays_ok h]
theorem numWord_int {i : Int} (h : 0 ≤ i) (h2 : i < 10 ^ 60) : numWord (intTx i) = true ∧ numVal (intTx i) = i := by
  obtain ⟨n, rfl⟩ := Int.eq_ofNat_of_zero_le h
  have hn : n < 10 ^ 60 := by
    have : ((n : Int)) < ((10 ^ 60 : Nat) : Int) := by simpa using h2
    omega
  rw [intTx_nat]
  have h1 := natTx_pos n
  have h3 := natTx_len 60 n (by omega) hn
  have h4 : (natTx n).all isDig = true := by
    rw [List.all_eq_true]; intro c hc
    have := natTx_dig n c hc
    simp [isDig, this]
  constructor
  · unfold numWord
    rw [decide_eq_true h1, decide_eq_true h3, h4]
    by_cases h0 : n = 0
    · subst h0; decide
    · simp [natTx_head n (by omega)]
  · simp [numVal, figs_nat]
theorem numberIn_int {i m : Int} (h : 0 ≤ i) (h2 : i < 10 ^ 60) (h3 : i ≤ m) : numberIn (intTx i) m = some i := by
  obtain ⟨h4, h5⟩ := numWord_int h h2
  simp [numberIn, h4, h5, h3]
theorem intTx_dig {i : Int} (h : 0 ≤ i) : ∀ c ∈ intTx i, 48 ≤ c ∧ c ≤ 57 := by
  obtain ⟨n, rfl⟩ := Int.eq_ofNat_of_zero_le h
  rw [intTx_nat]; exact natTx_dig n
theorem intTx_len {i : Int} {k : Nat} (h : 0 ≤ i) (hk : 1 ≤ k) (h2 : i < ((10 ^ k : Nat) : Int)) : 1 ≤ (intTx i).length ∧ (intTx i).length ≤ k := by
  obtain ⟨n, rfl⟩ := Int.eq_ofNat_of_zero_le h
  rw [intTx_nat]; exact ⟨natTx_pos n, natTx_len k n hk (by omega)⟩
def optD {α : Type} (f : α → D) : Option α → D | some a => f a | none => .non
theorem optI_eq (o : Option Int) : optI o = optD D.int o := by cases o <;> rfl
theorem any_non {α : Type} (f : α → D) (hf : ∀ a, D.eqv (f a) .non = false) (l : List (Option α)) : ((l.map (optD f)).any fun y => D.eqv y .non) = l.any Option.isNone := by
  induction l with
  | nil => rfl
  | cons a r ih =>
    cases a with
    | none => simp [optD, D.eqv]
    | some a => simp [optD, hf a, ih]
theorem optD_ok {α : Type} {f : α → D} (h1 : ∀ a, (f a).isData = true) (h2 : ∀ a, (f a).dep ≤ 50) (l : List (Option α)) : (D.tup (l.map (optD f))).dataOk = true :=
  dataOk_tupM (fun a _ => by cases a <;> simp [optD, h1]) (fun a _ => by cases a <;> simp [optD, h2])
theorem nin_tup {α : Type} {f : α → D} (h1 : ∀ a, (f a).isData = true) (h2 : ∀ a, (f a).dep ≤ 50) (hf : ∀ a, D.eqv (f a) .non = false) (l : List (Option α)) : cmpop .nin .non (.tup (l.map (optD f))) = some (!l.any Option.isNone) := by
  have e : (D.non.dataOk && true) = true := rfl
  simp only [cmpop, inL, optD_ok h1 h2 l]
  rw [if_pos e]
  simp only [Option.map_some, any_non f hf l]
theorem nin_lst {α : Type} {f : α → D} (h1 : ∀ a, (f a).isData = true) (h2 : ∀ a, (f a).dep ≤ 50) (hf : ∀ a, D.eqv (f a) .non = false) (l : List (Option α)) : cmpop .nin .non (.lst (l.map (optD f))) = some (!l.any Option.isNone) := by
  have e : (D.non.dataOk && true) = true := rfl
  simp only [cmpop, inL, optD_ok h1 h2 l]
  rw [if_pos e]
  simp only [Option.map_some, any_non f hf l]
theorem in_lst {α : Type} {f : α → D} (h1 : ∀ a, (f a).isData = true) (h2 : ∀ a, (f a).dep ≤ 50) (hf : ∀ a, D.eqv (f a) .non = false) (l : List (Option α)) : cmpop .in .non (.lst (l.map (optD f))) = some (l.any Option.isNone) := by
  have e : (D.non.dataOk && true) = true := rfl
  simp only [cmpop, inL, optD_ok h1 h2 l]
  rw [if_pos e, any_non f hf l]
@[simp] theorem nin_ints (l : List (Option Int)) : cmpop .nin .non (.lst (l.map optI)) = some (!l.any Option.isNone) := by
  rw [show optI = optD D.int from funext optI_eq]; exact nin_lst (by simp) (by simp) (fun a => by simp [D.eqv]) l
def optS : Option Span → D := optD spanD
@[simp] theorem nin_spans (l : List (Option Span)) : cmpop .nin .non (.tup (l.map optS)) = some (!l.any Option.isNone) :=
  nin_tup (by simp) (by simp) (fun a => by simp [D.eqv, spanD]) l
def pairOf : List (Option Int) → Option Span
  | [some x, some y] => some (x, y) | _ => none
def stayIn (s : Tx) : Option Span := pairOf ((splitC 45 s).map fun p => numberIn p 1000000000000)
@[simp] theorem optI_nr (o : Option Int) : (optI o).noRef = true := by cases o <;> rfl
@[simp] theorem optS_nr (o : Option Span) : (optS o).noRef = true := by cases o <;> rfl
theorem stay_in_eq (k : Nat) (s : Tx) (w : W) (h : s.length ≤ 15000000) : run G (k + 2) 37 [.str s] w = .ok (optS (stayIn s)) w := by
  rw [r37, b37]
  apply eq_wp
  have hl := splitC_len 45 s
  simp [show s.length ≤ 16000000 by omega]
  refine wp_of (comp_map (fun p => optI (numberIn p 1000000000000)) (by omega) (fun p hp acc => ?_) (fun _ _ => by simp)) ?_
  · have := (splitC_mem 45 s p hp).2
    simp [number_in_eq _ p _ _ (show p.length ≤ 16000000 by omega)]
  · have e : ((splitC 45 s).map fun p => optI (numberIn p 1000000000000)) = ((splitC 45 s).map fun p => numberIn p 1000000000000).map optI := by simp
    unfold stayIn
    rw [e]
    generalize (splitC 45 s).map (fun p => numberIn p 1000000000000) = L
    have hn := nin_ints L
    simp [hn]
    refine wp_selP (fun h2 => ?_) fun h2 => ?_
    · simp [hn]
      match L, h2 with
      | [a, b], _ => cases a <;> cases b <;> simp <;> rfl
    · simp [h2]
      have : pairOf L = none := by
        match L with
        | [] => rfl
        | [a] => cases a <;> rfl
        | [a, b] => exact absurd rfl h2
        | a :: b :: c :: r => cases a <;> cases b <;> rfl
      rw [this]; rfl
def allSome {α : Type} : List (Option α) → Option (List α)
  | [] => some []
  | some a :: r => (allSome r).map (a :: ·)
  | none :: _ => none
theorem allSome_some {α : Type} (l : List α) : allSome (l.map some) = some l := by
  induction l with
  | nil => rfl
  | cons a r ih => simp [allSome, ih]
theorem allSome_eq {α : Type} : ∀ {l : List (Option α)} {r : List α}, allSome l = some r → l = r.map some
  | [], r, h => by simp [allSome] at h; subst h; rfl
  | some a :: l, r, h => by
    simp only [allSome, Option.map_eq_some_iff] at h
    obtain ⟨q, h1, rfl⟩ := h
    rw [allSome_eq h1]; rfl
  | none :: l, r, h => by simp [allSome] at h
theorem allSome_none {α : Type} : ∀ {l : List (Option α)}, allSome l = none ↔ l.any Option.isNone = true
  | [] => by simp [allSome]
  | some a :: l => by simp [allSome, allSome_none (l := l)]
  | none :: l => by simp [allSome]
def staysIn (ws : List Tx) : Option (List Span) := if 1 ≤ ws.length ∧ ws.length ≤ 6 then allSome (ws.map stayIn) else none
def staysT (l : List Span) : D := .tup (l.map spanD)
theorem stays_in_eq (k : Nat) (ws : List Tx) (w : W) (h : ∀ s ∈ ws, s.length ≤ 15000000) (hl : ws.length ≤ 15000000) : run G (k + 3) 30 [.lst (ws.map .str)] w = .ok (optD staysT (staysIn ws)) w := by
  rw [r30, b30]
  apply eq_wp
  simp
  refine wp_of (comp_map (fun p => optS (stayIn p)) (by omega) (fun p hp acc => ?_) (fun _ _ => by simp)) ?_
  · simp [stay_in_eq _ p _ (h p hp)]
  · have e : (ws.map fun p => optS (stayIn p)) = (ws.map stayIn).map optS := by simp
    rw [e]
    have hn := nin_spans (ws.map stayIn)
    have hs : ∀ l : List Span, (l.map some).map optS = l.map spanD := fun l => by rw [List.map_map]; rfl
    generalize hL : ws.map stayIn = L at hn
    have hLl : L.length = ws.length := by rw [← hL]; simp
    unfold staysIn
    rw [hL]
    simp [hLl]
    by_cases h1 : 1 ≤ ws.length
    · by_cases h2 : ws.length ≤ 6
      · have h1' : (1 : Int) ≤ ws.length := by omega
        have h2' : (ws.length : Int) ≤ 6 := by omega
        simp [h1, h2, h1', h2', hn]
        cases ha : allSome L with
        | none =>
          have := allSome_none.mp ha
          simp [this, optD]
        | some l =>
          have e2 := allSome_eq ha
          have : L.any Option.isNone = false := by rw [e2]; simp
          simp [this, optD, staysT, h1, h2]
          rw [e2, hs]
      · have h1' : (1 : Int) ≤ ws.length := by omega
        have h2' : ¬ (ws.length : Int) ≤ 6 := by omega
        simp [h1', h2, h2', optD]
    · have h1' : ¬ (1 : Int) ≤ ws.length := by omega
      simp [h1, h1', optD]
def spanTx (p : Span) : Tx := intTx p.1 ++ 45 :: intTx p.2
def groupTx : Tx := [103, 114, 111, 117, 112]
def wordsOf (g : Grp) : List Tx := groupTx :: g.1 :: intTx g.2.1 :: g.2.2.map spanTx
def rowTx (g : Grp) : Tx := joinT [32] (wordsOf g)
def sheetTx (gs : List Grp) : Tx := joinT [10] (gs.map rowTx)
structure GrpOk (g : Grp) : Prop where
  name : NameOk g.1
  size : 1 ≤ g.2.1 ∧ g.2.1 ≤ 10 ^ 30
  stays : StaysOk 1000000000000 g.2.2
theorem NameOk.is {s : Tx} (h : NameOk s) : isName s = true := by
  simp only [isName, Bool.and_eq_true, decide_eq_true_eq, List.all_eq_true]
  exact ⟨⟨h.pos, h.len⟩, h.low⟩
theorem StaysOk.mono {f g : Int} {l : List Span} (h : StaysOk f l) (hg : f ≤ g) : StaysOk g l := ⟨h.ne, h.len, fun p hp => by have := h.ok p hp; omega, h.sep⟩
theorem pow30 : (10 : Int) ^ 30 = 1000000000000000000000000000000 := by decide
theorem pow60 : (10 : Int) ^ 60 = 1000000000000000000000000000000000000000000000000000000000000 := by decide
theorem stay_in_span {p : Span} (h : 1 ≤ p.1 ∧ p.1 ≤ p.2 ∧ p.2 ≤ 1000000000000) : stayIn (spanTx p) = some p := by
  have h1 : 45 ∉ intTx p.1 := fun z => by have := intTx_dig (by omega) _ z; omega
  have h2 : 45 ∉ intTx p.2 := fun z => by have := intTx_dig (by omega) _ z; omega
  unfold stayIn spanTx
  rw [splitC_app _ h1, splitC_none h2]
  have e1 := numberIn_int (i := p.1) (m := 1000000000000) (by omega) (by rw [pow60]; omega) (by omega)
  have e2 := numberIn_int (i := p.2) (m := 1000000000000) (by omega) (by rw [pow60]; omega) (by omega)
  simp [e1, e2, pairOf]
theorem spanTx_len {p : Span} (h : 1 ≤ p.1 ∧ p.1 ≤ p.2 ∧ p.2 ≤ 1000000000000) : 3 ≤ (spanTx p).length ∧ (spanTx p).length ≤ 27 := by
  have h1 := intTx_len (i := p.1) (k := 13) (by omega) (by omega) (by simp; omega)
  have h2 := intTx_len (i := p.2) (k := 13) (by omega) (by omega) (by simp; omega)
  simp [spanTx]; omega
theorem spanTx_chr {p : Span} (h : 1 ≤ p.1 ∧ p.1 ≤ p.2) : ∀ c ∈ spanTx p, 45 ≤ c ∧ c ≤ 57 := by
  intro c hc
  simp only [spanTx, List.mem_append, List.mem_cons] at hc
  rcases hc with hc | rfl | hc
  · have := intTx_dig (by omega) _ hc; omega
  · omega
  · have := intTx_dig (by omega) _ hc; omega
theorem staysIn_span {l : List Span} (h : StaysOk 1000000000000 l) : staysIn (l.map spanTx) = some l := by
  have h1 : 1 ≤ l.length := by cases l with | nil => exact absurd rfl h.ne | cons => simp
  have h2 := h.len
  unfold staysIn
  rw [if_pos (by simp; omega)]
  have e : (l.map spanTx).map stayIn = l.map some := by
    rw [List.map_map]
    apply List.map_congr_left
    intro p hp
    exact stay_in_span (h.ok p hp)
  rw [e, allSome_some]
theorem sizeTx_len {g : Grp} (h : GrpOk g) : 1 ≤ (intTx g.2.1).length ∧ (intTx g.2.1).length ≤ 31 := by
  have := h.size
  rw [pow30] at this
  exact intTx_len (k := 31) (by omega) (by omega) (by simp; omega)
theorem wordsOf_len {g : Grp} (h : GrpOk g) : ∀ s ∈ wordsOf g, s.length ≤ 31 := by
  intro s hs
  simp only [wordsOf, List.mem_cons, List.mem_map] at hs
  rcases hs with rfl | rfl | rfl | ⟨p, hp, rfl⟩
  · decide
  · have := h.name.len; omega
  · exact (sizeTx_len h).2
  · have := (spanTx_len (h.stays.ok p hp)).2; omega
theorem wordsOf_chr {g : Grp} (h : GrpOk g) : ∀ s ∈ wordsOf g, ∀ c ∈ s, 45 ≤ c ∧ c ≤ 122 := by
  intro s hs c hc
  simp only [wordsOf, List.mem_cons, List.mem_map] at hs
  rcases hs with rfl | rfl | rfl | ⟨p, hp, rfl⟩
  · simp [groupTx] at hc; omega
  · have := h.name.low c hc; omega
  · have := intTx_dig (by have := h.size; omega) c hc; omega
  · have := spanTx_chr ⟨(h.stays.ok p hp).1, (h.stays.ok p hp).2.1⟩ c hc; omega
theorem rowTx_len {g : Grp} (h : GrpOk g) : (rowTx g).length ≤ 300 := by
  have h1 := joinT_len [32] (wordsOf g)
  have h2 := sum_le List.length 31 (wordsOf g) (wordsOf_len h)
  have h3 : (wordsOf g).length ≤ 9 := by have := h.stays.len; simp [wordsOf]; omega
  simp only [List.length_cons, List.length_nil] at h1
  unfold rowTx; omega
theorem rowTx_chr {g : Grp} (h : GrpOk g) (c : Nat) (hc : c < 45) (hc2 : c ≠ 32) : c ∉ rowTx g :=
  joinT_mem [32] c (by simpa using hc2) _ fun s hs z => by have := wordsOf_chr h s hs c z; omega
theorem splitRow {g : Grp} (h : GrpOk g) : splitC 32 (rowTx g) = wordsOf g :=
  splitC_join (by simp [wordsOf]) fun s hs z => by have := wordsOf_chr h s hs 32 z; omega
theorem sheetTx_len {gs : List Grp} (h : ∀ g ∈ gs, GrpOk g) (hl : gs.length ≤ 64) : (sheetTx gs).length ≤ 20000 := by
  have h1 := joinT_len [10] (gs.map rowTx)
  have h2 := sum_le (fun g => (rowTx g).length) 300 gs fun g hg => rowTx_len (h g hg)
  simp only [List.map_map, List.length_map, List.length_cons, List.length_nil, Function.comp_def] at h1
  unfold sheetTx; omega
theorem splitSheet {gs : List Grp} (h : ∀ g ∈ gs, GrpOk g) (hne : gs ≠ []) : splitC 10 (sheetTx gs) = gs.map rowTx :=
  splitC_join (by simpa using hne) fun s hs z => by
    obtain ⟨g, hg, rfl⟩ := List.mem_map.mp hs
    exact rowTx_chr (h g hg) 10 (by omega) (by omega) z
def rowT (g : Grp) : D := .tup [.str g.1, .int g.2.1, staysT g.2.2]
@[simp] theorem staysT_nr (l : List Span) : (staysT l).noRef = true := by simp [staysT]
@[simp] theorem rowT_nr (g : Grp) : (rowT g).noRef = true := by simp [rowT]
@[simp] theorem staysT_da (l : List Span) : (staysT l).isData = true := by simp [staysT]; exact daL_map _ _ (by simp)
theorem staysT_dp (l : List Span) : (staysT l).dep ≤ 2 := by simp [staysT]; exact dpL_map _ _ 1 (by simp)
@[simp] theorem rowT_da (g : Grp) : (rowT g).isData = true := by simp [rowT]
theorem rowT_dp (g : Grp) : (rowT g).dep ≤ 3 := by have := staysT_dp g.2.2; simp [rowT]; omega
@[simp] theorem staysT_is (l : List Span) : cmpop .is (staysT l) .non = some false := Eq.trans rfl rfl
theorem row_in_ok {k : Nat} {g : Grp} {w : W} (h : GrpOk g) : run G (k + 6) 24 [.str (rowTx g)] w = .ok (rowT g) w := by
  rw [r24, b24]
  have hl := rowTx_len h
  have h1 : isName g.1 = true := h.name.is
  have h2 : numberIn (intTx g.2.1) 1000000000000000000000000000000 = some g.2.1 := by
    have := h.size
    rw [pow30] at this
    exact numberIn_int (by omega) (by rw [pow60]; omega) (by omega)
  have h3 : ¬ g.2.1 = 0 := by have := h.size; omega
  have h4 := h.name.len
  have h5 := (sizeTx_len h).2
  have h6 : 1 ≤ g.2.2.length := by have := h.stays.ne; cases hh : g.2.2 with | nil => exact absurd hh this | cons => simp
  have hs : ∀ w, run G (k + 5) 30 [.lst (g.2.2.map (D.str ∘ spanTx))] w = .ok (staysT g.2.2) w := fun w => by
    have := stays_in_eq (k + 2) (g.2.2.map spanTx) w (fun s hs => by
      obtain ⟨p, hp, rfl⟩ := List.mem_map.mp hs
      have := (spanTx_len (h.stays.ok p hp)).2; omega) (by have := h.stays.len; simp; omega)
    rw [staysIn_span h.stays, List.map_map] at this
    exact this
  have ha : ∀ w, run G (k + 5) 31 [staysT g.2.2] w = .ok (.bl true) w := fun w => are_stays_ok h.stays
  simp [show (rowTx g).length ≤ 16000000 by omega, splitRow h, wordsOf, groupTx, show ¬ ((g.2.2.length : Int) + 1 + 1 + 1 < 4) by omega, show g.1.length ≤ 16000000 by omega, h1, number_in_eq _ (intTx g.2.1) _ _ (show (intTx g.2.1).length ≤ 16000000 by omega), h2, optI, h3, hs, ha, staysT_is]
  rfl
theorem rowT_ne (g : Grp) : D.eqv (rowT g) .non = false := by simp [rowT, D.eqv]
theorem keys_nd {gs : List Grp} (h : (gs.map Prod.fst).Nodup) : (putAll (gs.map fun g => (D.str g.1, D.bl true)) []).length = gs.length := by
  rw [putAll_nd]
  · simp
  · rw [List.map_map, List.pairwise_map]
    rw [List.Nodup, List.pairwise_map] at h
    exact h.imp fun {a b} hab => by simpa [D.eqv] using hab
  · simp
theorem rows_in_ok {k : Nat} {gs : List Grp} {w : W} (h : ∀ g ∈ gs, GrpOk g) (hne : gs ≠ []) (hl : gs.length ≤ 64) (hnd : (gs.map Prod.fst).Nodup) : run G (k + 7) 16 [.str (sheetTx gs)] w = .ok (.tup (gs.map rowT)) w := by
  rw [r16, b16]
  apply eq_wp
  have hlen := sheetTx_len h hl
  simp [show (sheetTx gs).length ≤ 16000000 by omega, splitSheet h hne]
  refine wp_of (comp_map (φ := fun g => .str (rowTx g)) (l := gs) rowT (by omega) (fun g hg acc => ?_) (by simp)) ?_
  · simp [row_in_ok (h g hg)]
  · have hn : ∀ w, cmpF G (run G (k + 6)) .in .non (.lst (gs.map rowT)) w = .ok (.bl false) w := fun w => by
      have := in_lst (f := rowT) (by simp) (fun g => by have := rowT_dp g; omega) rowT_ne (gs.map some)
      rw [List.map_map] at this
      have e : (optD rowT ∘ some : Grp → D) = rowT := rfl
      rw [e] at this
      rw [cmpF_in, this]
      simp
    have hb : ¬ (64 : Int) < gs.length := by omega
    simp [-cmpF_in, hn, hb]
    refine wp_of (dcomp_ok (fun g : Grp => .str g.1) (fun _ => .bl true) (by omega) (fun g hg acc => ?_) (fun g hg acc => ?_) (fun g hg => ⟨rfl, rfl⟩)) ?_
    · simp [rowT]
    · simp [rowT]
    · simp [keys_nd hnd]
theorem setAtt_ok {G : Prog} {w : W} {c k f : Nat} {fs : List (Nat × D)} {d : D} {q : Cls} (h : w[c]? = some (.ins k fs)) (hq : G.cls k = some q) (h1 : d.noRef = true) (h2 : q.props.lookup f = none) (h3 : q.meths.lookup f = none) (h4 : fs.length < 1000) : setAtt G w (.cel c) f d = some (w.set c (.ins k (putF f d fs))) := by
  simp [setAtt, h, hq, h1, h2, h3, h4]
def rosterD (gs : List Grp) : D := .obj 7 [(5, .str (sheetTx gs)), (6, .tup (gs.map rowT))]
structure GrpsOk (gs : List Grp) : Prop where
  ok : ∀ g ∈ gs, GrpOk g
  ne : gs ≠ []
  len : gs.length ≤ 64
  nd : (gs.map Prod.fst).Nodup
theorem rowsT_nr (gs : List Grp) : D.noRefL (gs.map rowT) = true := nrL_map _ _ (by simp)
@[simp] theorem rosterD_nr (gs : List Grp) : (rosterD gs).noRef = true := by simp [rosterD, rowsT_nr]
theorem roster_init {k : Nat} {gs : List Grp} {w : W} (h : GrpsOk gs) : run G (k + 8) 6 [.cel w.length, .str (sheetTx gs)] (w ++ [.ins 7 []]) = .ok .non (w ++ [.ins 7 [(5, .str (sheetTx gs)), (6, .tup (gs.map rowT))]]) := by
  rw [r6, b6]
  simp [rows_in_ok h.ok h.ne h.len h.nd]
  rw [setAtt_ok (fs := []) (k := 7) (q := c7) (by simp) (by simp) rfl (by rw [pr7]; rfl) (by rw [me7]; rfl) (by decide)]
  simp
  rw [setAtt_ok (fs := [(5, .str (sheetTx gs))]) (k := 7) (q := c7) (by simp; rfl) (by simp) (by simp [rowsT_nr]) (by rw [pr7]; rfl) (by rw [me7]; rfl) (by simp)]
  simp [putF]
theorem roster_make {k : Nat} {gs : List Grp} (w : W) (h : GrpsOk gs) : makeC G (run G (k + 8)) 7 [.str (sheetTx gs)] [] [] w = .ok (rosterD gs) w := by
  simp [roster_init h, rosterD]
abbrev Crowd := Int × List Span
def crowdD (c : Crowd) : D := .tup [.int c.1, staysT c.2]
@[simp] theorem crowdD_nr (c : Crowd) : (crowdD c).noRef = true := by simp [crowdD]
def crowdsOf (gs : List Grp) : List Crowd := gs.map Prod.snd
theorem roster_sizes (k : Nat) (gs : List Grp) (w : W) (hl : gs.length ≤ 64) : run G (k + 1) 43 [rosterD gs] w = .ok (.tup (gs.map fun g => .int g.2.1)) w := by
  rw [r43, b43]
  apply eq_wp
  simp [rosterD]
  refine wp_of (comp_map (fun g : Grp => .int g.2.1) (by omega) (fun g hg acc => ?_) (by simp)) ?_
  · simp [rowT]
  · simp
theorem roster_stays (k : Nat) (gs : List Grp) (w : W) (hl : gs.length ≤ 64) : run G (k + 1) 44 [rosterD gs] w = .ok (.tup (gs.map fun g => staysT g.2.2)) w := by
  rw [r44, b44]
  apply eq_wp
  simp [rosterD]
  refine wp_of (comp_map (fun g : Grp => staysT g.2.2) (by omega) (fun g hg acc => ?_) (by simp)) ?_
  · simp [rowT]
  · simp
theorem zipD_map {α : Type} (f g : α → D) : ∀ l : List α, zipD (l.map f) (l.map g) = l.map fun a => .tup [f a, g a]
  | [] => rfl
  | a :: r => by simp [zipD, zipD_map f g r]
theorem crowds_of_eq (k : Nat) (gs : List Grp) (w : W) (hl : gs.length ≤ 64) : run G (k + 2) 22 [rosterD gs] w = .ok (.lst ((crowdsOf gs).map crowdD)) w := by
  rw [r22, b22]
  have hs : ∀ w, attrF G (run G (k + 1)) (rosterD gs) 11 w = .ok (.tup (gs.map fun g => .int g.2.1)) w := fun w => by
    simp [rosterD]; rw [← rosterD, roster_sizes k gs w hl]; rfl
  have hs2 : ∀ w, attrF G (run G (k + 1)) (rosterD gs) 12 w = .ok (.tup (gs.map fun g => staysT g.2.2)) w := fun w => by
    simp [rosterD]; rw [← rosterD, roster_stays k gs w hl]; rfl
  have e : ∀ w : W, newL false (zipD (gs.map fun g => .int g.2.1) (gs.map fun g => staysT g.2.2)) w = .ok (.lst ((crowdsOf gs).map crowdD)) w := fun w => by
    rw [zipD_map, newL_val _ _ (by simp; omega), crowdsOf, List.map_map]; rfl
  simp [hs, hs2, e]
theorem check_roster_ok (k : Nat) (gs : List Grp) (w : W) : run G (k + 1) 18 [rosterD gs] w = .ok .non w := by
  rw [r18, b18]
  simp [rosterD]
def hereIn (st : List Span) (a b : Int) : Bool := st.any fun p => decide (p.1 ≤ b) && decide (a ≤ p.2)
def seenIn (cs : List Crowd) (a b : Int) : Int := ((cs.filter fun c => hereIn c.2 a b).map Prod.fst).sum
theorem seen_in_eq (k : Nat) (cs : List Crowd) (a b : Int) (w : W) (hl : cs.length ≤ 100000) (hs : ∀ c ∈ cs, c.2.length ≤ 100000) : run G (k + 1) 21 [.lst (cs.map crowdD), .int a, .int b] w = .ok (.int (seenIn cs a b)) w := by
  rw [r21, b21]
  apply eq_wp
  simp
  refine wp_of (comp_if (fun c : Crowd => hereIn c.2 a b) (fun c : Crowd => .int c.1) (by omega) (fun c hc acc => ?_) (fun c hc _ acc => ?_) (by simp)) ?_
  · apply eq_wp
    simp [crowdD, staysT]
    refine wp_of (comp_map (fun p : Span => .bl (decide (p.1 ≤ b) && decide (a ≤ p.2))) (by have := hs c hc; omega) (fun p hp acc => ?_) (by simp)) ?_
    · by_cases h1 : p.1 ≤ b <;> simp [spanD, h1]
    · simp [bi_any, hereIn]
  · simp [crowdD]
  · have := bi_sum G w (cs.filter fun c => hereIn c.2 a b) Prod.fst
    simp [this, seenIn]
end Sv

set_option Elab.async false
set_option linter.all false
set_option maxRecDepth 100000
set_option maxHeartbeats 1000000
namespace Sv
theorem well_loop {cl : CallT} {e0 en e4 : Option D} {t : Int} {w : W} {b : Ss} {t1 : Tag (T.loc 4)} {t2 : Tag b} {Q : O → Prop} {s : Tag Q} (hb : b = (.cons (.asg (.loc 3) (.bin .mod (.bi .int (.cons (.bin .add (.bin .add (.bin .mul (.loc 3) (.int 48271)) (.bin .mod (.bi .int (.cons (.loc 4) .nil)) (.int 999979))) (.loc 1)) .nil)) (.int 2147483629))) .nil)) (l : List Int) (z : Int)
    (h : ∀ z e4, Q (.next [e0, some (.int t), en, some (.int z), e4] w)) : wpo (loopL G cl (.loc 4) b t1 t2 (l.map .int) [e0, some (.int t), en, some (.int z), e4] w) Q s := by
  subst hb
  refine loop_wp (fun done env w' => ∃ z e4, env = [e0, some (.int t), en, some (.int z), e4] ∧ w' = w) ⟨z, e4, rfl, rfl⟩ ?_ ?_
  · rintro x done rest he env w' ⟨z, e4, rfl, rfl⟩
    simp
  · rintro env w' ⟨z, e4, rfl, rfl⟩
    exact h z e4
theorem well_wp {k : Nat} {ns : List Int} {n : Nat} {w : W} {Q : R D → Prop} {s : Tag Q} (h : ∀ t, Q (.ok (.cel w.length) (w ++ [wellD t]))) : wp (run G (k + 1) 3 [.scr ns, .int n] w) Q s := by
  rw [r3, b3]
  simp
  refine wp_selP (fun h1 => ?_) fun h1 => ?_
  · have h2 : n < ns.length := by omega
    simp [h2]
    rw [← List.map_take]
    refine well_loop rfl _ _ fun z e4 => ?_
    simp
    refine wp_selP (fun ha => ?_) fun ha => ?_
    · simp
      exact h (_, _, 0)
    · simp
      exact h (_, _, 0)
  · simp
    rw [← List.map_take]
    refine well_loop rfl _ _ fun z e4 => ?_
    simp
    refine wp_selP (fun ha => ?_) fun ha => ?_
    · simp
      exact h (_, _, 0)
    · simp
      exact h (_, _, 0)
def okQ (w : W) (i : Nat) (r : R D) : Prop := ∃ u, r = .ok (.bl true) (pw w i u)
theorem okQ_ok (w : W) (i : Nat) (u : Wl) : okQ w i (.ok (.bl true) (pw w i u)) := ⟨u, rfl⟩
def lawRet (rid : Nat) (K : Int) (t : Nat) : S := (.ret (.bi .all (.cons (.comp false [t] (.call rid (.cons (.call 3 (.cons (.loc 0) (.cons (.loc t) .nil)) [] .nil) .nil) [] .nil) (.loc t) (.range (.cons (.bi .max (.cons (.int 2) (.cons (.bi .min (.cons (.bi .len (.cons (.loc 0) .nil)) (.cons (.int K) .nil))) .nil))) .nil)) .nil) .nil)))
def lawBody (rid : Nat) (K : Int) : Ss := .cons (lawRet rid K 1) .nil
theorem locF_set {env : Env} {t : Nat} {d : D} (h : t < env.length) : locF (env.set t (some d)) t = some d := by
  simp [locF, h]
theorem locF_set_ne {env : Env} {t i : Nat} {d : Option D} (h : t ≠ i) : locF (env.set t d) i = locF env i := by
  simp [locF, List.getElem?_set_ne h]
theorem lawRet_ok {k rid t : Nat} {K : Int} {ns : List Int} {env : Env} {w : W} (hn : ns.length ≤ 63) (he : locF env 0 = some (.scr ns)) (ht : t < env.length) (ht0 : t ≠ 0) (hq : ∀ (cl : CallT) (a : D) (w : W), callF G cl rid [a] [] [] w = cl rid [a] w)
    (hr : ∀ (w : W) (i : Nat) (u : Wl), i < w.length → wp (run G (k + 1) rid [.cel i] (pw w i u)) (okQ w i) ⟨⟩) :
    exec G (run G (k + 1)) (lawRet rid K t) env w = .ret (.bl true) w := by
  have key : wpo (exec G (run G (k + 1)) (lawRet rid K t) env w) (fun o => o = .ret (.bl true) w) ⟨⟩ := by
    unfold lawRet
    have h1 : (-1152921504606846976 : Int) < max 2 (min (ns.length : Int) K) := by omega
    have h2 : max 2 (min (ns.length : Int) K) < (1152921504606846976 : Int) := by omega
    simp [he, h1, h2, rangeD]
    refine comp_all (by simp; omega) (fun a ha w' => ?_) ?_
    · have l1 : locF (env.set t (some (.int (a : Int)))) 0 = some (.scr ns) := by rw [locF_set_ne ht0]; exact he
      have l2 : locF (env.set t (some (.int (a : Int)))) t = some (.int (a : Int)) := locF_set ht
      simp [ht, l1, l2]
      refine well_wp fun u => ?_
      simp [hq]
      have := hr (w' ++ [wellD u]) w'.length u (by simp)
      rw [pw_self (by simp)] at this
      obtain ⟨u, hu⟩ := of_wp this
      refine wp_of hu ?_
      simp [pw]
    · have := bi_all G w (List.range (max 2 (min (ns.length : Int) K)).toNat) fun _ => true
      simp [this]
  exact key
theorem lawBody_ok {k rid : Nat} {K : Int} {ns : List Int} {w : W} (hn : ns.length ≤ 63) (hq : ∀ (cl : CallT) (a : D) (w : W), callF G cl rid [a] [] [] w = cl rid [a] w)
    (hr : ∀ (w : W) (i : Nat) (t : Wl), i < w.length → wp (run G (k + 1) rid [.cel i] (pw w i t)) (okQ w i) ⟨⟩) :
    execs G (run G (k + 1)) (lawBody rid K) [some (.scr ns), none] w = .ret (.bl true) w := by
  unfold lawBody
  rw [xs_cons, lawRet_ok hn rfl (by simp) (by simp) hq hr]
  rfl
end Sv

set_option Elab.async false
set_option linter.all false
set_option maxRecDepth 100000
set_option maxHeartbeats 1000000
namespace Sv
theorem CrewOk.grps {mg : Nat} {ms far : Int} {gs : List Grp} (h : CrewOk mg ms far gs) (hm : mg ≤ 64) (hs : ms ≤ 10 ^ 30) (hf : far ≤ 1000000000000) : GrpsOk gs :=
  ⟨fun g hg => ⟨h.name g hg, ⟨(h.size g hg).1, Int.le_trans (h.size g hg).2 hs⟩, (h.stays g hg).mono hf⟩, by intro z; have := h.pos; rw [z] at this; simp at this, by have := h.len; omega, h.nd⟩
theorem strTx_ok {i : Int} (h : 0 ≤ i) (h2 : i ≤ 10 ^ 30) : i.natAbs < 2 ^ 1900 := by
  have e : (2 : Nat) ^ 1900 = 2 ^ 200 * 2 ^ 1700 := by rw [← Nat.pow_add]
  have e2 : 1 ≤ 2 ^ 1700 := Nat.one_le_two_pow
  have e3 : 2 ^ 200 * 1 ≤ 2 ^ 200 * 2 ^ 1700 := Nat.mul_le_mul_left _ e2
  have e4 : (10 : Int) ^ 30 < (2 ^ 200 : Nat) := by decide
  rw [e]; omega
theorem bi_strN {i : Int} (h : 0 ≤ i) (h2 : i ≤ 1000000000000000000000000000000) (w : W) : biF G .str [.int i] w = .ok (.str (intTx i)) w := bi_str G i w (strTx_ok h (by rw [pow30]; exact h2))
theorem sheet_ok {k : Nat} {gs : List Grp} {w : W} (h : ∀ g ∈ gs, GrpOk g) (hl : gs.length ≤ 64) : run G (k + 1) 8 [.lst (gs.map rowD)] w = .ok (.str (sheetTx gs)) w := by
  rw [r8, b8]
  apply eq_wp
  simp
  refine loop_wp (fun done env w' => ∃ e2 e3, env = [some (.lst (gs.map rowD)), some (.cel w.length), e2, e3] ∧ w' = w ++ [.lst (done.map fun g => .str (rowTx g))]) ⟨none, none, rfl, rfl⟩ ?_ ?_
  · rintro g done rest he env w' ⟨e2, e3, rfl, rfl⟩
    have hg := h g (by rw [he]; simp)
    have hdl : done.length < 64 := by have := congrArg List.length he; simp at this; omega
    have hcell : ∀ l : List D, (w ++ [Cell.lst l])[w.length]? = some (.lst l) := fun l => by simp
    have hsz := hg.size
    have p30 := pow30
    have s0 := fun w => bi_strN (i := g.2.1) (by omega) (by omega) w
    simp [rowD, bmTy_append (hcell _), s0, -bi_str]
    refine wp_of (comp_map (fun p : Span => .str (spanTx p)) (by have := hg.stays.len; omega) (fun p hp acc => ?_) (by simp)) ?_
    · have hp' := hg.stays.ok p hp
      have hp1 := (intTx_len (i := p.1) (k := 13) (by omega) (by omega) (by simp; omega)).2
      have hp2 := (intTx_len (i := p.2) (k := 13) (by omega) (by omega) (by simp; omega)).2
      have s1 := fun w => bi_strN (i := p.1) (by omega) (by omega) w
      have s2 := fun w => bi_strN (i := p.2) (by omega) (by omega) w
      have c1 : binop .add (.str (intTx p.1)) (.str [45]) = some (.str (intTx p.1 ++ [45])) := o_cats _ _ (by simp; omega)
      have c2 : binop .add (.str (intTx p.1 ++ [45])) (.str (intTx p.2)) = some (.str (intTx p.1 ++ [45] ++ intTx p.2)) := o_cats _ _ (by simp; omega)
      simp [spanD, s1, s2, c1, c2, -o_cats, -bi_str, spanTx]
    · have hst := hg.stays.len
      have hj := join_ok (α := Tx) [32] (wordsOf g) id (w ++ [.lst (done.map fun g => .str (rowTx g))]) (by
        have h2 := sum_le List.length 31 (wordsOf g) (wordsOf_len hg)
        have h3 : (wordsOf g).length ≤ 9 := by simp [wordsOf]; omega
        simp; omega)
      simp only [id, List.map_id] at hj
      have e : List.map (fun a => D.str a) (wordsOf g) = D.str [103, 114, 111, 117, 112] :: D.str g.1 :: D.str (intTx g.2.1) :: (g.2.2.map fun p => D.str (spanTx p)) := by simp [wordsOf, groupTx]
      rw [e] at hj
      have c1 : binop .add (.lst [.str [103, 114, 111, 117, 112], .str g.1, .str (intTx g.2.1)]) (.lst (g.2.2.map fun p => .str (spanTx p))) = some (.lst ([.str [103, 114, 111, 117, 112], .str g.1, .str (intTx g.2.1)] ++ g.2.2.map fun p => .str (spanTx p))) := o_cat _ _ (by simp; omega)
      have ha := append_ok (hcell (done.map fun g => .str (rowTx g))) (show (D.str (rowTx g)).noRef = true from rfl) (by simp; omega)
      simp [c1, -o_cat, hj]
      simp only [rowTx] at ha ⊢
      simp [ha]
  · rintro env w' ⟨e2, e3, rfl, rfl⟩
    have hj := join_ok (α := Grp) [10] gs rowTx (w ++ [.dead]) (by
        have h2 := sum_le (fun g => (rowTx g).length) 300 gs fun g hg => rowTx_len (h g hg)
        simp [Function.comp_def] at h2 ⊢; omega)
    simp
    rw [sealF_ok rfl (by simp; rfl)]
    simp [hj]
    exact finQ_drop rfl (by simp) (by simp [sheetTx])
end Sv

set_option Elab.async false
set_option linter.all false
set_option maxRecDepth 100000
set_option maxHeartbeats 1000000
namespace Sv
end Sv

set_option Elab.async false
set_option linter.all false
set_option maxRecDepth 100000
set_option maxHeartbeats 1000000
namespace Sv
def nz (t : Wl) : Wl := (t.1 % 2147483587, t.2)
end Sv

set_option Elab.async false
set_option linter.all false
set_option maxRecDepth 100000
set_option maxHeartbeats 1000000
namespace Sv
structure StayP (a B : Int) (l : List Span) (b : Int) : Prop where
  ok : ∀ p ∈ l, a ≤ p.1 ∧ p.1 ≤ p.2 ∧ p.2 + 2 ≤ b
  sep : l.Pairwise fun a b => a.2 + 2 ≤ b.1
  b0 : a ≤ b
  b1 : b ≤ B
def staysI (w : W) (i : Nat) (a m s : Int) (done : List Nat) (env : Env) (w' : W) : Prop := ∃ (sp : List Span) (b : Int) (e6 e7 e8 : Option D) (u : Wl), sp.length = done.length ∧ StayP a (a + 2 * s * (done.length : Int)) sp b ∧ env = [some (.cel i), some (.int a), some (.int m), some (.int s), some (.cel w.length), some (.int b), e6, e7, e8] ∧ w' = pw (w ++ [.lst (sp.map spanD)]) i (nz u)
def menuC : List Tx := [[97], [110, 105, 103, 104, 116], [98], [122, 122], [97, 98, 99, 100, 101, 102, 103, 104], [100, 101, 115, 107], [120], [113]]
structure GrpsC (a B m : Int) (n : Nat) (szs : List Int) (gs : List Grp) : Prop where
  pos : 1 ≤ gs.length
  len : gs.length ≤ n
  nd : (gs.map Prod.fst).Nodup
  name : ∀ g ∈ gs, NameOk g.1
  size : ∀ g ∈ gs, g.2.1 ∈ szs
  ne : ∀ g ∈ gs, g.2.2 ≠ []
  stl : ∀ g ∈ gs, (g.2.2.length : Int) ≤ m
  ok : ∀ g ∈ gs, ∀ p ∈ g.2.2, a ≤ p.1 ∧ p.1 ≤ p.2 ∧ p.2 + 2 ≤ B
  sep : ∀ g ∈ gs, g.2.2.Pairwise fun a b => a.2 + 2 ≤ b.1
theorem GrpsC.grps {a B m : Int} {n : Nat} {szs : List Int} {gs : List Grp} (h : GrpsC a B m n szs gs) (ha : 1 ≤ a) (hB : B ≤ 1000000000002) (hm : m ≤ 6) (hn : n ≤ 64) (hs : ∀ z ∈ szs, 1 ≤ z ∧ z ≤ 10 ^ 30) : GrpsOk gs :=
  ⟨fun g hg => ⟨h.name g hg, hs _ (h.size g hg), h.ne g hg, by have := h.stl g hg; omega, fun p hp => by have := h.ok g hg p hp; omega, h.sep g hg⟩, by intro z; have := h.pos; rw [z] at this; simp at this, by have := h.len; omega, h.nd⟩
def nameC (at0 : Int) (j : Nat) : Tx := (menuC[((at0 + j) % 8).toNat]?).getD []
structure GI (a B : Int) (szs : List Int) (g : Grp) : Prop where
  size : g.2.1 ∈ szs
  ne : g.2.2 ≠ []
  stl : (g.2.2.length : Int) ≤ 3
  ok : ∀ p ∈ g.2.2, a ≤ p.1 ∧ p.1 ≤ p.2 ∧ p.2 + 2 ≤ B
  sep : g.2.2.Pairwise fun a b => a.2 + 2 ≤ b.1
def groupsI (w : W) (i : Nat) (at0 a m st : Int) (szs : List Int) (done : List Nat) (env : Env) (w' : W) : Prop := ∃ (gs : List Grp) (e8 e9 : Option D) (u : Wl), gs.map Prod.fst = done.map (nameC at0) ∧ (∀ g ∈ gs, GI a (a + 6 * st) szs g) ∧ env = [some (.cel i), some (.int a), some (.int m), some (.int st), some (.lst (szs.map .int)), some (.lst (menuC.map .str)), some (.int at0), some (.cel w.length), e8, e9] ∧ w' = pw (w ++ [.lst (gs.map rowT)]) i (nz u)
end Sv

set_option Elab.async false
set_option linter.all false
set_option maxRecDepth 100000
set_option maxHeartbeats 1000000
namespace Sv
end Sv

set_option Elab.async false
set_option linter.all false
set_option maxRecDepth 100000
set_option maxHeartbeats 1000000
namespace Sv
def IsMax (M : Int) (l : List Int) : Prop := M ∈ l ∧ ∀ x ∈ l, x ≤ M
theorem IsMax.uniq {M N : Int} {l l' : List Int} (h : IsMax M l) (h' : IsMax N l') (e1 : ∀ x ∈ l, x ≤ N) (e2 : ∀ x ∈ l', x ≤ M) : M = N := by
  have := e1 _ h.1
  have := e2 _ h'.1
  omega
theorem maxI_max : ∀ {l : List Int}, l ≠ [] → ∃ M, maxI l = some M ∧ IsMax M l := by
  intro l h
  cases l with
  | nil => exact absurd rfl h
  | cons a r =>
    refine ⟨_, rfl, ?_⟩
    have key : ∀ (r : List Int) (a : Int), IsMax (r.foldl (fun m x => if x > m then x else m) a) (a :: r) := by
      intro r
      induction r with
      | nil => intro a; exact ⟨by simp, by simp⟩
      | cons b r ih =>
        intro a
        simp only [List.foldl_cons]
        by_cases hb : b > a
        · rw [if_pos hb]
          obtain ⟨h1, h2⟩ := ih b
          have h3 := h2 _ (List.mem_cons_self)
          refine ⟨List.mem_cons_of_mem _ h1, fun x hx => ?_⟩
          simp only [List.mem_cons] at hx
          rcases hx with rfl | rfl | hx
          · omega
          · exact h3
          · exact h2 _ (List.mem_cons_of_mem _ hx)
        · rw [if_neg hb]
          obtain ⟨h1, h2⟩ := ih a
          have h3 := h2 _ (List.mem_cons_self)
          refine ⟨?_, fun x hx => ?_⟩
          · simp only [List.mem_cons] at h1 ⊢
            rcases h1 with h1 | h1
            · exact .inl h1
            · exact .inr (.inr h1)
          · simp only [List.mem_cons] at hx
            rcases hx with rfl | rfl | hx
            · exact h3
            · omega
            · exact h2 _ (List.mem_cons_of_mem _ hx)
    exact key r a
theorem sum_mono {cs : List Crowd} (h0 : ∀ c ∈ cs, 0 ≤ c.1) {p q : Crowd → Bool} (h : ∀ c ∈ cs, p c = true → q c = true) : ((cs.filter p).map Prod.fst).sum ≤ ((cs.filter q).map Prod.fst).sum := by
  induction cs with
  | nil => simp
  | cons c r ih =>
    have h1 := ih (fun c hc => h0 c (by simp [hc])) (fun c hc => h c (by simp [hc]))
    have h2 := h0 c (by simp)
    by_cases hp : p c = true
    · have hq := h c (by simp) hp
      simp [hp, hq]; exact h1
    · by_cases hq : q c = true
      · simp [hp, hq]; omega
      · simp [hp, hq]; exact h1
theorem seen_mono {cs : List Crowd} (h0 : ∀ c ∈ cs, 0 ≤ c.1) {a b a' b' : Int} (h : ∀ c ∈ cs, ∀ p ∈ c.2, p.1 ≤ b → a ≤ p.2 → p.1 ≤ b' ∧ a' ≤ p.2) : seenIn cs a b ≤ seenIn cs a' b' := by
  refine sum_mono h0 fun c hc he => ?_
  simp only [hereIn, List.any_eq_true, Bool.and_eq_true, decide_eq_true_eq] at he ⊢
  obtain ⟨p, hp, h1, h2⟩ := he
  exact ⟨p, hp, h c hc p hp h1 h2⟩
theorem max_exists : ∀ {l : List Int}, l ≠ [] → ∃ m ∈ l, ∀ x ∈ l, x ≤ m := fun h => by
  obtain ⟨M, -, h1, h2⟩ := maxI_max h
  exact ⟨M, h1, h2⟩
structure Cr (E : Int) (cs : List Crowd) : Prop where
  nn : ∀ c ∈ cs, 0 ≤ c.1
  ok : ∀ c ∈ cs, ∀ p ∈ c.2, 1 ≤ p.1 ∧ p.1 ≤ p.2 ∧ p.2 ≤ E
  some : ∃ c ∈ cs, ∃ p ∈ c.2, (p : Span) = p
def startsOf (cs : List Crowd) (g : Int) : List (Int × Int) := cs.flatMap fun c => c.2.map fun p => (p.1, seenIn cs (p.1 - g) p.1)
def daysOf (cs : List Crowd) (g E : Int) : List Int := (List.range E.toNat).map fun (i : Nat) => seenIn cs (max 1 (1 + (i : Int) - g)) (1 + (i : Int))
end Sv

set_option Elab.async false
set_option linter.all false
set_option maxRecDepth 100000
set_option maxHeartbeats 1000000
namespace Sv
inductive Kind | win (g : Int) | rank (r : Int) | day (j : Int) | sum | mean deriving DecidableEq
def tWin : Tx := [119, 105, 110, 100, 111, 119]
def tRank : Tx := [114, 97, 110, 107]
def tDay : Tx := [100, 97, 121]
def tSum : Tx := [115, 117, 109]
def tMean : Tx := [109, 101, 97, 110]
def kindD : Kind → D
  | .win g => .tup [.str tWin, .int g] | .rank g => .tup [.str tRank, .int g] | .day g => .tup [.str tDay, .int g] | .sum => .tup [.str tSum] | .mean => .tup [.str tMean]
def fitsB (P : Int) : Kind → Bool
  | .win g => decide (0 ≤ g) && decide (g ≤ P - 1) | .rank g => decide (2 ≤ g) && decide (g ≤ P) | .day g => decide (1 ≤ g) && decide (g ≤ P) | .sum => true | .mean => true
@[simp] theorem kindD_nr (c : Kind) : (kindD c).noRef = true := by cases c <;> rfl
@[simp] theorem kindD_da (c : Kind) : (kindD c).isData = true := by cases c <;> rfl
@[simp] theorem kindD_dp (c : Kind) : (kindD c).dep = 1 := by cases c <;> rfl
theorem kindD_eqv (a b : Kind) : D.eqv (kindD a) (kindD b) = decide (a = b) := by
  cases a <;> cases b <;> simp [kindD, D.eqv, D.eqvL, tWin, tRank, tDay, tSum, tMean] <;> rfl
theorem kindD_ok (c : Kind) : (kindD c).dataOk = true := dataOk_of (by simp) (by simp)
@[simp] theorem cmp_kind (G : Prog) (cl : CallT) (a b : Kind) (w : W) : cmpF G cl .eq (kindD a) (kindD b) w = .ok (.bl (decide (a = b))) w := by rw [cmp_eq (kindD_ok a) (kindD_ok b), kindD_eqv]
@[simp] theorem cmp_kindN (G : Prog) (cl : CallT) (a b : Kind) (w : W) : cmpF G cl .ne (kindD a) (kindD b) w = .ok (.bl (!decide (a = b))) w := by rw [cmp_ne (kindD_ok a) (kindD_ok b), kindD_eqv]
theorem fits_eq (k : Nat) (c : Kind) (P : Int) (w : W) : run G (k + 3) 59 [kindD c, .int P] w = .ok (.bl (fitsB P c)) w := by
  rw [r59, b59]
  have hb : ∀ s w, run G (k + 2) 61 [.str s, .int P] w = .ok (if s = tWin then .tup [.int 0, .int (P - 1)] else if s = tRank then .tup [.int 2, .int P] else if s = tDay then .tup [.int 1, .int P] else .non) w := fun s w => by
    rw [r61, b61]
    by_cases h1 : s = tWin
    · subst h1; simp [tWin]
    · by_cases h2 : s = tRank
      · subst h2; simp [tWin, tRank]
      · by_cases h3 : s = tDay
        · subst h3; simp [tWin, tRank, tDay]
        · have h1' := h1; have h2' := h2; have h3' := h3
          simp only [tWin, tRank, tDay] at h1' h2' h3'
          simp [h1, h2, h3, h1', h2', h3']
  have hin : ∀ s, cmpop .in (.str s) (.tup [.str [115, 117, 109], .str [109, 101, 97, 110]]) = some (decide ([115, 117, 109] = s) || decide ([109, 101, 97, 110] = s)) := fun s => by
    rw [in_tup rfl rfl]; simp
  have hn : ∀ i, cmpop .nin (.int i) (.tup [.int 1, .int 2]) = some (!(decide (1 = i) || decide (2 = i))) := fun s => by
    rw [nin_tupD rfl rfl]; simp
  cases c with
  | win g => simp [kindD, hb, hn, fitsB]
  | rank g => simp [kindD, hb, hn, fitsB, tWin, tRank]
  | day g => simp [kindD, hb, hn, fitsB, tWin, tRank, tDay]
  | sum => simp [kindD, fitsB, hn, hin, tSum]
  | mean => simp [kindD, fitsB, hn, hin, tMean]
theorem check_count_ok {k : Nat} {c : Kind} {P : Int} {w : W} (h : fitsB P c = true) : run G (k + 4) 55 [kindD c, .int P] w = .ok .non w := by
  rw [r55, b55]; simp [fits_eq, h]
end Sv

set_option Elab.async false
set_option linter.all false
set_option maxRecDepth 100000
set_option maxHeartbeats 1000000
namespace Sv
def upI (a b : Int) : Int := -((-a) / b)
theorem upI_spec {a b : Int} (hb : 0 < b) : (upI a b - 1) * b < a ∧ a ≤ upI a b * b := by
  unfold upI
  have h1 := Int.emod_nonneg (-a) (show b ≠ 0 by omega)
  have h2 := Int.emod_lt_of_pos (-a) hb
  have h3 := Int.emod_add_mul_ediv (-a) b
  have e : (-(-a / b) - 1) * b = -(b * (-a / b)) - b := by rw [Int.sub_mul, Int.neg_mul, Int.mul_comm]; omega
  have e2 : -(-a / b) * b = -(b * (-a / b)) := by rw [Int.neg_mul, Int.mul_comm]
  rw [e, e2]; omega
def capI : Option Int → Option Int → Option Int
  | none, p => p | some n, none => some n | some n, some p => some (min n p)
def fromWin (P : Int) (pp : Option Int) (b n : Int) : Kind → Int × Option Int
  | .win g => if b ≤ g then (n, capI (some (upI (g + 1) (b + 1) * n)) pp) else (upI n (upI (b + 1) (g + 1)), some n)
  | .sum => (n, some (P * n)) | _ => (0, some n)
def fromRank (P : Int) (pp : Option Int) (r n : Int) : Kind → Int × Option Int
  | .win _ => (n, pp) | .rank s => if s < r then (n, pp) else (0, some n)
  | .day _ => (if r = P then n else 0, pp) | _ => (r * n, pp.map fun p => (r - 1) * p + (P - r + 1) * n)
def fromDay (P : Int) (pp : Option Int) (n : Int) : Kind → Int × Option Int
  | .win _ => (n, pp) | .rank s => (0, if s = P then some n else pp) | .day _ => (0, pp) | _ => (n, pp.map fun p => n + (P - 1) * p)
def lowI (pp : Option Int) (f : Int → Int) : Int := match pp with | none => 0 | some p => max 0 (f p)
def fromSum (P : Int) (pp : Option Int) (n : Int) : Kind → Int × Option Int
  | .win _ => (upI n P, capI (some n) pp)
  | .rank r => (lowI pp fun p => upI (n - (r - 1) * p) (P - r + 1), capI (some (n / r)) pp)
  | _ => (lowI pp fun p => n - (P - 1) * p, capI (some n) pp)
def plainN (P : Int) (pp : Option Int) (n : Int) (a : Kind) : Kind → Int × Option Int
  | .win b => fromWin P pp b n a | .rank r => fromRank P pp r n a | .day _ => fromDay P pp n a | _ => fromSum P pp n a
def plainR (P : Int) (pp : Option Int) (c : Kind) (n : Int) (a : Kind) : Int × Option Int := if a = c then (n, some n) else plainN P pp n a c
def sumsI (P : Int) (pp : Option Int) (n : Int) : Int × Int := (if 0 < n then (n - 1) * P + 1 else 0, match pp with | none => n * P | some p => min (n * P) (p * P))
def rangeR (P : Int) (pp : Option Int) (c : Kind) (n : Int) (a : Kind) : Int × Option Int :=
  if a = .mean then (if c = .mean then (n, some n) else (upI (plainR P pp c n .sum).1 P, (plainR P pp c n .sum).2.map fun m => upI m P))
  else if c = .mean then ((plainR P pp .sum (sumsI P pp n).1 a).1, (plainR P pp .sum (sumsI P pp n).2 a).2) else plainR P pp c n a
def topI (P : Int) (pp : Option Int) (c : Kind) : Option Int := pp.map fun p => if c = .sum then p * P else p
def endsD (r : Int × Option Int) : D := .tup [.int r.1, optI r.2]
@[simp] theorem cmp_word {G : Prog} {cl : CallT} {w : W} (s t : Tx) : cmpF G cl .eq (.str s) (.str t) w = .ok (.bl (decide (s = t))) w := cmpF_eqT G cl w s t
@[simp] theorem up_eq (k : Nat) (a b : Int) (w : W) (hb : 0 < b) (hb2 : b < 18446744073709551616) : run G (k + 1) 77 [.int a, .int b] w = .ok (.int (upI a b)) w := by
  rw [r77, b77]; simp [hb, hb2, upI]
@[simp] theorem is_optN (o : Option Int) : cmpop .is (optI o) .non = some o.isNone := by cases o <;> rfl
@[simp] theorem isn_optN (o : Option Int) : cmpop .isn (optI o) .non = some (!o.isNone) := by cases o <;> rfl
@[simp] theorem capped_eq (k : Nat) (a b : Option Int) (w : W) : run G (k + 1) 117 [optI a, optI b] w = .ok (optI (capI a b)) w := by
  rw [r117, b117]; cases a <;> cases b <;> simp [optI, capI]
@[simp] theorem capped_some (k : Nat) (a : Int) (b : Option Int) (w : W) : run G (k + 1) 117 [.int a, optI b] w = .ok (optI (capI (some a) b)) w := capped_eq k (some a) b w
@[simp] theorem capped_in (k : Nat) (a : Int) (w : W) : run G (k + 1) 117 [.int a, .non] w = .ok (.int a) w := capped_eq k (some a) none w
@[simp] theorem capped_ii (k : Nat) (a b : Int) (w : W) : run G (k + 1) 117 [.int a, .int b] w = .ok (.int (min a b)) w := capped_eq k (some a) (some b) w
structure KOk (P : Int) (c : Kind) : Prop where
  p : 2 ≤ P ∧ P ≤ 62
  f : fitsB P c = true
theorem KOk.win {P g : Int} (h : KOk P (.win g)) : 0 ≤ g ∧ g ≤ P - 1 := by simpa [fitsB] using h.f
theorem KOk.rank {P g : Int} (h : KOk P (.rank g)) : 2 ≤ g ∧ g ≤ P := by simpa [fitsB] using h.f
theorem KOk.day {P g : Int} (h : KOk P (.day g)) : 1 ≤ g ∧ g ≤ P := by simpa [fitsB] using h.f
theorem KOk.sum {P : Int} (h : 2 ≤ P ∧ P ≤ 62) : KOk P .sum := ⟨h, rfl⟩
@[simp] theorem endsD_0 (w : W) (r : Int × Option Int) : subF w (endsD r) (.int 0) = some (.int r.1) := rfl
@[simp] theorem endsD_1 (w : W) (r : Int × Option Int) : subF w (endsD r) (.int 1) = some (optI r.2) := rfl
theorem check_days_ok {k : Nat} {P : Int} {w : W} (hp : 2 ≤ P ∧ P ≤ 62) : run G (k + 4) 71 [.int P] w = .ok .non w := by
  rw [r71, b71]
  have : ∀ w, run G (k + 3) 73 [.int P] w = .ok (.bl true) w := fun w => by
    rw [r73, b73]; simp [hp]
  simp [this]
def crowdOk (pp : Option Int) : Prop := ∀ p, pp = some p → 1 ≤ p ∧ p ≤ 10 ^ 30
def numOk (P : Int) (pp : Option Int) (c : Kind) (n : Int) : Prop := 0 ≤ n ∧ n ≤ (topI P pp c).getD (10 ^ 45)
end Sv

set_option Elab.async false
set_option linter.all false
set_option maxRecDepth 100000
set_option maxHeartbeats 1000000
namespace Sv
def expand (l : List (Int × Int)) : List Int := l.flatMap fun p => List.replicate p.1.toNat p.2
def dailyL (cs : List Crowd) (first : Int) (n : Nat) : List Int := (List.range n).map fun (i : Nat) => seenIn cs (first + (i : Int)) (first + (i : Int))
def maxO (l : List Int) : Int := (maxI l).getD 0
theorem maxO_is {l : List Int} (h : l ≠ []) : IsMax (maxO l) l := by
  obtain ⟨M, h1, h2⟩ := maxI_max h
  unfold maxO; rw [h1]; exact h2
def ofDays (daily : List Int) (P : Int) : Kind → Int
  | .win _ => 0 | .day j => (daily[(j - 1).toNat]?).getD 0 | .rank r => ((daily.mergeSort (· ≤ ·))[(P - r).toNat]?).getD 0 | .sum => daily.sum | .mean => upI daily.sum P
def countAt (cs : List Crowd) (c : Kind) (P t : Int) : Int := match c with
  | .win g => maxO ((List.range (P - g).toNat).map fun (i : Nat) => seenIn cs ((t - 1) * P + 1 + (i : Int)) ((t - 1) * P + 1 + (i : Int) + g))
  | c => ofDays (dailyL cs ((t - 1) * P + 1) P.toNat) P c
def winEnds (cs : List Crowd) (g first last : Int) : List Int := (first + g) :: cs.flatMap fun c => (c.2.filter fun p => decide (first + g < p.1) && decide (p.1 ≤ last)).map Prod.fst
theorem win_eq {cs : List Crowd} (h0 : ∀ c ∈ cs, 0 ≤ c.1) {g first last : Int} {n : Nat} (hg : 0 ≤ g) (hn : last = first + g + (n : Int)) : maxO ((winEnds cs g first last).map fun e => seenIn cs (e - g) e) = maxO ((List.range (n + 1)).map fun (i : Nat) => seenIn cs (first + (i : Int)) (first + (i : Int) + g)) := by
  have m1 := maxO_is (l := (winEnds cs g first last).map fun e => seenIn cs (e - g) e) (by simp [winEnds])
  have m2 := maxO_is (l := (List.range (n + 1)).map fun (i : Nat) => seenIn cs (first + (i : Int)) (first + (i : Int) + g)) (by simp)
  refine m1.uniq m2 (fun x hx => ?_) fun x hx => ?_
  · obtain ⟨e, he, rfl⟩ := List.mem_map.mp hx
    have hr : first + g ≤ e ∧ e ≤ last := by
      simp only [winEnds, List.mem_cons, List.mem_flatMap, List.mem_map, List.mem_filter, Bool.and_eq_true, decide_eq_true_eq] at he
      rcases he with rfl | ⟨c, hc, p, ⟨hp, h1, h2⟩, rfl⟩ <;> omega
    refine m2.2 _ (List.mem_map.mpr ⟨(e - first - g).toNat, List.mem_range.mpr (by omega), ?_⟩)
    have : (((e - first - g).toNat : Nat) : Int) = e - first - g := by omega
    rw [this]; congr 1 <;> omega
  · obtain ⟨i, hi, rfl⟩ := List.mem_map.mp hx
    rw [List.mem_range] at hi
    obtain ⟨m, hm, hmax⟩ := max_exists (l := (winEnds cs g first last).filter fun x => decide (x ≤ first + i + g)) (by
      intro z
      have : first + g ∈ (winEnds cs g first last).filter fun x => decide (x ≤ first + i + g) := by
        simp only [List.mem_filter, decide_eq_true_eq]
        exact ⟨by simp [winEnds], by omega⟩
      rw [z] at this; simp at this)
    simp only [List.mem_filter, decide_eq_true_eq] at hm
    refine Int.le_trans (seen_mono h0 (a' := m - g) (b' := m) fun c hc p hp h1 h2 => ⟨?_, by omega⟩) (m1.2 _ (List.mem_map.mpr ⟨m, hm.1, rfl⟩))
    by_cases hpf : first + g < p.1
    · refine hmax _ (List.mem_filter.mpr ⟨?_, by simp; omega⟩)
      simp only [winEnds, List.mem_cons, List.mem_flatMap, List.mem_map, List.mem_filter, Bool.and_eq_true, decide_eq_true_eq]
      exact .inr ⟨c, hc, p, ⟨hp, hpf, by omega⟩, rfl⟩
    · have := hmax (first + g) (List.mem_filter.mpr ⟨by simp [winEnds], by simp; omega⟩)
      omega
def insK (ks : List Int) (k : Int) : List Int := if k ∈ ks then ks else ks ++ [k]
theorem insK_mem {ks : List Int} {k x : Int} : x ∈ insK ks k ↔ x ∈ ks ∨ x = k := by
  unfold insK
  split
  · rename_i h
    exact ⟨.inl, fun z => z.elim id fun e => e ▸ h⟩
  · simp
theorem insK_nd {ks : List Int} {k : Int} (h : ks.Nodup) : (insK ks k).Nodup := by
  unfold insK
  split
  · exact h
  · rename_i hk
    rw [List.nodup_append]
    exact ⟨h, by simp, fun a ha b hb => by simp at hb; subst hb; exact fun z => hk (z ▸ ha)⟩
theorem insK_len {ks : List Int} {k : Int} : (insK ks k).length ≤ ks.length + 1 := by
  unfold insK; split <;> simp
def kvT (k : Int) : D × D := (.int k, .bl true)
theorem putM_ins (k : Int) (ks : List Int) : putM (.int k) (.bl true) (ks.map kvT) = (insK ks k).map kvT := by
  have hany : ((ks.map kvT).any fun p => D.eqv p.1 (.int k)) = decide (k ∈ ks) := by
    induction ks with
    | nil => rfl
    | cons a r ih =>
      rw [List.map_cons, List.any_cons, ih]
      by_cases h : a = k
      · subst h; simp [kvT, D.eqv]
      · have h' : ¬ k = a := fun z => h z.symm
        simp [kvT, D.eqv, h, h']
  unfold putM insK
  rw [hany]
  by_cases h : k ∈ ks
  · simp only [h, decide_true, if_true]
    rw [List.map_map]
    refine List.map_congr_left fun a ha => ?_
    by_cases e : a = k
    · simp [kvT, D.eqv, e]
    · simp [kvT, D.eqv, e]
  · simp [h, kvT]
def beginsP (ks : List Int) (p : Span) : List Int := insK (insK ks p.1) (p.2 + 1)
def beginsC (ks : List Int) (c : Crowd) : List Int := c.2.foldl beginsP ks
def begins (cs : List Crowd) (first : Int) : List Int := cs.foldl beginsC [first]
theorem beginsC_mem {c : Crowd} {ks : List Int} {x : Int} : x ∈ beginsC ks c ↔ x ∈ ks ∨ ∃ p ∈ c.2, x = p.1 ∨ x = p.2 + 1 := by
  obtain ⟨n, l⟩ := c
  unfold beginsC
  simp only
  induction l generalizing ks with
  | nil => simp
  | cons p r ih =>
    rw [List.foldl_cons, ih]
    simp only [beginsP, insK_mem, List.mem_cons, exists_eq_or_imp]
    constructor
    · rintro (((h | h) | h) | h)
      · exact .inl h
      · exact .inr (.inl (.inl h))
      · exact .inr (.inl (.inr h))
      · exact .inr (.inr h)
    · rintro (h | (h | h) | h)
      · exact .inl (.inl (.inl h))
      · exact .inl (.inl (.inr h))
      · exact .inl (.inr h)
      · exact .inr h
theorem begins_mem' {cs : List Crowd} {ks : List Int} {x : Int} : x ∈ cs.foldl beginsC ks ↔ x ∈ ks ∨ ∃ c ∈ cs, ∃ p ∈ c.2, x = p.1 ∨ x = p.2 + 1 := by
  induction cs generalizing ks with
  | nil => simp
  | cons c r ih =>
    rw [List.foldl_cons, ih, beginsC_mem]
    simp only [List.mem_cons, exists_eq_or_imp]
    constructor
    · rintro ((h | h) | h)
      · exact .inl h
      · exact .inr (.inl h)
      · exact .inr (.inr h)
    · rintro (h | h | h)
      · exact .inl (.inl h)
      · exact .inl (.inr h)
      · exact .inr h
theorem begins_mem {cs : List Crowd} {first x : Int} : x ∈ begins cs first ↔ x = first ∨ ∃ c ∈ cs, ∃ p ∈ c.2, x = p.1 ∨ x = p.2 + 1 := by
  unfold begins; rw [begins_mem']; simp
theorem beginsC_nd {c : Crowd} {ks : List Int} (h : ks.Nodup) : (beginsC ks c).Nodup := by
  obtain ⟨n, l⟩ := c
  unfold beginsC
  simp only
  induction l generalizing ks with
  | nil => exact h
  | cons p r ih => rw [List.foldl_cons]; exact ih (insK_nd (insK_nd h))
theorem begins_nd {cs : List Crowd} {first : Int} : (begins cs first).Nodup := by
  unfold begins
  have : ∀ (l : List Crowd) (ks : List Int), ks.Nodup → (l.foldl beginsC ks).Nodup := by
    intro l
    induction l with
    | nil => exact fun _ h => h
    | cons c r ih => intro ks h; rw [List.foldl_cons]; exact ih _ (beginsC_nd h)
  exact this cs [first] (by simp)
theorem beginsP_len (ks : List Int) (p : Span) : (beginsP ks p).length ≤ ks.length + 2 := by
  have := insK_len (ks := insK ks p.1) (k := p.2 + 1)
  have := insK_len (ks := ks) (k := p.1)
  unfold beginsP; omega
theorem beginsC_len (ks : List Int) (l : List Span) : (l.foldl beginsP ks).length ≤ ks.length + 2 * l.length := by
  induction l generalizing ks with
  | nil => simp
  | cons p r ih =>
    have := ih (beginsP ks p)
    have := beginsP_len ks p
    simp only [List.foldl_cons, List.length_cons]; omega
theorem begins_len (cs : List Crowd) (ks : List Int) {m : Nat} (h : ∀ c ∈ cs, c.2.length ≤ m) : (cs.foldl beginsC ks).length ≤ ks.length + 2 * m * cs.length := by
  induction cs generalizing ks with
  | nil => simp
  | cons c r ih =>
    have h1 := ih (beginsC ks c) fun c hc => h c (by simp [hc])
    have h2 := beginsC_len ks c.2
    have h3 := h c (by simp)
    simp only [List.foldl_cons, List.length_cons]
    unfold beginsC at h1 ⊢
    have h4 : 2 * m * (r.length + 1) = 2 * m * r.length + 2 * m := by rw [Nat.mul_add, Nat.mul_one]
    omega
def sdays (cs : List Crowd) (first last : Int) : List Int := ((begins cs first).filter fun d => decide (first ≤ d) && decide (d ≤ last)).mergeSort (· ≤ ·)
def stretchD (l : List Int) (last : Int) (f : Int → Int) : List (Int × Int) := (l.zip (l.drop 1 ++ [last + 1])).map fun p => (p.2 - p.1, f p.1)
def stretches (cs : List Crowd) (first last : Int) : List (Int × Int) := stretchD (sdays cs first last) last fun d => seenIn cs d d
theorem sdays_mem {cs : List Crowd} {first last x : Int} : x ∈ sdays cs first last ↔ (x = first ∨ ∃ c ∈ cs, ∃ p ∈ c.2, x = p.1 ∨ x = p.2 + 1) ∧ first ≤ x ∧ x ≤ last := by
  unfold sdays
  rw [List.mem_mergeSort, List.mem_filter, begins_mem]
  simp
theorem sdays_asc {cs : List Crowd} {first last : Int} : (sdays cs first last).Pairwise (· < ·) := by
  have h1 : (sdays cs first last).Pairwise (fun a b => decide (a ≤ b) = true) := List.pairwise_mergeSort (le := fun a b => decide (a ≤ b)) (fun a b c h1 h2 => by simp at *; omega) (fun a b => by simp; omega) _
  have h2 : (sdays cs first last).Nodup := (List.mergeSort_perm _ _).nodup_iff.mpr (begins_nd.filter _)
  have := h1.and h2
  exact this.imp fun {a b} h => by have := h.1; have := h.2; simp at *; omega
theorem seen_const {cs : List Crowd} {d e : Int} (hde : d ≤ e) (h : ∀ c ∈ cs, ∀ p ∈ c.2, ¬ (d < p.1 ∧ p.1 ≤ e) ∧ ¬ (d < p.2 + 1 ∧ p.2 + 1 ≤ e)) : seenIn cs e e = seenIn cs d d := by
  unfold seenIn
  have : cs.filter (fun c => hereIn c.2 e e) = cs.filter (fun c => hereIn c.2 d d) := by
    refine List.filter_congr fun c hc => ?_
    unfold hereIn
    rw [Bool.eq_iff_iff, List.any_eq_true, List.any_eq_true]
    constructor
    · rintro ⟨p, hp, z⟩
      refine ⟨p, hp, ?_⟩
      have := h c hc p hp
      simp only [Bool.and_eq_true, decide_eq_true_eq] at z ⊢
      omega
    · rintro ⟨p, hp, z⟩
      refine ⟨p, hp, ?_⟩
      have := h c hc p hp
      simp only [Bool.and_eq_true, decide_eq_true_eq] at z ⊢
      omega
  rw [this]
theorem range_split (a b : Nat) (f : Nat → Int) : (List.range (a + b)).map f = (List.range a).map f ++ (List.range b).map fun i => f (a + i) := by
  rw [List.range_add, List.map_append, List.map_map]; rfl
theorem stretch_expand {f : Int → Int} {last : Int} : ∀ {l : List Int} {a : Int}, (a :: l).Pairwise (· < ·) → (∀ x ∈ a :: l, x ≤ last) → (∀ d e, a ≤ d → d ≤ e → e ≤ last → (∀ x ∈ l, ¬ (d < x ∧ x ≤ e)) → f e = f d) →
    expand (stretchD (a :: l) last f) = (List.range (last + 1 - a).toNat).map fun (i : Nat) => f (a + (i : Int))
  | [], a, _, hl, hc => by
    have := hl a (by simp)
    simp only [stretchD, List.drop_succ_cons, List.drop_zero, List.nil_append, List.zip_cons_cons, List.zip_nil_left, List.map_cons, List.map_nil, expand, List.flatMap_cons, List.flatMap_nil, List.append_nil]
    refine List.ext_getElem (by simp) fun i h1 h2 => ?_
    simp at h1 ⊢
    exact (hc a (a + i) (by omega) (by omega) (by omega) (by simp)).symm
  | b :: l, a, hp, hl, hc => by
    have hab : a < b := by rw [List.pairwise_cons] at hp; exact hp.1 b (by simp)
    have hp2 : (b :: l).Pairwise (· < ·) := by rw [List.pairwise_cons] at hp; exact hp.2
    have hbl : b ≤ last := hl b (by simp)
    have ih := stretch_expand (f := f) hp2 (fun x hx => hl x (by simp at hx ⊢; exact .inr hx)) fun d e h1 h2 h3 h4 => hc d e (by omega) h2 h3 fun x hx => by
      simp only [List.mem_cons] at hx
      rcases hx with rfl | hx
      · omega
      · exact h4 x hx
    have e1 : stretchD (a :: b :: l) last f = (b - a, f a) :: stretchD (b :: l) last f := by simp [stretchD]
    rw [e1]
    have e2 : expand ((b - a, f a) :: stretchD (b :: l) last f) = List.replicate (b - a).toNat (f a) ++ expand (stretchD (b :: l) last f) := by simp [expand]
    rw [e2, ih]
    have e3 : (last + 1 - a).toNat = (b - a).toNat + (last + 1 - b).toNat := by omega
    rw [e3, range_split]
    congr 1
    · refine List.ext_getElem (by simp) fun i h1 h2 => ?_
      simp at h1 ⊢
      refine (hc a (a + i) (by omega) (by omega) (by omega) fun x hx => ?_).symm
      simp only [List.mem_cons] at hx
      rw [List.pairwise_cons] at hp2
      rcases hx with rfl | hx
      · omega
      · have := hp2.1 x hx; omega
    · refine List.map_congr_left fun i _ => ?_
      congr 1; omega
theorem stretch_daily {cs : List Crowd} {first : Int} {n : Nat} (hn : 1 ≤ n) : expand (stretches cs first (first + n - 1)) = dailyL cs first n := by
  have hf : first ∈ sdays cs first (first + n - 1) := sdays_mem.mpr ⟨.inl rfl, by omega, by omega⟩
  have hasc := sdays_asc (cs := cs) (first := first) (last := first + n - 1)
  unfold stretches
  cases hs : sdays cs first (first + n - 1) with
  | nil => rw [hs] at hf; simp at hf
  | cons a l =>
    rw [hs] at hasc hf
    have ha : a = first := by
      have h1 := (sdays_mem (x := a).mp (by rw [hs]; simp)).2.1
      rw [List.mem_cons] at hf
      rcases hf with h | h
      · exact h.symm
      · rw [List.pairwise_cons] at hasc
        have := hasc.1 _ h; omega
    rw [stretch_expand (f := fun d => seenIn cs d d) hasc (fun x hx => (sdays_mem.mp (by rw [hs]; exact hx)).2.2) ?_]
    · unfold dailyL
      rw [ha, show (first + (n : Int) - 1 + 1 - first).toNat = n by omega]
    · intro d e h1 h2 h3 h4
      refine seen_const h2 fun c hc p hp => ?_
      have key : ∀ x, (x = p.1 ∨ x = p.2 + 1) → ¬ (d < x ∧ x ≤ e) := fun x hx z => by
        have hm : x ∈ sdays cs first (first + n - 1) := sdays_mem.mpr ⟨.inr ⟨c, hc, p, hp, hx⟩, by omega, by omega⟩
        rw [hs, List.mem_cons] at hm
        rcases hm with rfl | hm
        · omega
        · exact h4 x hm z
      exact ⟨key _ (.inl rfl), key _ (.inr rfl)⟩
theorem stretch_pos {cs : List Crowd} {first last : Int} : ∀ p ∈ stretches cs first last, 0 ≤ p.1 := by
  have key : ∀ (l : List Int), l.Pairwise (· < ·) → (∀ x ∈ l, x ≤ last) → ∀ p ∈ stretchD l last fun d => seenIn cs d d, 0 ≤ p.1 := by
    intro l
    induction l with
    | nil => intro _ _ p hp; simp [stretchD] at hp
    | cons a r ih =>
      intro h1 h2 p hp
      rw [List.pairwise_cons] at h1
      cases r with
      | nil =>
        simp [stretchD] at hp
        subst hp
        have := h2 a (by simp); simp only; omega
      | cons b r =>
        have e1 : stretchD (a :: b :: r) last (fun d => seenIn cs d d) = (b - a, seenIn cs a a) :: stretchD (b :: r) last (fun d => seenIn cs d d) := by simp [stretchD]
        rw [e1, List.mem_cons] at hp
        rcases hp with rfl | hp
        · have := h1.1 b (by simp); simp only; omega
        · exact ih h1.2 (fun x hx => h2 x (by simp at hx ⊢; exact .inr hx)) p hp
  exact key _ sdays_asc fun x hx => (sdays_mem.mp hx).2.2
def rankOf : List (Int × Int) → Int → Int
  | [], _ => 0
  | (m, x) :: r, left => if left - m ≤ 0 then x else rankOf r (left - m)
theorem rankOf_eq : ∀ {l : List (Int × Int)} {left : Int}, (∀ p ∈ l, 0 ≤ p.1) → 1 ≤ left → rankOf l left = ((expand l)[(left - 1).toNat]?).getD 0
  | [], _, _, _ => by simp [rankOf, expand]
  | (m, x) :: r, left, h, hl => by
    have hm := h (m, x) (by simp)
    simp only at hm
    have e2 : expand ((m, x) :: r) = List.replicate m.toNat x ++ expand r := by simp [expand]
    rw [e2]
    unfold rankOf
    by_cases hc : left - m ≤ 0
    · rw [if_pos hc, List.getElem?_append_left (by simp; omega), List.getElem?_replicate, if_pos (by omega)]; rfl
    · rw [if_neg hc, List.getElem?_append_right (by simp; omega), rankOf_eq (fun p hp => h p (by simp [hp])) (by omega)]
      congr 2
      simp; omega
def descP (l : List (Int × Int)) : List (Int × Int) := l.mergeSort fun p q => decide (q.2 ≤ p.2)
theorem descP_perm (l : List (Int × Int)) : (descP l).Perm l := List.mergeSort_perm _ _
theorem expand_perm {l m : List (Int × Int)} (h : l.Perm m) : (expand l).Perm (expand m) := h.flatMap_right _
theorem descP_desc (l : List (Int × Int)) : (expand (descP l)).Pairwise fun a b => b ≤ a := by
  have h1 : (descP l).Pairwise (fun p q => decide (q.2 ≤ p.2) = true) := List.pairwise_mergeSort (le := fun p q : Int × Int => decide (q.2 ≤ p.2)) (fun a b c h1 h2 => by simp at *; omega) (fun a b => by simp; omega) _
  generalize descP l = m at h1
  induction m with
  | nil => simp [expand]
  | cons p r ih =>
    rw [List.pairwise_cons] at h1
    have e2 : expand (p :: r) = List.replicate p.1.toNat p.2 ++ expand r := by simp [expand]
    rw [e2, List.pairwise_append]
    refine ⟨?_, ih h1.2, fun a ha b hb => ?_⟩
    · rw [List.pairwise_replicate]; exact .inr (Int.le_refl _)
    · have := List.eq_of_mem_replicate ha; subst this
      simp only [expand, List.mem_flatMap] at hb
      obtain ⟨q, hq, hb⟩ := hb
      have := List.eq_of_mem_replicate hb; subst this
      have := h1.1 q hq; simpa using this
theorem sorted_rev {d a : List Int} (hp : d.Perm a) (hd : d.Pairwise fun a b => b ≤ a) : a.mergeSort (· ≤ ·) = d.reverse := by
  have h1 : (a.mergeSort (· ≤ ·)).Pairwise (fun a b => decide (a ≤ b) = true) := List.pairwise_mergeSort (le := fun a b => decide (a ≤ b)) (fun a b c h1 h2 => by simp at *; omega) (fun a b => by simp; omega) _
  have h2 : d.reverse.Pairwise (fun a b => decide (a ≤ b) = true) := by rw [List.pairwise_reverse]; exact hd.imp fun h => by simpa using h
  exact List.Perm.eq_of_pairwise (fun a b _ _ h1 h2 => by simp at *; omega) h1 h2 ((List.mergeSort_perm _ _).trans (hp.symm.trans (List.reverse_perm _).symm))
theorem rank_daily {cs : List Crowd} {first r : Int} {n : Nat} (hn : 1 ≤ n) (hr : 1 ≤ r) (hr2 : r ≤ n) : rankOf (descP (stretches cs first (first + n - 1))) r = (((dailyL cs first n).mergeSort (· ≤ ·))[((n : Int) - r).toNat]?).getD 0 := by
  have hp : (expand (descP (stretches cs first (first + n - 1)))).Perm (dailyL cs first n) := by
    rw [← stretch_daily hn]; exact expand_perm (descP_perm _)
  rw [rankOf_eq (fun p hp => stretch_pos p ((descP_perm _).mem_iff.mp hp)) hr, sorted_rev hp (descP_desc _)]
  have hl : (expand (descP (stretches cs first (first + n - 1)))).length = n := by rw [hp.length_eq]; simp [dailyL]
  rw [List.getElem?_reverse (by omega), hl]
  congr 2; omega
theorem expand_sum (l : List (Int × Int)) (h : ∀ p ∈ l, 0 ≤ p.1) : (expand l).sum = (l.map fun p => p.1 * p.2).sum := by
  induction l with
  | nil => rfl
  | cons p r ih =>
    have e2 : expand (p :: r) = List.replicate p.1.toNat p.2 ++ expand r := by simp [expand]
    rw [e2, List.sum_append, ih fun q hq => h q (by simp [hq])]
    simp only [List.map_cons, List.sum_cons]
    congr 1
    have := h p (by simp)
    have : ∀ n : Nat, (List.replicate n p.2).sum = (n : Int) * p.2 := by
      intro n
      induction n with
      | zero => simp
      | succ n ih => rw [List.replicate_succ, List.sum_cons, ih, Int.natCast_succ, Int.add_mul]; omega
    rw [this, Int.toNat_of_nonneg (by omega)]
end Sv

set_option Elab.async false
set_option linter.all false
set_option maxRecDepth 100000
set_option maxHeartbeats 1000000
namespace Sv
theorem winEnds_len {cs : List Crowd} {g first last : Int} {m : Nat} (h : ∀ c ∈ cs, c.2.length ≤ m) : (winEnds cs g first last).length ≤ 1 + m * cs.length := by
  unfold winEnds
  rw [List.length_cons]
  have : ∀ l : List Crowd, (∀ c ∈ l, c.2.length ≤ m) → (l.flatMap fun c => (c.2.filter fun p => decide (first + g < p.1) && decide (p.1 ≤ last)).map Prod.fst).length ≤ m * l.length := by
    intro l
    induction l with
    | nil => intro _; simp
    | cons c r ih =>
      intro hl
      have h1 := ih fun c hc => hl c (by simp [hc])
      have h2 := hl c (by simp)
      have h3 := List.length_filter_le (fun p : Span => decide (first + g < p.1) && decide (p.1 ≤ last)) c.2
      simp only [List.flatMap_cons, List.length_append, List.length_map, List.length_cons]
      rw [Nat.mul_add]; omega
  have := this cs h
  omega
theorem bi_maxO (G : Prog) (w : W) {α : Type} (l : List α) (f : α → Int) (h : l ≠ []) : biF G .max [.lst (l.map fun a => .int (f a))] w = .ok (.int (maxO (l.map f))) w := by
  obtain ⟨M, h1, h2⟩ := maxI_max (l := l.map f) (by simpa using h)
  simp [biF, intsD_map, h1, R.lift, maxO]
theorem most_in_windows_eq (k : Nat) (cs : List Crowd) (g first last : Int) (w : W) (hl : cs.length ≤ 1000) (hs : ∀ c ∈ cs, c.2.length ≤ 1000) :
    run G (k + 2) 74 [.lst (cs.map crowdD), .int g, .int first, .int last] w = .ok (.int (maxO ((winEnds cs g first last).map fun e => seenIn cs (e - g) e))) w := by
  rw [r74, b74]
  apply eq_wp
  simp
  have hwl := winEnds_len (cs := cs) (g := g) (first := first) (last := last) hs
  have hsum : (cs.map fun c => c.2.length).sum ≤ 1000 * cs.length := by
    have := sum_le (fun c : Crowd => c.2.length) 1000 cs hs
    omega
  refine wp_of (comp2_if (φ := crowdD) (φ1 := spanD) (fun c : Crowd => c.2) (fun _ p => decide (first + g < p.1) && decide (p.1 ≤ last)) (fun _ p => .int p.1) (by omega) (fun c hc acc => ?_) (fun c hc p hp acc => ?_) (fun c hc p hp _ acc => ?_) (fun _ _ _ _ => rfl)) ?_
  · simp [crowdD, staysT]
  · by_cases h1 : first + g < p.1 <;> simp [crowdD, spanD, h1]
  · simp [crowdD, spanD]
  · have e : (D.int (first + g) :: (cs.flatMap fun c => (c.2.filter fun p => decide (first + g < p.1) && decide (p.1 ≤ last)).map fun p => D.int p.1)) = (winEnds cs g first last).map D.int := by
      simp [winEnds, List.map_flatMap, Function.comp_def]
    have hn : ∀ w : W, newL false ((winEnds cs g first last).map D.int) w = .ok (.lst ((winEnds cs g first last).map D.int)) w := fun w => newL_val _ _ (by simp; omega)
    simp [e, hn]
    refine wp_of (comp_map (fun e => .int (seenIn cs (e - g) e)) (by omega) (fun a ha acc => ?_) (fun _ _ => rfl)) ?_
    · simp [seen_in_eq _ cs _ _ _ (show cs.length ≤ 100000 by omega) (fun c hc => by have := hs c hc; omega)]
    · simp [bi_maxO G w (winEnds cs g first last) (fun e => seenIn cs (e - g) e) (by simp [winEnds])]
def strD (p : Int × Int) : D := .tup [.int p.1, .int p.2]
@[simp] theorem strD_nr (p : Int × Int) : (strD p).noRef = true := Eq.trans rfl rfl
theorem keyL_str (l : List (Int × Int)) : keyL (l.map strD) = some (l.map Prod.snd) := by
  induction l with
  | nil => rfl
  | cons p r ih => simp [strD, keyL] at ih ⊢; exact ih
theorem sortK_str (l : List (Int × Int)) : sortKF true (.lst (l.map strD)) = some (.lst ((descP l).map strD)) := by
  simp only [sortKF, keyL_str, Option.map_some]
  have e : (l.map Prod.snd).zip (l.map strD) = l.map fun p => (p.2, strD p) := by
    induction l with
    | nil => rfl
    | cons p r ih => simp [ih]
  rw [e]
  simp only [sortZ, if_true]
  rw [← List.map_mergeSort (r := fun p q : Int × Int => decide (q.2 ≤ p.2)) (fun a _ b _ => rfl), List.map_map]
  rfl
theorem ranked_eq (k : Nat) (l : List (Int × Int)) (r : Int) (w : W) : run G (k + 1) 76 [.lst (l.map strD), .int r] w = .ok (.int (rankOf (descP l) r)) w := by
  rw [r76, b76]
  apply eq_wp
  simp [sortK_str]
  refine loop_wp (fun done env w' => ∃ left e3 e4, env = [some (.lst (l.map strD)), some (.int r), some (.int left), e3, e4] ∧ w' = w ∧ rankOf (descP l) r = rankOf ((descP l).drop done.length) left) ⟨r, none, none, rfl, rfl, by simp⟩ ?_ ?_
  · rintro a done rest he env w' ⟨left, e3, e4, rfl, rfl, hI⟩
    have hd : (descP l).drop done.length = a :: rest := by rw [he]; simp
    rw [hd] at hI
    obtain ⟨m, x⟩ := a
    simp only [rankOf] at hI
    simp [strD, augF]
    by_cases hc : left - m ≤ 0
    · rw [if_pos hc] at hI
      simp [hc, hI]
    · rw [if_neg hc] at hI
      simp [hc]
      rw [hI]
      congr 1
      rw [he]; simp [List.drop_append]
  · rintro env w' ⟨left, e3, e4, rfl, rfl, hI⟩
    simp [rankOf] at hI
    simp [hI]
theorem zipD_ints : ∀ l m : List Int, zipD (l.map D.int) (m.map D.int) = (l.zip m).map strD
  | [], _ => by simp [zipD]
  | _ :: _, [] => by simp [zipD]
  | a :: l, b :: m => by simp [zipD, zipD_ints l m, strD]
theorem stretch_le {cs : List Crowd} {first last : Int} : ∀ p ∈ stretches cs first last, p.1 ≤ last + 1 - first := by
  intro p hp
  unfold stretches stretchD at hp
  obtain ⟨q, hq, rfl⟩ := List.mem_map.mp hp
  obtain ⟨h1, h2⟩ := List.of_mem_zip hq
  have h3 := (sdays_mem.mp h1).2
  rw [List.mem_append] at h2
  rcases h2 with h2 | h2
  · have h4 := (sdays_mem.mp (List.mem_of_mem_drop h2)).2
    simp only; omega
  · simp at h2; simp only; omega
theorem sdays_len {cs : List Crowd} {first last : Int} (hl : cs.length ≤ 1000) (hs : ∀ c ∈ cs, c.2.length ≤ 1000) : (sdays cs first last).length ≤ 2000001 := by
  have hk := begins_len cs [first] (m := 1000) hs
  have hk' : 2 * 1000 * cs.length ≤ 2000000 := by omega
  simp at hk
  have hbl : (begins cs first).length ≤ 2000001 := by unfold begins; omega
  unfold sdays
  rw [List.length_mergeSort]
  have := List.length_filter_le (fun d => decide (first ≤ d) && decide (d ≤ last)) (begins cs first)
  omega
theorem stretches_len {cs : List Crowd} {first last : Int} (hl : cs.length ≤ 1000) (hs : ∀ c ∈ cs, c.2.length ≤ 1000) : (stretches cs first last).length ≤ 2000001 := by
  have := sdays_len (first := first) (last := last) hl hs
  unfold stretches stretchD
  rw [List.length_map, List.length_zip]; omega
theorem stretches_in_eq (k : Nat) (cs : List Crowd) (first last : Int) (w : W) (hl : cs.length ≤ 1000) (hs : ∀ c ∈ cs, c.2.length ≤ 1000) :
    run G (k + 2) 75 [.lst (cs.map crowdD), .int first, .int last] w = .ok (.lst ((stretches cs first last).map strD)) w := by
  rw [r75, b75]
  apply eq_wp
  simp [disp_one w (.int first) (.bl true) rfl rfl]
  refine loop_wp (fun done env w' => ∃ e4 e5 e6 e7, env = [some (.lst (cs.map crowdD)), some (.int first), some (.int last), some (.cel w.length), e4, e5, e6, e7, none, none, none] ∧ w' = w ++ [.dct ((done.foldl beginsC [first]).map kvT)]) ⟨none, none, none, none, rfl, rfl⟩ ?_ ?_
  · rintro c done rest he env w' ⟨e4, e5, e6, e7, rfl, rfl⟩
    have hc := hs c (by rw [he]; simp)
    have hdl : done.length ≤ 1000 := by have := congrArg List.length he; simp at this; omega
    have hk := begins_len done [first] (m := 1000) fun x hx => hs x (by rw [he]; simp [hx])
    have hk' : 2 * 1000 * done.length ≤ 2000000 := by omega
    simp at hk
    simp [crowdD, staysT]
    refine loop_wp (fun dp env w' => ∃ e6 e7, env = [some (.lst (cs.map crowdD)), some (.int first), some (.int last), some (.cel w.length), some (.int c.1), some (.tup (c.2.map spanD)), e6, e7, none, none, none] ∧ w' = w ++ [.dct ((dp.foldl beginsP (done.foldl beginsC [first])).map kvT)]) ⟨_, _, rfl, rfl⟩ ?_ ?_
    · rintro p dp rp hp env w' ⟨e6, e7, rfl, rfl⟩
      have hpl : dp.length ≤ 1000 := by have := congrArg List.length hp; simp at this; omega
      have hkp := beginsC_len (done.foldl beginsC [first]) dp
      have hki := insK_len (ks := dp.foldl beginsP (done.foldl beginsC [first])) (k := p.1)
      have hcell : ∀ ks : List Int, (w ++ [Cell.dct (ks.map kvT)])[w.length]? = some (.dct (ks.map kvT)) := fun ks => by simp
      have s1 : ∀ (ks : List Int) (z : Int), ks.length < 16000000 → setSub (w ++ [Cell.dct (ks.map kvT)]) (.cel w.length) (.int z) (.bl true) = some (w ++ [.dct ((insK ks z).map kvT)]) := fun ks z hz => by
        rw [setSub_dct (hcell ks) rfl rfl (by simpa using hz), putM_ins]
        simp
      have s2 := s1 (dp.foldl beginsP (done.foldl beginsC [first])) p.1 (by omega)
      have s3 := s1 (insK (dp.foldl beginsP (done.foldl beginsC [first])) p.1) (p.2 + 1) (by omega)
      simp [spanD, s2, s3, beginsP]
    · rintro env w' ⟨e6, e7, rfl, rfl⟩
      simp [beginsC]
  · rintro env w' ⟨e4, e5, e6, e7, rfl, rfl⟩
    have hk := begins_len cs [first] (m := 1000) hs
    have hk' : 2 * 1000 * cs.length ≤ 2000000 := by omega
    simp at hk
    have hbl : (begins cs first).length ≤ 2000001 := by unfold begins; omega
    have hsd : (sdays cs first last).length ≤ 2000001 := by
      unfold sdays
      rw [List.length_mergeSort]
      have := List.length_filter_le (fun d => decide (first ≤ d) && decide (d ≤ last)) (begins cs first)
      omega
    simp
    have hcell : (w ++ [Cell.dct ((cs.foldl beginsC [first]).map kvT)])[w.length]? = some (.dct ((cs.foldl beginsC [first]).map kvT)) := by simp
    rw [sealF_okD rfl hcell]
    have ek : ((cs.foldl beginsC [first]).map kvT).map (fun p => p.1) = (begins cs first).map D.int := by simp [begins, kvT, Function.comp_def]
    simp only [List.map_map] at ek
    simp [ek]
    refine wp_of (comp_if (fun d => decide (first ≤ d) && decide (d ≤ last)) D.int (by omega) (fun a ha acc => ?_) (fun a ha _ acc => ?_) (fun _ _ _ => rfl)) ?_
    · by_cases h1 : first ≤ a <;> simp [h1]
    · simp
    · have hso : ∀ w : W, biF G .sorted [.lst (((begins cs first).filter fun d => decide (first ≤ d) && decide (d ≤ last)).map D.int)] w = .ok (.lst ((sdays cs first last).map D.int)) w := fun w => by
        simp [biF, intsD_mapI, sdays]
      simp [hso]
      have hz : ∀ w : W, newL false (((sdays cs first last).map D.int).tail ++ [.int (last + 1)]) w = .ok (.lst (((sdays cs first last).drop 1 ++ [last + 1]).map D.int)) w := fun w => by
        rw [newL_val _ _ (by simp; omega)]; simp
      simp only [hz]
      have hzl : ((sdays cs first last).zip ((sdays cs first last).drop 1 ++ [last + 1])).length ≤ 16000000 := by rw [List.length_zip]; omega
      simp [-List.drop_one]
      have hzz : zipD (List.map D.int (sdays cs first last)) (List.drop 1 (List.map D.int (sdays cs first last)) ++ [D.int (last + 1)]) = ((sdays cs first last).zip ((sdays cs first last).drop 1 ++ [last + 1])).map strD := by
        rw [← zipD_ints]; simp
      rw [hzz]
      refine wp_of (comp_map (fun p : Int × Int => strD (p.2 - p.1, seenIn cs p.1 p.1)) hzl (fun a ha acc => ?_) (fun _ _ => by simp)) ?_
      · simp [strD, seen_in_eq _ cs _ _ _ (show cs.length ≤ 100000 by omega) (fun c hc => by have := hs c hc; omega)]
      · have e : ((sdays cs first last).zip ((sdays cs first last).drop 1 ++ [last + 1])).map (fun p : Int × Int => strD (p.2 - p.1, seenIn cs p.1 p.1)) = (stretches cs first last).map strD := by
          unfold stretches stretchD; rw [List.map_map]; rfl
        rw [e]; simp
        exact finQ_drop (by simp; exact nrL_map _ _ fun p _ => by simp) (by simp) (by simp)
theorem count_of_eq (k : Nat) (cs : List Crowd) (c : Kind) (P t : Int) (w : W) (hl : cs.length ≤ 1000) (hs : ∀ c ∈ cs, c.2.length ≤ 1000) (h0 : ∀ c ∈ cs, 0 ≤ c.1) (hP : 2 ≤ P ∧ P ≤ 62) (hf : fitsB P c = true) (ht : 1 ≤ t ∧ t ≤ 1000000000000) :
    run G (k + 4) 72 [.lst (cs.map crowdD), kindD c, .int P, .int t] w = .ok (.int (countAt cs c P t)) w := by
  rw [r72, b72]
  apply eq_wp
  obtain ⟨n, rfl⟩ := Int.eq_ofNat_of_zero_le (show 0 ≤ P by omega)
  have hm1 : mulOk (t - 1) n = true := mulOk_small (by omega) (by omega)
  have hm2 : mulOk t n = true := mulOk_small (by omega) (by omega)
  have hlast : t * n = (t - 1) * n + 1 + n - 1 := by rw [Int.sub_mul]; omega
  have hst := fun w => stretches_in_eq (k + 1) cs ((t - 1) * n + 1) (t * n) w hl hs
  have hsd := stretch_daily (cs := cs) (first := (t - 1) * n + 1) (n := n) (by omega)
  have hsum : ((stretches cs ((t - 1) * n + 1) (t * n)).map fun p => p.1 * p.2).sum = (dailyL cs ((t - 1) * n + 1) n).sum := by
    rw [← hsd, ← hlast, expand_sum _ stretch_pos]
  have hle := fun p hp => stretch_le (cs := cs) (first := (t - 1) * n + 1) (last := t * n) p hp
  have hlen := stretches_len (cs := cs) (first := (t - 1) * n + 1) (last := t * n) hl hs
  cases c with
  | win g =>
    simp [fitsB] at hf
    have hw := fun w => most_in_windows_eq (k + 1) cs g ((t - 1) * n + 1) (t * n) w hl hs
    have e := win_eq (cs := cs) h0 (g := g) (first := (t - 1) * n + 1) (last := t * n) (n := n - 1 - g.toNat) hf.1 (by omega)
    have e2 : n - 1 - g.toNat + 1 = ((n : Int) - g).toNat := by omega
    rw [e2] at e
    simp [kindD, tWin, hm1, hm2, hw, e, countAt]
  | day j =>
    simp [fitsB] at hf
    have hsi := fun a b w => seen_in_eq (k + 2) cs a b w (by omega) (fun c hc => by have := hs c hc; omega)
    simp [kindD, tDay, hm1, hm2, hsi, countAt, ofDays, dailyL]
    rw [List.getElem?_range (by omega)]
    simp only [Option.map_some, Option.getD_some]
    congr 1 <;> omega
  | rank r =>
    simp [fitsB] at hf
    have hr := fun w => ranked_eq (k + 2) (stretches cs ((t - 1) * n + 1) (t * n)) r w
    have e := rank_daily (cs := cs) (first := (t - 1) * n + 1) (r := r) (n := n) (by omega) (by omega) (by omega)
    rw [← hlast] at e
    simp [kindD, tRank, hm1, hm2, hst, hr, e, countAt, ofDays]
  | sum =>
    simp [kindD, tSum, hm1, hm2, hst]
    refine wp_of (comp_map (fun p : Int × Int => .int (p.1 * p.2)) (by have := hlen; omega) (fun a ha acc => ?_) (fun _ _ => rfl)) ?_
    · have := hle a ha
      have := stretch_pos a ha
      simp [strD, mulOk_small (i := a.1) (j := a.2) (by omega) (by omega)]
    · have hs := bi_sum G w (stretches cs ((t - 1) * n + 1) (t * n)) fun p => p.1 * p.2
      simp [hs, hsum, countAt, ofDays]
  | mean =>
    simp [kindD, tMean, hm1, hm2, hst]
    refine wp_of (comp_map (fun p : Int × Int => .int (p.1 * p.2)) (by have := hlen; omega) (fun a ha acc => ?_) (fun _ _ => rfl)) ?_
    · have := hle a ha
      have := stretch_pos a ha
      simp [strD, mulOk_small (i := a.1) (j := a.2) (by omega) (by omega)]
    · have hs := bi_sum G w (stretches cs ((t - 1) * n + 1) (t * n)) fun p => p.1 * p.2
      have hu := fun m w => up_eq (k + 2) m n w (by omega) (by omega)
      simp [hs, hsum, hu, countAt, ofDays]
theorem check_any_ok {k : Nat} {c : Kind} {w : W} (h : fitsB 62 c = true) : run G (k + 5) 70 [kindD c] w = .ok .non w := by
  rw [r70, b70]
  simp [check_count_ok h]
theorem fits_62 {P : Int} {c : Kind} (h : fitsB P c = true) (hP : P ≤ 62) : fitsB 62 c = true := by
  cases c <;> simp [fitsB] at h ⊢ <;> omega
theorem crowdsOf_nn {gs : List Grp} (h : GrpsOk gs) : ∀ c ∈ crowdsOf gs, 0 ≤ c.1 := by
  intro c hc
  obtain ⟨g, hg, rfl⟩ := List.mem_map.mp hc
  have := (h.ok g hg).size.1; omega
theorem crowdsOf_short {gs : List Grp} (h : GrpsOk gs) : ∀ c ∈ crowdsOf gs, c.2.length ≤ 1000 := by
  intro c hc
  obtain ⟨g, hg, rfl⟩ := List.mem_map.mp hc
  have := (h.ok g hg).stays.len; omega
theorem crowdsOf_few {gs : List Grp} (h : GrpsOk gs) : (crowdsOf gs).length ≤ 64 := by
  have := h.len; simp [crowdsOf]; exact this
theorem count_in_ok {k : Nat} {gs : List Grp} {c : Kind} {P t : Int} {w : W} (h : GrpsOk gs) (hP : 2 ≤ P ∧ P ≤ 62) (hf : fitsB P c = true) (ht : 1 ≤ t ∧ t ≤ 1000000000000) :
    run G (k + 6) 68 [rosterD gs, kindD c, .int P, .int t] w = .ok (.int (countAt (crowdsOf gs) c P t)) w := by
  rw [r68, b68]
  have hc := fun w => count_of_eq (k + 1) (crowdsOf gs) c P t w (by have := crowdsOf_few h; omega) (crowdsOf_short h) (crowdsOf_nn h) hP hf ht
  have hcd : ∀ w, run G (k + 5) 71 [.int P] w = .ok .non w := fun w => check_days_ok (k := k + 1) hP
  simp [check_roster_ok, check_any_ok (k := k) (fits_62 hf hP.2), hcd, check_count_ok hf, check_number_ok ht.1 ht.2, crowds_of_eq _ gs _ h.len, hc]
end Sv

set_option Elab.async false
set_option linter.all false
set_option maxRecDepth 100000
set_option maxHeartbeats 1000000
namespace Sv
theorem mem_strs {x : D} {l : List Tx} (h : x ∈ l.map D.str) : ∃ z ∈ l, x = .str z := by
  obtain ⟨z, h1, h2⟩ := List.mem_map.mp h; exact ⟨z, h1, h2.symm⟩
theorem kind_wp {k : Nat} {w : W} {i : Nat} {P : Int} {t : Wl} {Q : R D → Prop} {s : Tag Q} (hi : i < w.length) (hP : 2 ≤ P ∧ P ≤ 62)
    (h : ∀ (c : Kind) u, KOk P c → Q (.ok (kindD c) (pw w i u))) : wp (run G (k + 3) 50 [.cel i, .int P] (pw w i t)) Q s := by
  rw [r50, b50]
  simp
  refine pick_wp hi (by simp) (by simp) fun x u hx => ?_
  obtain ⟨z, hz, rfl⟩ := mem_strs (l := [tWin, tWin, tWin, tRank, tRank, tDay, tSum, tMean]) hx
  have hz : z = tWin ∨ z = tRank ∨ z = tDay ∨ z = tSum ∨ z = tMean := by
    simp only [List.mem_cons, List.not_mem_nil, or_false] at hz
    rcases hz with h | h | h | h | h | h | h | h <;> simp [h]
  rcases hz with rfl | rfl | rfl | rfl | rfl
  · simp [tWin]
    refine dip_wp hi (by omega) (by omega) fun v u h1 h2 => ?_
    simp
    refine pick_wp (xs := [.int 0, .int 0, .int (P - 1), .int v]) hi (by simp) (by simp) fun x u hx => ?_
    obtain ⟨g, hg, rfl⟩ := mem_two (l := [0, 0, P - 1, v]) hx
    simp
    exact h (.win g) _ ⟨hP, by simp at hg; simp [fitsB]; omega⟩
  · simp [tRank]
    refine dip_wp hi (by omega) (by omega) fun v u h1 h2 => ?_
    simp
    refine pick_wp (xs := [.int 0, .int (P - 2), .int v]) hi (by simp) (by simp) fun x u hx => ?_
    obtain ⟨g, hg, rfl⟩ := mem_two (l := [0, P - 2, v]) hx
    simp
    exact h (.rank (2 + g)) _ ⟨hP, by simp at hg; simp [fitsB]; omega⟩
  · simp [tDay]
    refine dip_wp hi (by omega) (by omega) fun v u h1 h2 => ?_
    simp
    exact h (.day (1 + v)) _ ⟨hP, by simp [fitsB]; omega⟩
  · simp [tSum]
    exact h .sum _ ⟨hP, rfl⟩
  · simp [tMean]
    exact h .mean _ ⟨hP, rfl⟩
end Sv

set_option Elab.async false
set_option linter.all false
set_option maxRecDepth 100000
set_option maxHeartbeats 1000000
namespace Sv
end Sv

set_option Elab.async false
set_option linter.all false
set_option maxRecDepth 100000
set_option maxHeartbeats 1000000
namespace Sv
def StOk (cs : List Crowd) : Prop := ∀ c ∈ cs, 0 ≤ c.1 ∧ ∀ p ∈ c.2, p.1 ≤ p.2
theorem hereIn_iff {st : List Span} {a b : Int} : hereIn st a b = true ↔ ∃ p ∈ st, p.1 ≤ b ∧ a ≤ p.2 := by
  simp [hereIn]
theorem seen_cons (c : Crowd) (cs : List Crowd) (a b : Int) : seenIn (c :: cs) a b = (if hereIn c.2 a b then c.1 else 0) + seenIn cs a b := by
  unfold seenIn
  by_cases h : hereIn c.2 a b = true
  · simp [h]
  · simp [h]
def winW (cs : List Crowd) (P t g : Int) : Int := countAt cs (.win g) P t
def ranksL (cs : List Crowd) (P t : Int) : List Int := winW cs P t 0 :: (List.range (P - 1).toNat).map fun (i : Nat) => countAt cs (.rank (2 + (i : Int))) P t
theorem perm_sumI {l m : List Int} (h : l.Perm m) : l.sum = m.sum := by
  induction h with
  | nil => rfl
  | cons x _ ih => simp [ih]
  | swap x y l => simp; omega
  | trans _ _ h1 h2 => rw [h1, h2]
end Sv

set_option Elab.async false
set_option linter.all false
set_option maxRecDepth 100000
set_option maxHeartbeats 1000000
namespace Sv
structure RuleR where
  c : Kind
  price : Int
  pack : Int
  least : Int
structure RuleOk (r : RuleR) : Prop where
  price : 1 ≤ r.price ∧ r.price ≤ 1000000000
  pack : 1 ≤ r.pack ∧ r.pack ≤ 50
  least : 0 ≤ r.least ∧ r.least ≤ 1000000000000000000000000000000
  fit : fitsB 62 r.c = true
def seatsI (r : RuleR) (n : Int) : Int := max r.least (r.pack * upI n r.pack)
def chargeI (r : RuleR) (n : Int) : Int := r.price * seatsI r n
def marksP (P : Int) (ks : List Int) (p : Span) : List Int := insK (insK (insK ks (upI p.1 P)) (upI p.2 P)) (upI (p.2 + 1) P)
def marksC (P : Int) (ks : List Int) (c : Crowd) : List Int := c.2.foldl (marksP P) ks
def marksK (P : Int) (cs : List Crowd) : List Int := cs.foldl (marksC P) []
theorem marksC_mem {P : Int} {c : Crowd} {ks : List Int} {x : Int} : x ∈ marksC P ks c ↔ x ∈ ks ∨ ∃ p ∈ c.2, x = upI p.1 P ∨ x = upI p.2 P ∨ x = upI (p.2 + 1) P := by
  obtain ⟨n, l⟩ := c
  unfold marksC
  simp only
  induction l generalizing ks with
  | nil => simp
  | cons p r ih =>
    rw [List.foldl_cons, ih]
    simp only [marksP, insK_mem, List.mem_cons, exists_eq_or_imp]
    constructor
    · rintro ((((h | h) | h) | h) | h)
      · exact .inl h
      · exact .inr (.inl (.inl h))
      · exact .inr (.inl (.inr (.inl h)))
      · exact .inr (.inl (.inr (.inr h)))
      · exact .inr (.inr h)
    · rintro (h | (h | h | h) | h)
      · exact .inl (.inl (.inl (.inl h)))
      · exact .inl (.inl (.inl (.inr h)))
      · exact .inl (.inl (.inr h))
      · exact .inl (.inr h)
      · exact .inr h
theorem marksK_mem {P : Int} {cs : List Crowd} {x : Int} : x ∈ marksK P cs ↔ ∃ c ∈ cs, ∃ p ∈ c.2, x = upI p.1 P ∨ x = upI p.2 P ∨ x = upI (p.2 + 1) P := by
  unfold marksK
  have key : ∀ (l : List Crowd) (ks : List Int), x ∈ l.foldl (marksC P) ks ↔ x ∈ ks ∨ ∃ c ∈ l, ∃ p ∈ c.2, x = upI p.1 P ∨ x = upI p.2 P ∨ x = upI (p.2 + 1) P := by
    intro l
    induction l with
    | nil => intro ks; simp
    | cons c r ih =>
      intro ks
      rw [List.foldl_cons, ih, marksC_mem]
      simp only [List.mem_cons, exists_eq_or_imp]
      constructor
      · rintro ((h | h) | h)
        · exact .inl h
        · exact .inr (.inl h)
        · exact .inr (.inr h)
      · rintro (h | h | h)
        · exact .inl (.inl h)
        · exact .inl (.inr h)
        · exact .inr h
  rw [key]; simp
theorem marksC_nd {P : Int} {c : Crowd} {ks : List Int} (h : ks.Nodup) : (marksC P ks c).Nodup := by
  obtain ⟨n, l⟩ := c
  unfold marksC
  simp only
  induction l generalizing ks with
  | nil => exact h
  | cons p r ih => rw [List.foldl_cons]; exact ih (insK_nd (insK_nd (insK_nd h)))
theorem marksK_nd {P : Int} {cs : List Crowd} : (marksK P cs).Nodup := by
  unfold marksK
  have : ∀ (l : List Crowd) (ks : List Int), ks.Nodup → (l.foldl (marksC P) ks).Nodup := by
    intro l
    induction l with
    | nil => exact fun _ h => h
    | cons c r ih => intro ks h; rw [List.foldl_cons]; exact ih _ (marksC_nd h)
  exact this cs [] (by simp)
theorem marksP_len (P : Int) (ks : List Int) (p : Span) : (marksP P ks p).length ≤ ks.length + 3 := by
  have := insK_len (ks := insK (insK ks (upI p.1 P)) (upI p.2 P)) (k := upI (p.2 + 1) P)
  have := insK_len (ks := insK ks (upI p.1 P)) (k := upI p.2 P)
  have := insK_len (ks := ks) (k := upI p.1 P)
  unfold marksP; omega
theorem marksC_len (P : Int) (ks : List Int) (l : List Span) : (l.foldl (marksP P) ks).length ≤ ks.length + 3 * l.length := by
  induction l generalizing ks with
  | nil => simp
  | cons p r ih =>
    have := ih (marksP P ks p)
    have := marksP_len P ks p
    simp only [List.foldl_cons, List.length_cons]; omega
theorem marksK_len (P : Int) (cs : List Crowd) (ks : List Int) {m : Nat} (h : ∀ c ∈ cs, c.2.length ≤ m) : (cs.foldl (marksC P) ks).length ≤ ks.length + 3 * m * cs.length := by
  induction cs generalizing ks with
  | nil => simp
  | cons c r ih =>
    have h1 := ih (marksC P ks c) fun c hc => h c (by simp [hc])
    have h2 := marksC_len P ks c.2
    have h3 := h c (by simp)
    simp only [List.foldl_cons, List.length_cons]
    unfold marksC at h1 ⊢
    have h4 : 3 * m * (r.length + 1) = 3 * m * r.length + 3 * m := by rw [Nat.mul_add, Nat.mul_one]
    omega
def marks (cs : List Crowd) (P first last : Int) : List Int := ((marksK P cs).filter fun d => decide (first ≤ d) && decide (d ≤ last)).mergeSort (· ≤ ·)
theorem marks_mem {cs : List Crowd} {P first last x : Int} : x ∈ marks cs P first last ↔ (∃ c ∈ cs, ∃ p ∈ c.2, x = upI p.1 P ∨ x = upI p.2 P ∨ x = upI (p.2 + 1) P) ∧ first ≤ x ∧ x ≤ last := by
  unfold marks
  rw [List.mem_mergeSort, List.mem_filter, marksK_mem]
  simp
theorem marks_asc {cs : List Crowd} {P first last : Int} : (marks cs P first last).Pairwise (· < ·) := by
  have h1 : (marks cs P first last).Pairwise (fun a b => decide (a ≤ b) = true) := List.pairwise_mergeSort (le := fun a b => decide (a ≤ b)) (fun a b c h1 h2 => by simp at *; omega) (fun a b => by simp; omega) _
  have h2 : (marks cs P first last).Nodup := (List.mergeSort_perm _ _).nodup_iff.mpr (marksK_nd.filter _)
  have := h1.and h2
  exact this.imp fun {a b} h => by have := h.1; have := h.2; simp at *; omega
theorem upI_in {d P a b : Int} (hP : 0 < P) (h1 : (a - 1) * P + 1 ≤ d) (h2 : d ≤ b * P) : a ≤ upI d P ∧ upI d P ≤ b := by
  obtain ⟨h3, h4⟩ := upI_spec (a := d) hP
  constructor
  · have h5 : (a - 1) * P < upI d P * P := by omega
    have := Int.lt_of_mul_lt_mul_right h5 (by omega)
    omega
  · have h5 : (upI d P - 1) * P < b * P := by omega
    have := Int.lt_of_mul_lt_mul_right h5 (by omega)
    omega
theorem seen_gap {cs : List Crowd} {lo hi x y : Int} (h : ∀ c ∈ cs, ∀ p ∈ c.2, ¬ (lo ≤ p.1 ∧ p.1 ≤ hi) ∧ ¬ (lo ≤ p.2 ∧ p.2 ≤ hi)) (h1 : lo ≤ x) (h2 : x ≤ y) (h3 : y ≤ hi) : seenIn cs x y = seenIn cs lo lo := by
  unfold seenIn
  have : cs.filter (fun c => hereIn c.2 x y) = cs.filter (fun c => hereIn c.2 lo lo) := by
    refine List.filter_congr fun c hc => ?_
    unfold hereIn
    rw [Bool.eq_iff_iff, List.any_eq_true, List.any_eq_true]
    constructor
    · rintro ⟨p, hp, z⟩
      refine ⟨p, hp, ?_⟩
      have := h c hc p hp
      simp only [Bool.and_eq_true, decide_eq_true_eq] at z ⊢
      omega
    · rintro ⟨p, hp, z⟩
      refine ⟨p, hp, ?_⟩
      have := h c hc p hp
      simp only [Bool.and_eq_true, decide_eq_true_eq] at z ⊢
      omega
  rw [this]
theorem count_gap {cs : List Crowd} {c : Kind} {P a b : Int} (hP : 2 ≤ P) (hf : fitsB P c = true) (hab : a ≤ b) (h : ∀ x, (∃ c ∈ cs, ∃ p ∈ c.2, x = upI p.1 P ∨ x = upI p.2 P ∨ x = upI (p.2 + 1) P) → ¬ (a ≤ x ∧ x ≤ b)) : ∀ t, a ≤ t → t ≤ b → countAt cs c P t = countAt cs c P a := by
  have hg : ∀ x y, (a - 1) * P + 1 ≤ x → x ≤ y → y ≤ b * P → seenIn cs x y = seenIn cs ((a - 1) * P + 1) ((a - 1) * P + 1) := fun x y h1 h2 h3 => seen_gap (hi := b * P) (fun c hc p hp => by
    constructor
    · rintro ⟨z1, z2⟩; exact h _ ⟨c, hc, p, hp, .inl rfl⟩ (upI_in (by omega) z1 z2)
    · rintro ⟨z1, z2⟩; exact h _ ⟨c, hc, p, hp, .inr (.inl rfl)⟩ (upI_in (by omega) z1 z2)) h1 h2 h3
  have key : ∀ t, a ≤ t → t ≤ b → ∀ i j : Int, 0 ≤ i → i ≤ j → j ≤ P - 1 → seenIn cs ((t - 1) * P + 1 + i) ((t - 1) * P + 1 + j) = seenIn cs ((a - 1) * P + 1) ((a - 1) * P + 1) := fun t h1 h2 i j h3 h4 h5 => by
    have e1 : (a - 1) * P ≤ (t - 1) * P := Int.mul_le_mul_of_nonneg_right (by omega) (by omega)
    have e2 : t * P ≤ b * P := Int.mul_le_mul_of_nonneg_right (by omega) (by omega)
    have e3 : (t - 1) * P = t * P - P := by rw [Int.sub_mul]; omega
    exact hg _ _ (by omega) (by omega) (by omega)
  intro t h1 h2
  have ed : dailyL cs ((t - 1) * P + 1) P.toNat = dailyL cs ((a - 1) * P + 1) P.toNat := by
    unfold dailyL
    refine List.map_congr_left fun i hi => ?_
    rw [List.mem_range] at hi
    rw [key t h1 h2 i i (by omega) (by omega) (by omega), key a (by omega) hab i i (by omega) (by omega) (by omega)]
  cases c with
  | win g =>
    simp [fitsB] at hf
    simp only [countAt]
    congr 1
    refine List.map_congr_left fun i hi => ?_
    rw [List.mem_range] at hi
    have e1 := key t h1 h2 i (i + g) (by omega) (by omega) (by omega)
    have e2 := key a (by omega) hab i (i + g) (by omega) (by omega) (by omega)
    rw [← Int.add_assoc] at e1 e2
    rw [e1, e2]
  | _ => simp only [countAt, ed]
def runsL (last : Int) : List Int → Int → List (Int × Int)
  | [], at_ => if at_ ≤ last then [(at_, last + 1 - at_)] else []
  | m :: r, at_ => (if at_ < m then [(at_, m - at_)] else []) ++ (m, 1) :: runsL last r (m + 1)
theorem runsL_cons (last m : Int) (r : List Int) (a : Int) : runsL last (m :: r) a = (if a < m then [(a, m - a)] else []) ++ (m, 1) :: runsL last r (m + 1) := rfl
def sumF (f : Int → Int) (a : Int) (n : Nat) : Int := ((List.range n).map fun (i : Nat) => f (a + (i : Int))).sum
theorem sumF_add (f : Int → Int) (a : Int) (n m : Nat) : sumF f a (n + m) = sumF f a n + sumF f (a + n) m := by
  unfold sumF
  rw [range_split, List.sum_append]
  congr 2
  refine List.map_congr_left fun i _ => ?_
  congr 1; omega
theorem sumF_const {f : Int → Int} {a c : Int} {n : Nat} (h : ∀ t, a ≤ t → t < a + n → f t = c) : sumF f a n = n * c := by
  unfold sumF
  have : ((List.range n).map fun (i : Nat) => f (a + (i : Int))) = List.replicate n c := by
    refine List.ext_getElem (by simp) fun i h1 h2 => ?_
    simp at h1 ⊢
    exact h _ (by omega) (by omega)
  rw [this]
  have : ∀ n : Nat, (List.replicate n c).sum = (n : Int) * c := by
    intro n
    induction n with
    | zero => simp
    | succ n ih => rw [List.replicate_succ, List.sum_cons, ih, Int.natCast_succ, Int.add_mul]; omega
  exact this n
theorem runs_sum {f : Int → Int} {last : Int} : ∀ {l : List Int} {a : Int}, l.Pairwise (· < ·) → (∀ x ∈ l, a ≤ x ∧ x ≤ last) → (∀ d e, a ≤ d → d ≤ e → e ≤ last → (∀ x ∈ l, ¬ (d ≤ x ∧ x ≤ e)) → f e = f d) →
    ((runsL last l a).map fun p => p.2 * f p.1).sum = sumF f a (last + 1 - a).toNat
  | [], a, _, _, hc => by
    unfold runsL
    by_cases h : a ≤ last
    · have e := sumF_const (f := f) (a := a) (c := f a) (n := (last + 1 - a).toNat) fun t h1 h2 => hc a t (by omega) h1 (by omega) (by simp)
      rw [Int.toNat_of_nonneg (by omega)] at e
      rw [if_pos h, e]
      simp only [List.map_cons, List.map_nil, List.sum_cons, List.sum_nil, Int.add_zero]
    · rw [if_neg h, show (last + 1 - a).toNat = 0 by omega]; rfl
  | m :: r, a, hp, hl, hc => by
    rw [List.pairwise_cons] at hp
    have hm := hl m (by simp)
    have ih := runs_sum (f := f) (last := last) (a := m + 1) hp.2 (fun x hx => by have := hp.1 x hx; have := hl x (by simp [hx]); omega) fun d e h1 h2 h3 h4 => hc d e (by omega) h2 h3 fun x hx => by
      simp only [List.mem_cons] at hx
      rcases hx with rfl | hx
      · omega
      · exact h4 x hx
    have e3 : (last + 1 - a).toNat = (m - a).toNat + (1 + (last + 1 - (m + 1)).toNat) := by omega
    have e4 : sumF f a (m - a).toNat = (m - a) * f a := by
      have e := sumF_const (f := f) (a := a) (c := f a) (n := (m - a).toNat) fun t h1 h2 => hc a t (by omega) h1 (by omega) fun x hx => by
        simp only [List.mem_cons] at hx
        rcases hx with rfl | hx
        · omega
        · have := hp.1 x hx; omega
      rw [Int.toNat_of_nonneg (by omega)] at e
      exact e
    have e5 : a + ((m - a).toNat : Int) = m := by omega
    rw [e3, sumF_add, sumF_add, e4, e5, show m + ((1 : Nat) : Int) = m + 1 from rfl, ← ih]
    have e6 : sumF f m 1 = f m := by simp [sumF]
    rw [e6, runsL_cons]
    simp only [List.map_append, List.map_cons, List.sum_append, List.sum_cons, Int.one_mul]
    by_cases h : a < m
    · rw [if_pos h]; simp only [List.map_cons, List.map_nil, List.sum_cons, List.sum_nil, Int.add_zero]
    · have : m = a := by omega
      rw [if_neg h, this]; simp only [List.map_nil, List.sum_nil, Int.sub_self, Int.zero_mul, Int.zero_add]
theorem runs_cover {f : Int → Int} {last : Int} : ∀ {l : List Int} {a : Int}, l.Pairwise (· < ·) → (∀ x ∈ l, a ≤ x ∧ x ≤ last) → (∀ d e, a ≤ d → d ≤ e → e ≤ last → (∀ x ∈ l, ¬ (d ≤ x ∧ x ≤ e)) → f e = f d) →
    (∀ p ∈ runsL last l a, a ≤ p.1 ∧ p.1 ≤ last ∧ 1 ≤ p.2 ∧ p.2 ≤ last + 1 - a) ∧ (runsL last l a).Pairwise (fun p q => p.1 < q.1) ∧ ∀ t, a ≤ t → t ≤ last → ∃ p ∈ runsL last l a, p.1 ≤ t ∧ f p.1 = f t
  | [], a, _, _, hc => by
    unfold runsL
    by_cases h : a ≤ last
    · rw [if_pos h]
      refine ⟨fun p hp => ?_, by simp, fun t h1 h2 => ⟨_, List.mem_singleton.mpr rfl, h1, (hc a t (by omega) h1 h2 (by simp)).symm⟩⟩
      simp at hp; subst hp; simp only; omega
    · rw [if_neg h]
      exact ⟨by simp, by simp, fun t h1 h2 => by omega⟩
  | m :: r, a, hp, hl, hc => by
    rw [List.pairwise_cons] at hp
    have hm := hl m (by simp)
    obtain ⟨i1, i2, i3⟩ := runs_cover (f := f) (last := last) (a := m + 1) hp.2 (fun x hx => by have := hp.1 x hx; have := hl x (by simp [hx]); omega) fun d e h1 h2 h3 h4 => hc d e (by omega) h2 h3 fun x hx => by
      simp only [List.mem_cons] at hx
      rcases hx with rfl | hx
      · omega
      · exact h4 x hx
    rw [runsL_cons]
    refine ⟨fun p hp' => ?_, ?_, fun t h1 h2 => ?_⟩
    · simp only [List.mem_append, List.mem_cons] at hp'
      rcases hp' with hp' | rfl | hp'
      · split at hp'
        · simp at hp'; subst hp'; simp only; omega
        · simp at hp'
      · simp only; omega
      · have := i1 p hp'; omega
    · rw [List.pairwise_append]
      refine ⟨by split <;> simp, ?_, fun p hp' q hq => ?_⟩
      · rw [List.pairwise_cons]
        exact ⟨fun q hq => by have := i1 q hq; simp only; omega, i2⟩
      · split at hp'
        · simp at hp'; subst hp'
          simp only [List.mem_cons] at hq
          rcases hq with rfl | hq
          · simp only; omega
          · have := i1 q hq; simp only; omega
        · simp at hp'
    · by_cases ht : t < m
      · refine ⟨(a, m - a), by simp; left; omega, h1, (hc a t (by omega) h1 h2 fun x hx => ?_).symm⟩
        simp only [List.mem_cons] at hx
        rcases hx with rfl | hx
        · omega
        · have := hp.1 x hx; omega
      · by_cases ht2 : t = m
        · subst ht2
          exact ⟨(t, 1), by simp, Int.le_refl _, rfl⟩
        · obtain ⟨p, h3, h4, h5⟩ := i3 t (by omega) h2
          exact ⟨p, by simp [h3], h4, h5⟩
def runs (cs : List Crowd) (P first last : Int) : List (Int × Int) := runsL last (marks cs P first last) first
theorem marks_gap {cs : List Crowd} {c : Kind} {P first last : Int} (hP : 2 ≤ P) (hf : fitsB P c = true) : ∀ d e, first ≤ d → d ≤ e → e ≤ last → (∀ x ∈ marks cs P first last, ¬ (d ≤ x ∧ x ≤ e)) → countAt cs c P e = countAt cs c P d := by
  intro d e h1 h2 h3 h4
  refine count_gap hP hf h2 (fun x hx z => ?_) e h2 (Int.le_refl _)
  exact h4 x (marks_mem.mpr ⟨hx, by omega, by omega⟩) z
theorem marks_in {cs : List Crowd} {P first last : Int} : ∀ x ∈ marks cs P first last, first ≤ x ∧ x ≤ last := fun x hx => (marks_mem.mp hx).2
theorem bill_sum {cs : List Crowd} {r : RuleR} {P first last : Int} (hP : 2 ≤ P) (hf : fitsB P r.c = true) : ((runs cs P first last).map fun p => p.2 * chargeI r (countAt cs r.c P p.1)).sum = sumF (fun t => chargeI r (countAt cs r.c P t)) first (last + 1 - first).toNat :=
  runs_sum (f := fun t => chargeI r (countAt cs r.c P t)) marks_asc marks_in fun d e h1 h2 h3 h4 => by
    show chargeI r (countAt cs r.c P e) = chargeI r (countAt cs r.c P d)
    rw [marks_gap hP hf d e h1 h2 h3 h4]
end Sv

set_option Elab.async false
set_option linter.all false
set_option maxRecDepth 100000
set_option maxHeartbeats 1000000
namespace Sv
def ruleD (r : RuleR) : D := .obj 54 [(13, .tup [kindD r.c, .int r.price, .int r.pack, .int r.least])]
@[simp] theorem ruleD_nr (r : RuleR) : (ruleD r).noRef = true := by simp [ruleD]
theorem rule_counted (k : Nat) (r : RuleR) (w : W) : run G (k + 1) 62 [ruleD r] w = .ok (kindD r.c) w := by
  rw [r62, b62]; simp [ruleD]
theorem rule_price (k : Nat) (r : RuleR) (w : W) : run G (k + 1) 63 [ruleD r] w = .ok (.int r.price) w := by
  rw [r63, b63]; simp [ruleD]
theorem rule_pack (k : Nat) (r : RuleR) (w : W) : run G (k + 1) 64 [ruleD r] w = .ok (.int r.pack) w := by
  rw [r64, b64]; simp [ruleD]
theorem rule_least (k : Nat) (r : RuleR) (w : W) : run G (k + 1) 65 [ruleD r] w = .ok (.int r.least) w := by
  rw [r65, b65]; simp [ruleD]
theorem rule_make {k : Nat} {r : RuleR} (w : W) (h : RuleOk r) : makeC G (run G (k + 5)) 54 [kindD r.c, .int r.price, .int r.pack, .int r.least] [] [] w = .ok (ruleD r) w := by
  have hi : run G (k + 5) 53 [.cel w.length, kindD r.c, .int r.price, .int r.pack, .int r.least] (w ++ [.ins 54 []]) = .ok .non (w ++ [.ins 54 [(13, .tup [kindD r.c, .int r.price, .int r.pack, .int r.least])]]) := by
    rw [r53, b53]
    simp [check_count_ok h.fit, check_number_ok h.price.1 h.price.2, check_number_ok h.pack.1 h.pack.2, check_number_ok h.least.1 h.least.2]
    rw [setAtt_ok (fs := []) (k := 54) (q := c54) (by simp) (by simp) (by simp) (by rw [pr54]; rfl) (by rw [me54]; rfl) (by decide)]
    simp [putF]
  simp [hi, ruleD]
theorem attr_counted (k : Nat) (r : RuleR) (w : W) : attrF G (run G (k + 1)) (ruleD r) 14 w = .ok (kindD r.c) w := by
  simp [ruleD]; rw [← ruleD, rule_counted]; rfl
theorem attr_price (k : Nat) (r : RuleR) (w : W) : attrF G (run G (k + 1)) (ruleD r) 15 w = .ok (.int r.price) w := by
  simp [ruleD]; rw [← ruleD, rule_price]; rfl
theorem attr_pack (k : Nat) (r : RuleR) (w : W) : attrF G (run G (k + 1)) (ruleD r) 16 w = .ok (.int r.pack) w := by
  simp [ruleD]; rw [← ruleD, rule_pack]; rfl
theorem attr_least (k : Nat) (r : RuleR) (w : W) : attrF G (run G (k + 1)) (ruleD r) 17 w = .ok (.int r.least) w := by
  simp [ruleD]; rw [← ruleD, rule_least]; rfl
theorem seats_eq (k : Nat) (r : RuleR) (n : Int) (w : W) (h : RuleOk r) : run G (k + 2) 139 [ruleD r, .int n] w = .ok (.int (seatsI r n)) w := by
  rw [r139, b139]
  have hp := h.pack
  have hm : mulOk r.pack (upI n r.pack) = true := mulOk_small (by omega) (by omega)
  have hu := fun w => up_eq k n r.pack w (by omega) (by omega)
  simp [attr_least, attr_pack, hu, hm, seatsI]
theorem charge_eq (k : Nat) (r : RuleR) (n : Int) (w : W) (h : RuleOk r) : run G (k + 3) 138 [ruleD r, .int n] w = .ok (.int (chargeI r n)) w := by
  rw [r138, b138]
  have hp := h.price
  have hm : mulOk r.price (seatsI r n) = true := mulOk_small (by omega) (by omega)
  simp [attr_price, seats_eq k r n _ h, hm, chargeI]
structure CrOk (cs : List Crowd) : Prop where
  few : cs.length ≤ 1000
  short : ∀ c ∈ cs, c.2.length ≤ 1000
  nn : ∀ c ∈ cs, 0 ≤ c.1
theorem charge_in_eq (k : Nat) (r : RuleR) (cs : List Crowd) (P t : Int) (w : W) (hc : CrOk cs) (h : RuleOk r) (hP : 2 ≤ P ∧ P ≤ 62) (hf : fitsB P r.c = true) (ht : 1 ≤ t ∧ t ≤ 1000000000000) :
    run G (k + 5) 136 [ruleD r, .lst (cs.map crowdD), .int P, .int t] w = .ok (.int (chargeI r (countAt cs r.c P t))) w := by
  rw [r136, b136]
  have h1 := fun w => count_of_eq k cs r.c P t w hc.few hc.short hc.nn hP hf ht
  have h2 := fun n w => charge_eq (k + 1) r n w h
  simp [attr_counted, h1, h2]
theorem marks_len {cs : List Crowd} {P first last : Int} (hc : CrOk cs) : (marks cs P first last).length ≤ 3000000 := by
  have hk := marksK_len P cs [] (m := 1000) hc.short
  have hk' : 3 * 1000 * cs.length ≤ 3000000 := by have := hc.few; omega
  simp at hk
  unfold marks
  rw [List.length_mergeSort]
  have := List.length_filter_le (fun d => decide (first ≤ d) && decide (d ≤ last)) (marksK P cs)
  unfold marksK at this ⊢
  omega
theorem marks_of_eq (k : Nat) (cs : List Crowd) (P first last : Int) (w : W) (hc : CrOk cs) (hP : 2 ≤ P ∧ P ≤ 62) :
    run G (k + 2) 137 [.lst (cs.map crowdD), .int P, .int first, .int last] w = .ok (.lst ((marks cs P first last).map .int)) w := by
  rw [r137, b137]
  apply eq_wp
  have hl := hc.few
  have hs := hc.short
  have hu := fun n w => up_eq k n P w (by omega) (by omega)
  simp [disp_none w]
  refine loop_wp (fun done env w' => ∃ e5 e6 e7 e8 e9, env = [some (.lst (cs.map crowdD)), some (.int P), some (.int first), some (.int last), some (.cel w.length), e5, e6, e7, e8, e9, none] ∧ w' = w ++ [.dct ((done.foldl (marksC P) []).map kvT)]) ⟨none, none, none, none, none, rfl, rfl⟩ ?_ ?_
  · rintro c done rest he env w' ⟨e5, e6, e7, e8, e9, rfl, rfl⟩
    have hc' := hs c (by rw [he]; simp)
    have hdl : done.length ≤ 1000 := by have := congrArg List.length he; simp at this; omega
    have hk := marksK_len P done [] (m := 1000) fun x hx => hs x (by rw [he]; simp [hx])
    have hk' : 3 * 1000 * done.length ≤ 3000000 := by omega
    simp at hk
    simp [crowdD, staysT]
    refine loop_wp (fun dp env w' => ∃ e7 e8 e9, env = [some (.lst (cs.map crowdD)), some (.int P), some (.int first), some (.int last), some (.cel w.length), some (.int c.1), some (.tup (c.2.map spanD)), e7, e8, e9, none] ∧ w' = w ++ [.dct ((dp.foldl (marksP P) (done.foldl (marksC P) [])).map kvT)]) ⟨_, _, _, rfl, rfl⟩ ?_ ?_
    · rintro p dp rp hp env w' ⟨e7, e8, e9, rfl, rfl⟩
      have hpl : dp.length ≤ 1000 := by have := congrArg List.length hp; simp at this; omega
      have hkp := marksC_len P (done.foldl (marksC P) []) dp
      simp [spanD]
      rw [show ([D.int p.1, .int p.2, .int (p.2 + 1)] : List D) = [p.1, p.2, p.2 + 1].map D.int from rfl]
      refine loop_wp (fun dq env w' => ∃ e9, env = [some (.lst (cs.map crowdD)), some (.int P), some (.int first), some (.int last), some (.cel w.length), some (.int c.1), some (.tup (c.2.map spanD)), some (.int p.1), some (.int p.2), e9, none] ∧ (dq.foldl (fun ks z => insK ks (upI z P)) (dp.foldl (marksP P) (done.foldl (marksC P) []))).length ≤ (dp.foldl (marksP P) (done.foldl (marksC P) [])).length + dq.length ∧ w' = w ++ [.dct ((dq.foldl (fun ks z => insK ks (upI z P)) (dp.foldl (marksP P) (done.foldl (marksC P) []))).map kvT)]) ⟨_, rfl, by simp, rfl⟩ ?_ ?_
      · rintro z dq rq hq env w' ⟨e9, rfl, hql, rfl⟩
        have hdq : dq.length ≤ 3 := by have := congrArg List.length hq; simp at this; omega
        have hcell : ∀ ks : List Int, (w ++ [Cell.dct (ks.map kvT)])[w.length]? = some (.dct (ks.map kvT)) := fun ks => by simp
        have s1 : ∀ (ks : List Int) (z : Int), ks.length < 16000000 → setSub (w ++ [Cell.dct (ks.map kvT)]) (.cel w.length) (.int z) (.bl true) = some (w ++ [.dct ((insK ks z).map kvT)]) := fun ks z hz => by
          rw [setSub_dct (hcell ks) rfl rfl (by simpa using hz), putM_ins]
          simp
        have s2 := s1 (dq.foldl (fun ks z => insK ks (upI z P)) (dp.foldl (marksP P) (done.foldl (marksC P) []))) (upI z P) (by omega)
        have hi := insK_len (ks := dq.foldl (fun ks z => insK ks (upI z P)) (dp.foldl (marksP P) (done.foldl (marksC P) []))) (k := upI z P)
        simp [hu, s2]
        omega
      · rintro env w' ⟨e9, rfl, -, rfl⟩
        simp [marksP]
    · rintro env w' ⟨e7, e8, e9, rfl, rfl⟩
      simp [marksC]
  · rintro env w' ⟨e5, e6, e7, e8, e9, rfl, rfl⟩
    have hml := marks_len (P := P) (first := first) (last := last) hc
    have hk := marksK_len P cs [] (m := 1000) hs
    have hk' : 3 * 1000 * cs.length ≤ 3000000 := by omega
    simp at hk
    have hbl : (marksK P cs).length ≤ 3000000 := by unfold marksK; omega
    simp
    have hcell : (w ++ [Cell.dct ((cs.foldl (marksC P) []).map kvT)])[w.length]? = some (.dct ((cs.foldl (marksC P) []).map kvT)) := by simp
    rw [sealF_okD rfl hcell]
    have ek : ((cs.foldl (marksC P) []).map kvT).map (fun p => p.1) = (marksK P cs).map D.int := by simp [marksK, kvT, Function.comp_def]
    simp only [List.map_map] at ek
    simp [ek]
    refine wp_of (comp_if (fun d => decide (first ≤ d) && decide (d ≤ last)) D.int (by omega) (fun a ha acc => ?_) (fun a ha _ acc => ?_) (fun _ _ _ => rfl)) ?_
    · by_cases h1 : first ≤ a <;> simp [h1]
    · simp
    · have hso : ∀ w : W, biF G .sorted [.lst (((marksK P cs).filter fun d => decide (first ≤ d) && decide (d ≤ last)).map D.int)] w = .ok (.lst ((marks cs P first last).map D.int)) w := fun w => by
        simp [biF, intsD_mapI, marks]
      simp [hso]
      exact finQ_drop (by simp; exact nrL_map _ _ fun p _ => by simp) (by simp) (by simp)
theorem runsL_len (last : Int) : ∀ (l : List Int) (a : Int), (runsL last l a).length ≤ 2 * l.length + 1
  | [], a => by unfold runsL; split <;> simp
  | m :: r, a => by
    have := runsL_len last r (m + 1)
    rw [runsL_cons]
    split <;> simp <;> omega
theorem runs_len {cs : List Crowd} {P first last : Int} (hc : CrOk cs) : (runs cs P first last).length ≤ 6000001 := by
  have := runsL_len last (marks cs P first last) first
  have := marks_len (P := P) (first := first) (last := last) hc
  unfold runs; omega
theorem runs_of_eq (k : Nat) (cs : List Crowd) (P first last : Int) (w : W) (hc : CrOk cs) (hP : 2 ≤ P ∧ P ≤ 62) :
    run G (k + 3) 135 [.lst (cs.map crowdD), .int P, .int first, .int last] w = .ok (.lst ((runs cs P first last).map strD)) w := by
  rw [r135, b135]
  apply eq_wp
  have hmk := fun w => marks_of_eq k cs P first last w hc hP
  have hrl := runs_len (P := P) (first := first) (last := last) hc
  have hcell : ∀ l : List (Int × Int), (w ++ [Cell.lst (l.map strD)])[w.length]? = some (.lst (l.map strD)) := fun l => by simp
  have ap : ∀ (l : List (Int × Int)) (p : Int × Int), l.length ≤ 6000001 → bmF .append (.cel w.length) [.tup [.int p.1, .int p.2]] (w ++ [Cell.lst (l.map strD)]) = .ok .non (w ++ [.lst ((l ++ [p]).map strD)]) := fun l p hl => by
    rw [append_ok (hcell l) rfl (by simp; omega)]; simp [strD]
  have at_ : ∀ l : List (Int × Int), bmTy .append (.cel w.length) (w ++ [Cell.lst (l.map strD)]) = true := fun l => bmTy_append (hcell l)
  simp [hmk]
  refine loop_wp (fun done env w' => ∃ acc at_ e6, env = [some (.lst (cs.map crowdD)), some (.int P), some (.int first), some (.int last), some (.cel w.length), some (.int at_), e6] ∧ w' = w ++ [.lst (acc.map strD)] ∧ acc ++ runsL last ((marks cs P first last).drop done.length) at_ = runs cs P first last) ⟨[], first, none, rfl, rfl, by simp [runs]⟩ ?_ ?_
  · rintro m done rest he env w' ⟨acc, a, e6, rfl, rfl, hI⟩
    have hd : (marks cs P first last).drop done.length = m :: rest := by rw [he]; simp
    have hd2 : (marks cs P first last).drop (done ++ [m]).length = rest := by rw [he]; simp
    rw [hd, runsL_cons] at hI
    have hal : acc.length + 2 ≤ 6000001 ∨ acc.length + 1 ≤ 6000001 := by have := congrArg List.length hI; simp at this; omega
    by_cases h : a < m
    · rw [if_pos h] at hI
      have hal : acc.length + 2 ≤ 6000001 := by have := congrArg List.length hI; simp at this; omega
      have a1 := ap acc (a, m - a) (by omega)
      have a2 := ap (acc ++ [(a, m - a)]) (m, 1) (by simp; omega)
      simp [h, at_, a1, a2, -List.map_append]
      refine ⟨acc ++ [(a, m - a)] ++ [(m, 1)], by simp, ?_⟩
      rw [← hI]
      simp at hd2
      simp [hd2]
    · rw [if_neg h] at hI
      have hal : acc.length + 1 ≤ 6000001 := by have := congrArg List.length hI; simp at this; omega
      have a2 := ap acc (m, 1) (by omega)
      simp [h, at_, a2, -List.map_append]
      refine ⟨acc ++ [(m, 1)], rfl, ?_⟩
      rw [← hI]
      simp at hd2
      simp [hd2]
  · rintro env w' ⟨acc, a, e6, rfl, rfl, hI⟩
    simp [runsL] at hI
    simp
    by_cases h : a ≤ last
    · rw [if_pos h] at hI
      have hal : acc.length + 1 ≤ 6000001 := by have := congrArg List.length hI; simp at this; omega
      have a1 := ap acc (a, last + 1 - a) (by omega)
      simp [h, at_, a1, -List.map_append]
      rw [sealF_ok rfl (hcell _)]
      simp [hI, -List.map_append]
      exact finQ_drop (by simp; exact nrL_map _ _ fun p _ => by simp) (by simp) (by simp)
    · rw [if_neg h] at hI
      simp at hI
      simp [h]
      rw [sealF_ok rfl (hcell _)]
      simp [hI]
      exact finQ_drop (by simp; exact nrL_map _ _ fun p _ => by simp) (by simp) (by simp)
def billI (r : RuleR) (cs : List Crowd) (P first last : Int) : Int := sumF (fun t => chargeI r (countAt cs r.c P t)) first (last + 1 - first).toNat
theorem runs_ok {cs : List Crowd} {c : Kind} {P first last : Int} (hP : 2 ≤ P) (hf : fitsB P c = true) : (∀ p ∈ runs cs P first last, first ≤ p.1 ∧ p.1 ≤ last ∧ 1 ≤ p.2 ∧ p.2 ≤ last + 1 - first) ∧ (runs cs P first last).Pairwise (fun p q => p.1 < q.1) ∧ ∀ t, first ≤ t → t ≤ last → ∃ p ∈ runs cs P first last, p.1 ≤ t ∧ countAt cs c P p.1 = countAt cs c P t :=
  runs_cover (f := fun t => countAt cs c P t) marks_asc marks_in (marks_gap hP hf)
theorem bill_of_eq (k : Nat) (r : RuleR) (cs : List Crowd) (P first last : Int) (w : W) (hc : CrOk cs) (h : RuleOk r) (hP : 2 ≤ P ∧ P ≤ 62) (hf : fitsB P r.c = true) (h1 : 1 ≤ first) (h2 : last ≤ 1000000000000) :
    run G (k + 6) 131 [ruleD r, .lst (cs.map crowdD), .int P, .int first, .int last] w = .ok (.int (billI r cs P first last)) w := by
  rw [r131, b131]
  apply eq_wp
  have hr := fun w => runs_of_eq (k + 2) cs P first last w hc hP
  have hrl := runs_len (P := P) (first := first) (last := last) hc
  obtain ⟨ho, -, -⟩ := runs_ok (cs := cs) (c := r.c) (P := P) (first := first) (last := last) hP.1 hf
  simp [hr]
  refine wp_of (comp_map (fun p : Int × Int => .int (p.2 * chargeI r (countAt cs r.c P p.1))) (by omega) (fun p hp acc => ?_) (fun _ _ => rfl)) ?_
  · have hp' := ho p hp
    have hch := fun w => charge_in_eq k r cs P p.1 w hc h hP hf (by omega)
    simp [strD, hch, mulOk_small (i := p.2) (j := chargeI r (countAt cs r.c P p.1)) (by omega) (by omega)]
  · have hs := bi_sum G w (runs cs P first last) fun p => p.2 * chargeI r (countAt cs r.c P p.1)
    have e := bill_sum (cs := cs) (r := r) (first := first) (last := last) hP.1 hf
    simp [hs, e, billI]
theorem check_rule_ok (k : Nat) (r : RuleR) (w : W) : run G (k + 1) 132 [ruleD r] w = .ok .non w := by
  rw [r132, b132]; simp [ruleD]
theorem check_fit_ok {k : Nat} {r : RuleR} {P : Int} {w : W} (h : fitsB P r.c = true) : run G (k + 5) 133 [ruleD r, .int P] w = .ok .non w := by
  rw [r133, b133]; simp [attr_counted, check_count_ok h]
theorem check_periods_ok {k : Nat} {a b : Int} {w : W} (h1 : 1 ≤ a) (h2 : a ≤ b) (h3 : b ≤ 1000000000000) : run G (k + 4) 134 [.int a, .int b] w = .ok .non w := by
  rw [r134, b134]
  simp [check_number_ok (k := k) h1 (show a ≤ 1000000000000 by omega), check_number_ok (k := k) h2 h3]
theorem check_bill_ok {k : Nat} {r : RuleR} {gs : List Grp} {P a b : Int} {w : W} (hP : 2 ≤ P ∧ P ≤ 62) (hf : fitsB P r.c = true) (h1 : 1 ≤ a) (h2 : a ≤ b) (h3 : b ≤ 1000000000000) : run G (k + 6) 130 [ruleD r, rosterD gs, .int P, .int a, .int b] w = .ok .non w := by
  rw [r130, b130]
  have hcd : ∀ w, run G (k + 5) 71 [.int P] w = .ok .non w := fun w => check_days_ok (k := k + 1) hP
  have hcf : ∀ w, run G (k + 5) 133 [ruleD r, .int P] w = .ok .non w := fun w => check_fit_ok (k := k) hf
  have hcp : ∀ w, run G (k + 5) 134 [.int a, .int b] w = .ok .non w := fun w => check_periods_ok (k := k + 1) h1 h2 h3
  simp [check_rule_ok, check_roster_ok, hcd, hcf, hcp]
theorem crOk_of {gs : List Grp} (h : GrpsOk gs) : CrOk (crowdsOf gs) := ⟨by have := crowdsOf_few h; omega, crowdsOf_short h, crowdsOf_nn h⟩
theorem bill_ok {k : Nat} {r : RuleR} {gs : List Grp} {P a b : Int} {w : W} (hg : GrpsOk gs) (h : RuleOk r) (hP : 2 ≤ P ∧ P ≤ 62) (hf : fitsB P r.c = true) (h1 : 1 ≤ a) (h2 : a ≤ b) (h3 : b ≤ 1000000000000) : run G (k + 7) 129 [ruleD r, rosterD gs, .int P, .int a, .int b] w = .ok (.int (billI r (crowdsOf gs) P a b)) w := by
  rw [r129, b129]
  have hb := fun w => bill_of_eq k r (crowdsOf gs) P a b w (crOk_of hg) h hP hf h1 h3
  simp [check_bill_ok (k := k) hP hf h1 h2 h3, crowds_of_eq _ gs _ hg.len, hb]
end Sv

set_option Elab.async false
set_option linter.all false
set_option maxRecDepth 100000
set_option maxHeartbeats 1000000
namespace Sv
structure IsDear (f : Int → Int) (a b t : Int) : Prop where
  lo : a ≤ t
  hi : t ≤ b
  max : ∀ s, a ≤ s → s ≤ b → f s ≤ f t
  first : ∀ s, a ≤ s → s < t → f s ≠ f t
theorem IsDear.uniq {f : Int → Int} {a b t u : Int} (h : IsDear f a b t) (h' : IsDear f a b u) : t = u := by
  have e : f t = f u := by
    have := h.max u h'.lo h'.hi
    have := h'.max t h.lo h.hi
    omega
  have h1 : ¬ t < u := fun z => h'.first t h.lo z e
  have h2 : ¬ u < t := fun z => h.first u h'.lo z e.symm
  omega
def chT (r : RuleR) (cs : List Crowd) (P t : Int) : Int := chargeI r (countAt cs r.c P t)
end Sv

set_option Elab.async false
set_option linter.all false
set_option maxRecDepth 100000
set_option maxHeartbeats 1000000
namespace Sv
def offerD (r : RuleR) : D := .lst [kindD r.c, .int r.price, .int r.pack, .int r.least]
@[simp] theorem offerD_nr (r : RuleR) : (offerD r).noRef = true := by simp [offerD]
theorem offer_wp {k : Nat} {w : W} {i : Nat} {c : Kind} {t : Wl} {Q : R D → Prop} {s : Tag Q} (hi : i < w.length) (hc : fitsB 62 c = true)
    (h : ∀ (r : RuleR) u, r.c = c → RuleOk r → Q (.ok (offerD r) (pw w i u))) : wp (run G (k + 3) 49 [.cel i, kindD c] (pw w i t)) Q s := by
  rw [r49, b49]
  simp
  refine pick_wp hi (by simp) (by simp) fun x u hx => ?_
  obtain ⟨pr, hpr, rfl⟩ := mem_two (l := [1, 1, 2, 7, 12, 1000000000]) hx
  simp
  refine pick_wp hi (by simp) (by simp) fun x u hx => ?_
  obtain ⟨pk, hpk, rfl⟩ := mem_two (l := [1, 1, 2, 3, 5, 10, 50]) hx
  simp
  refine pick_wp hi (by simp) (by simp) fun x u hx => ?_
  obtain ⟨ls, hls, rfl⟩ := mem_two (l := [0, 0, 0, 1, 4, 10, 37]) hx
  simp
  exact h ⟨c, pr, pk, ls⟩ u rfl ⟨by simp at hpr; simp only; omega, by simp at hpk; simp only; omega, by simp at hls; simp only; omega, hc⟩
theorem made_eq {k : Nat} {r : RuleR} {w : W} (h : RuleOk r) : run G (k + 6) 51 [offerD r] w = .ok (ruleD r) w := by
  rw [r51, b51]
  have hm := fun w => rule_make (k := k) w h
  simp [offerD, hm, -m54_5]
def bigB : Int := 1000000000 * (1000000000000000000000000000000 + 50 * (62 * (64 * 10 ^ 30) + 1))
theorem fitsB_62 {P : Int} {c : Kind} (h : KOk P c) : fitsB 62 c = true := fits_62 h.f h.p.2
end Sv

set_option Elab.async false
set_option linter.all false
set_option maxRecDepth 100000
set_option maxHeartbeats 1000000
namespace Sv
theorem seen_app (xs ys : List Crowd) (a b : Int) : seenIn (xs ++ ys) a b = seenIn xs a b + seenIn ys a b := by
  simp [seenIn, List.filter_append]
theorem seen_perm {xs ys : List Crowd} (h : xs.Perm ys) (a b : Int) : seenIn xs a b = seenIn ys a b := perm_sumI ((h.filter _).map _)
theorem countAt_congr {cs ds : List Crowd} (h : ∀ a b, seenIn cs a b = seenIn ds a b) (c : Kind) (P t : Int) : countAt cs c P t = countAt ds c P t := by
  cases c <;> simp [countAt, dailyL, h]
theorem billI_congr {cs ds : List Crowd} (h : ∀ a b, seenIn cs a b = seenIn ds a b) (r : RuleR) (P a b : Int) : billI r cs P a b = billI r ds P a b := by
  simp [billI, countAt_congr h]
theorem maxO_mono {n : Nat} (hn : 1 ≤ n) {f g : Nat → Int} (h : ∀ i, f i ≤ g i) : maxO ((List.range n).map f) ≤ maxO ((List.range n).map g) := by
  have ne : ∀ f : Nat → Int, (List.range n).map f ≠ [] := fun f z => by have := congrArg List.length z; simp at this; omega
  obtain ⟨i, hi, e⟩ := List.mem_map.mp (maxO_is (ne f)).1
  have := (maxO_is (ne g)).2 (g i) (List.mem_map.mpr ⟨i, hi, rfl⟩)
  have := h i
  omega
theorem sumN_mono {n : Nat} {f g : Nat → Int} (h : ∀ i, f i ≤ g i) : ((List.range n).map f).sum ≤ ((List.range n).map g).sum := by
  induction List.range n with
  | nil => simp
  | cons x r ih => simp; have := h x; omega
theorem sorted_asc (l : List Int) : (l.mergeSort (· ≤ ·)).Pairwise fun a b => a ≤ b := by
  have := List.pairwise_mergeSort (le := fun a b : Int => decide (a ≤ b)) (fun a b c h1 h2 => by simp at *; omega) (fun a b => by simp; omega) l
  simpa using this
theorem count_le {l : List Int} {v : Int} {m : Nat} (hl : l.Pairwise fun a b => a ≤ b) (hm : l[m]? = some v) : l.countP (fun x => decide (x < v)) ≤ m := by
  obtain ⟨hlt, hv⟩ := List.getElem?_eq_some_iff.mp hm
  conv => lhs; rw [← List.take_append_drop m l]
  rw [List.countP_append]
  have h1 : (l.take m).countP (fun x => decide (x < v)) ≤ m := Nat.le_trans List.countP_le_length (by simp; omega)
  have h2 : (l.drop m).countP (fun x => decide (x < v)) = 0 := by
    rw [List.countP_eq_zero]
    intro x hx
    obtain ⟨j, hj, e⟩ := List.getElem_of_mem hx
    rw [List.getElem_drop] at e
    simp at hj
    have : v ≤ x := by
      by_cases hz : j = 0
      · subst hz; simp at e; omega
      · have := List.pairwise_iff_getElem.mp hl m (m + j) hlt (by omega) (by omega)
        rw [hv] at this
        rw [e] at this
        exact this
    simp; omega
  omega
theorem count_ge {l : List Int} {x v : Int} {m : Nat} (hl : l.Pairwise fun a b => a ≤ b) (hm : l[m]? = some x) (hx : x < v) : m + 1 ≤ l.countP (fun x => decide (x < v)) := by
  obtain ⟨hlt, hv⟩ := List.getElem?_eq_some_iff.mp hm
  conv => rhs; rw [← List.take_append_drop (m + 1) l]
  rw [List.countP_append]
  have h1 : (l.take (m + 1)).countP (fun x => decide (x < v)) = (l.take (m + 1)).length := by
    rw [List.countP_eq_length]
    intro y hy
    obtain ⟨j, hj, e⟩ := List.getElem_of_mem hy
    rw [List.getElem_take] at e
    simp at hj
    have : y ≤ x := by
      by_cases hz : j = m
      · subst hz; omega
      · have := List.pairwise_iff_getElem.mp hl j m (by omega) hlt (by omega)
        rw [hv, e] at this
        exact this
    simp; omega
  rw [h1]
  simp; omega
theorem rank_mono {n : Nat} {f g : Nat → Int} (h : ∀ i, f i ≤ g i) (m : Nat) : ((((List.range n).map f).mergeSort (· ≤ ·))[m]?).getD 0 ≤ ((((List.range n).map g).mergeSort (· ≤ ·))[m]?).getD 0 := by
  have l1 : (((List.range n).map f).mergeSort (· ≤ ·)).length = n := by rw [(List.mergeSort_perm _ _).length_eq]; simp
  have l2 : (((List.range n).map g).mergeSort (· ≤ ·)).length = n := by rw [(List.mergeSort_perm _ _).length_eq]; simp
  by_cases hm : m < n
  · obtain ⟨x, hx⟩ : ∃ x, (((List.range n).map f).mergeSort (· ≤ ·))[m]? = some x := ⟨_, List.getElem?_eq_getElem (by omega)⟩
    obtain ⟨y, hy⟩ : ∃ y, (((List.range n).map g).mergeSort (· ≤ ·))[m]? = some y := ⟨_, List.getElem?_eq_getElem (by omega)⟩
    rw [hx, hy]
    show x ≤ y
    by_cases hlt : y < x
    · have c1 := count_le (sorted_asc _) hx
      have c2 := count_ge (sorted_asc _) hy hlt
      rw [(List.mergeSort_perm _ _).countP_eq] at c1 c2
      have c3 : ((List.range n).map g).countP (fun z => decide (z < x)) ≤ ((List.range n).map f).countP (fun z => decide (z < x)) := by
        rw [List.countP_map, List.countP_map]
        refine List.countP_mono_left fun i _ hi => ?_
        simp at hi ⊢
        have := h i
        omega
      omega
    · omega
  · rw [List.getElem?_eq_none (by omega), List.getElem?_eq_none (by omega)]; exact Int.le_refl _
theorem upI_mono {a b p : Int} (hp : 0 < p) (h : a ≤ b) : upI a p ≤ upI b p := by
  have h1 := upI_spec (a := a) hp
  have h2 := upI_spec (a := b) hp
  have h3 : ¬ upI b p + 1 ≤ upI a p := fun z => by
    have := Int.mul_le_mul_of_nonneg_right (show upI b p ≤ upI a p - 1 by omega) (show 0 ≤ p by omega)
    omega
  omega
theorem countAt_mono {cs ds : List Crowd} (h : ∀ a b, seenIn cs a b ≤ seenIn ds a b) {c : Kind} {P : Int} (t : Int) (hP : 2 ≤ P) (hf : fitsB P c = true) : countAt cs c P t ≤ countAt ds c P t := by
  cases c with
  | win g =>
    simp [fitsB] at hf
    exact maxO_mono (by omega) fun i => h _ _
  | day j =>
    show ((dailyL cs _ _)[(j - 1).toNat]?).getD 0 ≤ ((dailyL ds _ _)[(j - 1).toNat]?).getD 0
    by_cases hj : (j - 1).toNat < P.toNat
    · simp only [dailyL, List.getElem?_map, List.getElem?_range hj, Option.map_some, Option.getD_some]
      exact h _ _
    · simp [dailyL, List.getElem?_eq_none, hj]
      rw [List.getElem?_eq_none (by simp; omega)]
      simp
  | rank r => exact rank_mono (fun i => h _ _) _
  | sum => exact sumN_mono fun i => h _ _
  | mean => exact upI_mono (by omega) (sumN_mono fun i => h _ _)
theorem charge_mono {r : RuleR} {a b : Int} (hr : RuleOk r) (h : a ≤ b) : chargeI r a ≤ chargeI r b := by
  have hp := hr.pack
  have hpr := hr.price
  have h1 := upI_mono (p := r.pack) (by omega) h
  have h2 : r.pack * upI a r.pack ≤ r.pack * upI b r.pack := Int.mul_le_mul_of_nonneg_left h1 (by omega)
  have h3 : seatsI r a ≤ seatsI r b := by unfold seatsI; omega
  exact Int.mul_le_mul_of_nonneg_left h3 (by omega)
theorem bill_mono {cs ds : List Crowd} {r : RuleR} (h : ∀ a b, seenIn cs a b ≤ seenIn ds a b) (hr : RuleOk r) {P : Int} (a b : Int) (hP : 2 ≤ P) (hf : fitsB P r.c = true) : billI r cs P a b ≤ billI r ds P a b :=
  sumN_mono fun i => charge_mono hr (countAt_mono h _ hP hf)
theorem maxO_mul {n : Nat} (hn : 1 ≤ n) {f : Nat → Int} {m : Int} (hm : 1 ≤ m) : maxO ((List.range n).map fun i => m * f i) = m * maxO ((List.range n).map f) := by
  have ne : ∀ f : Nat → Int, (List.range n).map f ≠ [] := fun f z => by have := congrArg List.length z; simp at this; omega
  have m1 := maxO_is (ne fun i => m * f i)
  have m2 := maxO_is (ne f)
  obtain ⟨i, hi, e⟩ := List.mem_map.mp m1.1
  obtain ⟨j, hj, e2⟩ := List.mem_map.mp m2.1
  have h1 := m1.2 (m * f j) (List.mem_map.mpr ⟨j, hj, rfl⟩)
  have h2 := m2.2 (f i) (List.mem_map.mpr ⟨i, hi, rfl⟩)
  have h3 : m * f i ≤ m * maxO ((List.range n).map f) := Int.mul_le_mul_of_nonneg_left h2 (by omega)
  rw [e2] at h1
  omega
theorem sumN_mul (l : List Int) (m : Int) : (l.map fun x => m * x).sum = m * l.sum := by
  induction l with
  | nil => simp
  | cons x r ih => simp [ih, Int.mul_add]
theorem sort_mul (l : List Int) {m : Int} (hm : 1 ≤ m) : (l.map fun x => m * x).mergeSort (· ≤ ·) = (l.mergeSort (· ≤ ·)).map fun x => m * x := by
  have hp : (((l.mergeSort (· ≤ ·)).map fun x => m * x).reverse).Perm (l.map fun x => m * x) := (List.reverse_perm _).trans ((List.mergeSort_perm _ _).map _)
  have hs := sorted_rev hp (by
    rw [List.pairwise_reverse]
    refine List.Pairwise.map _ (fun a b hab => ?_) (sorted_asc l)
    exact Int.mul_le_mul_of_nonneg_left hab (by omega))
  rw [hs, List.reverse_reverse]
theorem countAt_mul {cs ds : List Crowd} {m : Int} (hm : 1 ≤ m) (h : ∀ a b, seenIn ds a b = m * seenIn cs a b) {c : Kind} {P : Int} (t : Int) (hP : 2 ≤ P) (hf : fitsB P c = true) (hc : c ≠ .mean) : countAt ds c P t = m * countAt cs c P t := by
  have hd : ∀ a n, dailyL ds a n = (dailyL cs a n).map fun x => m * x := fun a n => by simp [dailyL, h]
  cases c with
  | win g =>
    simp [fitsB] at hf
    simp only [countAt, h]
    exact maxO_mul (by omega) hm
  | day j => simp only [countAt, ofDays, hd, List.getElem?_map]; cases (dailyL cs ((t - 1) * P + 1) P.toNat)[(j - 1).toNat]? <;> simp
  | rank r => simp only [countAt, ofDays, hd, sort_mul _ hm, List.getElem?_map]; cases ((dailyL cs ((t - 1) * P + 1) P.toNat).mergeSort (· ≤ ·))[(P - r).toNat]? <;> simp
  | sum => simp only [countAt, ofDays, hd, sumN_mul]
  | mean => exact absurd rfl hc
theorem seen_mul {cs : List Crowd} (m a b : Int) : seenIn (cs.map fun c => (c.1 * m, c.2)) a b = m * seenIn cs a b := by
  induction cs with
  | nil => simp [seenIn]
  | cons c r ih =>
    rw [List.map_cons, seen_cons, seen_cons, ih, Int.mul_add]
    simp only
    split
    · rw [Int.mul_comm]
    · simp
def putG (gs : List Grp) (n : Nat) (y : Grp) : List Grp := gs.take n ++ y :: gs.drop (n + 1)
def preG (gs : List Grp) (n : Nat) (y : Grp) : List Grp := gs.take n ++ [y]
def endG (gs : List Grp) (y : Grp) : List Grp := gs ++ [y]
theorem put_self {gs : List Grp} {n : Nat} {x : Grp} (hx : gs[n]? = some x) : putG gs n x = gs := by
  obtain ⟨h1, h2⟩ := List.getElem?_eq_some_iff.mp hx
  unfold putG
  rw [← h2, List.getElem_cons_drop, List.take_append_drop]
theorem seen_put (gs : List Grp) (n : Nat) (y : Grp) (a b : Int) : seenIn (crowdsOf (putG gs n y)) a b = seenIn (crowdsOf (gs.take n)) a b + ((if hereIn y.2.2 a b then y.2.1 else 0) + seenIn (crowdsOf (gs.drop (n + 1))) a b) := by
  unfold putG crowdsOf
  rw [List.map_append, List.map_cons, seen_app, seen_cons]
theorem seen_end (gs : List Grp) (y : Grp) (a b : Int) : seenIn (crowdsOf (endG gs y)) a b = seenIn (crowdsOf gs) a b + (if hereIn y.2.2 a b then y.2.1 else 0) := by
  unfold endG crowdsOf
  rw [List.map_append, seen_app, List.map_cons, List.map_nil, seen_cons]
  simp [seenIn]
theorem grps_put {gs : List Grp} {n : Nat} {x y : Grp} (h : GrpsOk gs) (hx : gs[n]? = some x) (hy : GrpOk y) (e : y.1 = x.1) : GrpsOk (putG gs n y) := by
  obtain ⟨h1, h2⟩ := List.getElem?_eq_some_iff.mp hx
  have hnm : (putG gs n y).map Prod.fst = gs.map Prod.fst := by
    conv => rhs; rw [← put_self hx]
    simp [putG, e]
  refine ⟨fun g hg => ?_, by simp [putG], ?_, by rw [hnm]; exact h.nd⟩
  · simp only [putG, List.mem_append, List.mem_cons] at hg
    rcases hg with hg | rfl | hg
    · exact h.ok g (List.mem_of_mem_take hg)
    · exact hy
    · exact h.ok g (List.mem_of_mem_drop hg)
  · have := congrArg List.length hnm
    simp only [List.length_map] at this
    rw [this]; exact h.len
theorem grps_end {gs : List Grp} {y : Grp} (h : GrpsOk gs) (hl : gs.length < 64) (hy : GrpOk y) (hn : y.1 ∉ gs.map Prod.fst) : GrpsOk (endG gs y) := by
  refine ⟨fun g hg => ?_, by simp [endG], by simp [endG]; omega, ?_⟩
  · simp only [endG, List.mem_append, List.mem_cons, List.not_mem_nil, or_false] at hg
    rcases hg with hg | rfl
    · exact h.ok g hg
    · exact hy
  · simp only [endG, List.map_append, List.map_cons, List.map_nil]
    rw [List.nodup_append]
    refine ⟨h.nd, by simp, fun a ha b hb e => ?_⟩
    simp at hb
    subst hb
    exact hn (e ▸ ha)
def tZoe : Tx := [122, 111, 101]
theorem zoe_ok : NameOk tZoe := ⟨by decide, by decide, by decide⟩
theorem zoe_new {mg : Nat} {ms far : Int} {gs : List Grp} (h : CrewOk mg ms far gs) : tZoe ∉ gs.map Prod.fst := by
  intro z
  obtain ⟨g, hg, e⟩ := List.mem_map.mp z
  have := h.menu g hg
  rw [e] at this
  revert this; decide
theorem put_names (gs : List Grp) (n : Nat) (x y : Grp) (hx : gs[n]? = some x) (e : y.1 = x.1) : (putG gs n y).map Prod.fst = gs.map Prod.fst := by
  conv => rhs; rw [← put_self hx]
  simp [putG, e]
def turnG (gs : List Grp) : List Grp := ((List.range gs.length).map fun (j : Nat) => (([113, 97 + j] : Tx), ((gs[j]?).getD ([], 0, [])).2)).reverse
theorem turn_crowds (gs : List Grp) : crowdsOf (turnG gs) = (crowdsOf gs).reverse := by
  unfold turnG crowdsOf
  rw [List.map_reverse, List.map_map]
  congr 1
  refine List.ext_getElem (by simp) fun i h1 h2 => ?_
  simp at h1 h2
  simp [h2]
theorem turn_ok {gs : List Grp} (h : GrpsOk gs) (hl : gs.length ≤ 20) : GrpsOk (turnG gs) := by
  refine ⟨fun g hg => ?_, ?_, by simp [turnG]; omega, ?_⟩
  · simp only [turnG, List.mem_reverse, List.mem_map, List.mem_range] at hg
    obtain ⟨j, hj, rfl⟩ := hg
    obtain ⟨x, hx⟩ : ∃ x, gs[j]? = some x := ⟨_, List.getElem?_eq_getElem hj⟩
    have := h.ok x (List.mem_of_getElem? hx)
    rw [hx]
    exact ⟨⟨by simp, by simp, fun c hc => by simp at hc; omega⟩, this.size, this.stays⟩
  · intro z
    have h1 := congrArg List.length z
    have h2 := List.length_pos_iff.mpr h.ne
    simp only [turnG, List.length_reverse, List.length_map, List.length_range, List.length_nil] at h1
    omega
  · simp only [turnG, List.map_reverse, List.map_map]
    rw [List.Nodup, List.pairwise_reverse, List.pairwise_map]
    refine List.Pairwise.imp (fun {a b} hab he => ?_) List.pairwise_lt_range
    simp at he
    omega
def longS (st : List Span) (d : Int) : List Span := st.dropLast ++ [(((st.getLast?).getD (0, 0)).1, ((st.getLast?).getD (0, 0)).2 + d)]
theorem long_stays {far d : Int} {st : List Span} (h : StaysOk far st) (hd : 0 ≤ d) : StaysOk (far + d) (longS st d) := by
  obtain ⟨q, hq⟩ : ∃ q, st.getLast? = some q := ⟨_, List.getLast?_eq_some_getLast h.ne⟩
  have hst : st = st.dropLast ++ [q] := by
    rw [List.getLast?_eq_some_iff] at hq
    obtain ⟨ys, rfl⟩ := hq
    simp
  have hs := h.sep
  have ho := h.ok
  have hl := h.len
  rw [hst] at hs ho hl
  unfold longS
  rw [hq]
  generalize st.dropLast = ys at *
  rw [List.pairwise_append] at hs
  refine ⟨by simp, by simpa using hl, fun p hp => ?_, ?_⟩
  · simp only [List.mem_append, List.mem_cons, List.not_mem_nil, or_false] at hp
    rcases hp with hp | rfl
    · have := ho p (by simp [hp]); omega
    · have := ho q (by simp); simp only [Option.getD_some]; omega
  · rw [List.pairwise_append]
    refine ⟨hs.1, by simp, fun a ha b hb => ?_⟩
    simp at hb
    subst hb
    exact hs.2.2 a ha q (by simp)
theorem long_here {st : List Span} {d a b : Int} (hne : st ≠ []) (hd : 0 ≤ d) (h : hereIn st a b = true) : hereIn (longS st d) a b = true := by
  obtain ⟨q, hq⟩ : ∃ q, st.getLast? = some q := ⟨_, List.getLast?_eq_some_getLast hne⟩
  have hst : st = st.dropLast ++ [q] := by
    rw [List.getLast?_eq_some_iff] at hq
    obtain ⟨ys, rfl⟩ := hq
    simp
  obtain ⟨p, hp, h1, h2⟩ := hereIn_iff.mp h
  rw [hst] at hp
  unfold longS
  rw [hq]
  simp only [List.mem_append, List.mem_cons, List.not_mem_nil, or_false] at hp
  refine hereIn_iff.mpr ?_
  rcases hp with hp | rfl
  · exact ⟨p, by simp [hp], h1, h2⟩
  · exact ⟨(p.1, p.2 + d), by simp, h1, by simp only; omega⟩
def mulG (m : Int) (g : Grp) : Grp := (g.1, g.2.1 * m, g.2.2)
theorem mul_crowds (m : Int) (gs : List Grp) : crowdsOf (gs.map (mulG m)) = (crowdsOf gs).map fun c => (c.1 * m, c.2) := by
  simp [crowdsOf, mulG, Function.comp_def]
theorem mul_ok {mg : Nat} {ms far m : Int} {gs : List Grp} (h : CrewOk mg ms far gs) (hm : mg ≤ 64) (h1 : 1 ≤ m) (h2 : ms * m ≤ 10 ^ 30) (hf : far ≤ 1000000000000) : GrpsOk (gs.map (mulG m)) := by
  refine ⟨fun g hg => ?_, ?_, ?_, ?_⟩
  · obtain ⟨g0, hg0, rfl⟩ := List.mem_map.mp hg
    have hs := h.size g0 hg0
    have h3 : g0.2.1 * m ≤ ms * m := Int.mul_le_mul_of_nonneg_right hs.2 (by omega)
    have h4 : 1 * 1 ≤ g0.2.1 * m := Int.mul_le_mul hs.1 h1 (by omega) (by omega)
    exact ⟨h.name g0 hg0, ⟨by simp only [mulG]; omega, by simp only [mulG]; omega⟩, (h.stays g0 hg0).mono hf⟩
  · intro z
    have := h.pos
    rw [List.map_eq_nil_iff.mp z] at this; simp at this
  · have := h.len; simp; omega
  · rw [List.map_map]; exact h.nd
end Sv

set_option Elab.async false
set_option linter.all false
set_option maxRecDepth 100000
set_option maxHeartbeats 1000000
namespace Sv
theorem app_tyw {w : W} {xs : List D} : bmTy .append (.cel w.length) (w ++ [.lst xs]) = true := bmTy_append (xs := xs) (by simp)
theorem app_w {w : W} {xs : List D} {d : D} (h1 : d.noRef = true) (h2 : xs.length < 16000000) : bmF .append (.cel w.length) [d] (w ++ [.lst xs]) = .ok .non (w ++ [.lst (xs ++ [d])]) := by
  rw [append_ok (xs := xs) (by simp) h1 h2, List.set_append_right _ _ (by omega)]; simp
theorem seal_w {w : W} {n : Nat} {xs : List D} {env : Env} (h1 : locF env n = some (.cel w.length)) : sealF n env (w ++ [.lst xs]) = .next (env.set n (some (.lst xs))) (w ++ [.dead]) := by
  rw [sealF_ok (xs := xs) h1 (by simp), List.set_append_right _ _ (by omega)]; simp
theorem newL_cell (xs : List D) (w : W) (h : xs.length ≤ 16000000) (h2 : D.noRefL xs = true) : newL true xs w = .ok (.cel w.length) (w ++ [.lst xs]) := by
  unfold newL
  rw [if_neg (by omega), if_pos rfl, if_pos h2]
def allR (cs : List Crowd) (P : Int) (r : RuleR) : List Int := [countAt cs r.c P 1, countAt cs r.c P 2, countAt cs r.c P 3, countAt cs r.c P 4, billI r cs P 1 1000000000000]
def allL (cs : List Crowd) (rs : List RuleR) (P : Int) : List Int := rs.flatMap (allR cs P)
structure RsOk (P : Int) (rs : List RuleR) : Prop where
  len : rs.length ≤ 10
  ok : ∀ r ∈ rs, RuleOk r ∧ fitsB P r.c = true
theorem all_eq {k : Nat} {gs : List Grp} {rs : List RuleR} {P : Int} {w : W} (hg : GrpsOk gs) (hr : RsOk P rs) (hP : 2 ≤ P ∧ P ≤ 62) : run G (k + 13) 128 [.lst (gs.map rowD), .lst (rs.map offerD), .int P] w = .ok (.lst ((allL (crowdsOf gs) rs P).map .int)) w := by
  rw [r128, b128]
  apply eq_wp
  have hsh := fun w => sheet_ok (k := k + 11) (w := w) hg.ok hg.len
  have hmk := fun w => roster_make (k := k + 4) w hg
  simp [hsh, hmk, -m7_2]
  refine loop_wp (fun (done : List RuleR) env w' => ∃ (e5 e6 : Option D) (g : W), env = [some (.lst (gs.map rowD)), some (.lst (rs.map offerD)), some (.int P), some (rosterD gs), some (.lst ((allL (crowdsOf gs) done P).map .int)), e5, e6] ∧ w' = w ++ g) ⟨_, _, [], rfl, by simp⟩ ?_ ?_
  · rintro r done rest he env w' ⟨e5, e6, g, rfl, rfl⟩
    obtain ⟨hr1, hr2⟩ := hr.ok r (by rw [he]; simp)
    have hdl : done.length ≤ 10 := by have := hr.len; rw [he] at this; simp at this; omega
    have hal : ((allL (crowdsOf gs) done P).map D.int).length ≤ 50 := by
      rw [List.length_map]
      have : ∀ l : List RuleR, (allL (crowdsOf gs) l P).length = 5 * l.length := by
        intro l
        induction l with
        | nil => rfl
        | cons a b ih => simp only [allL, List.flatMap_cons, List.length_append] at ih ⊢; rw [ih]; simp [allR]; omega
      rw [this]; omega
    have hm1 := fun w => made_eq (k := k + 6) (r := r) (w := w) hr1
    have hbl := fun w => bill_ok (k := k + 5) (w := w) (a := 1) (b := 1000000000000) hg hr1 hP hr2 (by omega) (by omega) (by omega)
    simp
    rw [show rangeD 1 4 = ([1, 2, 3, 4] : List Int).map D.int from rfl]
    refine wp_of (comp_map (fun (j : Int) => .int (countAt (crowdsOf gs) r.c P j)) (by simp) (fun j hj acc => ?_) (fun _ _ => rfl)) ?_
    · have hj : 1 ≤ j ∧ j ≤ 1000000000000 := by simp at hj; omega
      have hci := fun w => count_in_ok (k := k + 6) (w := w) hg hP hr2 hj
      simp [offerD, hci]
    · simp [catF]
      obtain ⟨w1, hw1⟩ : ∃ w1, w1 = w ++ g := ⟨_, rfl⟩
      rw [← hw1]
      have hx : ∀ l : List D, l.length = 4 → ((allL (crowdsOf gs) done P).map D.int ++ l).length < 16000000 := fun l hl => by rw [List.length_append]; omega
      obtain ⟨al, hal2⟩ : ∃ al, al = (allL (crowdsOf gs) done P).map D.int := ⟨_, rfl⟩
      have hnr : D.noRefL al = true := by rw [hal2]; exact nrL_map _ _ fun _ _ => rfl
      have hnrA : ∀ a b c d : Int, D.noRefL (al ++ [.int a, .int b, .int c, .int d]) = true := fun a b c d => by
        rw [hal2, show ([.int a, .int b, .int c, .int d] : List D) = [a, b, c, d].map D.int from rfl, ← List.map_append]
        exact nrL_map _ _ fun _ _ => rfl
      have happ := fun (w : W) (l : List D) (d : D) (hl : l.length = 4) (hd : d.noRef = true) => app_w (w := w) hd (hx l hl)
      rw [← hal2] at hx happ hal ⊢
      have hnl := fun (w : W) (a b c d : Int) => newL_cell (al ++ [.int a, .int b, .int c, .int d]) w (by have := hx [.int a, .int b, .int c, .int d] rfl; omega) (hnrA a b c d)
      simp [app_tyw, happ, seal_w, hnl, offerD]
      rw [← offerD]
      simp [hm1, hbl, app_tyw, happ, seal_w]
      refine ⟨?_, g ++ [.dead], ?_⟩
      · rw [hal2]; simp [allL, allR]
      · rw [hw1]; simp
  · rintro env w' ⟨e5, e6, g, rfl, rfl⟩
    simp
    refine finQ_drop (by simp; exact nrL_map _ _ fun _ _ => rfl) (by simp) ?_
    simp
def t33 (i : Nat) (w : W) (done : List Nat) (env : Env) (w' : W) : Prop := ∃ (e1 e2 e3 e4 e5 e6 e7 e8 e9 f0 f1 f2 f3 f4 f5 f6 f7 f8 f9 g0 g1 : Option D) (u : Wl), env = [some (.cel i), e1, e2, e3, e4, e5, e6, e7, e8, e9, f0, f1, f2, f3, f4, f5, f6, f7, f8, f9, g0, g1] ∧ w' = pw w i u
def offI (w : W) (i : Nat) (P : Int) (done : List Nat) (ys : List D) (w' : W) : Prop := ∃ rs : List RuleR, ys = rs.map offerD ∧ rs.length = done.length ∧ (∀ r ∈ rs, RuleOk r ∧ fitsB P r.c = true) ∧ ∃ u, w' = pw w i u
theorem wpo_join {p : Prop} [Decidable p] {x y : O} {t : Tag x} {u : Tag y} {Q : O → Prop} {s : Tag Q} (I : O → Prop) (h1 : p → wpo x I ⟨⟩) (h2 : ¬ p → wpo y I ⟨⟩) (h3 : ∀ o, I o → Q o) : wpo (sel (decide p) x y t u) Q s :=
  wpo_selP (fun h => h3 _ (h1 h)) fun h => h3 _ (h2 h)
theorem pre_cat (gs : List Grp) (n : Nat) (h : gs.length ≤ 4) (s : Tx) (v : Int) (l : List Span) : binop .add (.lst ((gs.map rowD).take n)) (.lst [.lst [.str s, .int v, .lst (l.map spanD)]]) = some (.lst ((preG gs n (s, v, l)).map rowD)) := by
  rw [o_cat _ _ (by simp; omega)]; simp [preG, rowD]
theorem put_cat (gs : List Grp) (n : Nat) (y : Grp) (h : gs.length ≤ 4) : binop .add (.lst ((preG gs n y).map rowD)) (.lst ((gs.map rowD).drop (n + 1))) = some (.lst ((putG gs n y).map rowD)) := by
  rw [o_cat _ _ (by simp [preG]; omega)]; simp [preG, putG]
theorem end_cat (gs : List Grp) (h : gs.length ≤ 10) (s : Tx) (v : Int) (l : List Span) : binop .add (.lst (gs.map rowD)) (.lst [.lst [.str s, .int v, .lst (l.map spanD)]]) = some (.lst ((endG gs (s, v, l)).map rowD)) := by
  rw [o_cat _ _ (by simp; omega)]; simp [endG, rowD]
theorem allL_congr {cs ds : List Crowd} (h : ∀ a b, seenIn cs a b = seenIn ds a b) (rs : List RuleR) (P : Int) : allL cs rs P = allL ds rs P := by
  have e : allR cs P = allR ds P := by
    funext r
    simp [allR, countAt_congr h, billI_congr h]
  unfold allL
  rw [e]
def j33 (E : Option D → Option D → Env) (w : W) (i : Nat) (o : O) : Prop := ∃ (e8 e9 : Option D) (u : Wl), o = .next (E e8 e9) (pw w i u)
theorem intsD_ok (l : List Int) : (D.lst (l.map .int)).dataOk = true := dataOk_lstM (fun _ _ => rfl) (fun _ _ => by simp [D.dep])
theorem intsD_eqv (l : List Int) : D.eqvL (l.map .int) (l.map .int) = true := by
  induction l with
  | nil => simp
  | cons x r ih => simp [ih]
theorem tZoe_eq : tZoe = [122, 111, 101] := rfl
theorem abc_get (gs : List Grp) (j : Nat) (h : j < 6) : ([97, 98, 99, 100, 101, 102] : Tx)[j]? = some (97 + j) := by
  have : j = 0 ∨ j = 1 ∨ j = 2 ∨ j = 3 ∨ j = 4 ∨ j = 5 := by omega
  rcases this with rfl | rfl | rfl | rfl | rfl | rfl <;> rfl
theorem long_cat {far : Int} {st : List Span} {q : Span} (h : StaysOk far st) (hq : st.getLast? = some q) (d : Int) : binop .add (.lst ((st.map spanD).dropLast)) (.lst [.tup [.int q.1, .int (q.2 + 1 + d)]]) = some (.lst ((longS st (1 + d)).map spanD)) := by
  have hl := h.len
  rw [o_cat _ _ (by simp; omega)]
  simp [longS, hq, spanD, List.map_dropLast, Int.add_assoc]
def keysR (rs : List RuleR) : List (RuleR × Int) := rs.flatMap fun r => [(r, 1), (r, 2), (r, 3), (r, 4), (r, 0)]
def valR (cs : List Crowd) (P : Int) (p : RuleR × Int) : Int := if p.2 = 0 then billI p.1 cs P 1 1000000000000 else countAt cs p.1.c P p.2
theorem allL_keys (cs : List Crowd) (rs : List RuleR) (P : Int) : allL cs rs P = (keysR rs).map (valR cs P) := by
  unfold allL keysR
  rw [List.map_flatMap]
  congr 1
theorem allL_le {cs ds : List Crowd} {rs : List RuleR} {P : Int} (h : ∀ a b, seenIn cs a b ≤ seenIn ds a b) (hr : RsOk P rs) (hP : 2 ≤ P) {j : Nat} (hj : j < (allL cs rs P).length) : ∃ x y, (allL cs rs P)[j]? = some x ∧ (allL ds rs P)[j]? = some y ∧ x ≤ y := by
  rw [allL_keys] at hj ⊢
  rw [allL_keys]
  simp only [List.length_map] at hj
  obtain ⟨p, hp⟩ : ∃ p, (keysR rs)[j]? = some p := ⟨_, List.getElem?_eq_getElem hj⟩
  have hm := List.mem_of_getElem? hp
  simp only [keysR, List.mem_flatMap] at hm
  obtain ⟨r, hrm, hpm⟩ := hm
  have hrr := hr.ok r hrm
  have e : p.1 = r := by
    simp only [List.mem_cons, List.not_mem_nil, or_false] at hpm
    rcases hpm with rfl | rfl | rfl | rfl | rfl <;> rfl
  refine ⟨valR cs P p, valR ds P p, by simp [hp], by simp [hp], ?_⟩
  unfold valR
  rw [e]
  split
  · exact bill_mono h hrr.1 _ _ hP hrr.2
  · exact countAt_mono h _ hP hrr.2
def l33 (E : Option D → Option D → Env) (w : W) (i : Nat) (u : Wl) (done : List RuleR) (env : Env) (w' : W) : Prop := ∃ (e8 e9 : Option D), env = E e8 e9 ∧ w' = pw w i u
theorem right33_ok {k : Nat} {w : W} {i : Nat} {t : Wl} (hi : i < w.length) : wp (run G (k + 14) 127 [.cel i] (pw w i t)) (okQ w i) ⟨⟩ := by
  rw [r127, b127]
  simp [rangeD]
  refine loop_wp (t33 i w) ⟨_, _, _, _, _, _, _, _, _, _, _, _, _, _, _, _, _, _, _, _, _, t, rfl, rfl⟩ ?_ ?_
  · rintro a done rest he env w' ⟨e1, e2, e3, e4, e5, e6, e7, e8, e9, f0, f1, f2, f3, f4, f5, f6, f7, f8, f9, g0, g1, u, rfl, rfl⟩
    have hi1 : ∀ l : W, i < (w ++ l).length := fun l => by simp; omega
    simp
    refine pick_wp hi (by simp) (by simp) fun x u hx => ?_
    obtain ⟨ms, hms, rfl⟩ := mem_two (l := [7, 10000000000000000000000000000]) hx
    have f2' : 1 ≤ ms ∧ ms ≤ 10 ^ 28 := by rw [show (10 : Int) ^ 28 = 10000000000000000000000000000 from by decide]; simp at hms; omega
    have f30 : (10 : Int) ^ 28 * 62 ≤ 10 ^ 30 := by decide
    simp
    refine crew_wp (mg := 4) (far := 50) hi (by omega) (by omega) (by omega) f2'.1 fun gs u hc => ?_
    have hg := hc.grps (by omega) (by omega) (by omega)
    simp
    refine pick_wp hi (by simp) (by simp) fun x u hx => ?_
    obtain ⟨P, hP, rfl⟩ := mem_two (l := [2, 7, 14, 31]) hx
    have hP : 2 ≤ P ∧ P ≤ 62 := by simp at hP; omega
    simp
    rw [show rangeD 0 3 = (List.range 3).map fun (j : Nat) => D.int (0 + (j : Int)) from rfl]
    refine comp_wp (offI w i P) (by simp) ⟨[], by simp, rfl, by simp, u, rfl⟩ ?_ ?_ ?_
    · rintro d ys w' ⟨rs, h1, h2, h3, u, rfl⟩; simp
    · rintro j done2 rest2 ys he2 w' ⟨rs, h1, h2, h3, u, rfl⟩
      simp [pw_app hi]
      refine kind_wp (hi1 _) hP fun c u hcc => ?_
      simp
      refine offer_wp (hi1 _) (fitsB_62 hcc) fun r u hrc hr => ?_
      refine ⟨offerD r, pw w i u, by rw [pw_app hi], by simp, rs ++ [r], by simp [h1], by simp [h2], ?_, u, rfl⟩
      intro r' hr'
      simp at hr'
      rcases hr' with hr' | rfl
      · exact h3 r' hr'
      · exact ⟨hr, by rw [hrc]; exact hcc.f⟩
    · rintro ys w' hlen ⟨rs, rfl, h2, h3, u, rfl⟩
      have hrs : RsOk P rs := ⟨by simp at h2; omega, h3⟩
      have ha := fun w (ds : List Grp) (hd : GrpsOk ds) => all_eq (k := k) (w := w) hd hrs hP
      have hlg := hc.pos
      have hlg2 := hc.len
      simp [ha, hg]
      refine dip_wp hi (by omega) (by omega) fun q u hq1 hq2 => ?_
      obtain ⟨n, rfl⟩ := Int.eq_ofNat_of_zero_le hq1
      obtain ⟨x, hx⟩ : ∃ x, gs[n]? = some x := ⟨_, List.getElem?_eq_getElem (by omega)⟩
      obtain ⟨nm, z, st⟩ := x
      have hxm := List.mem_of_getElem? hx
      have hz := hc.size _ hxm
      have hst := hc.stays _ hxm
      have hnm := hc.name _ hxm
      simp only at hz hst hnm
      have hgl : gs.length ≤ 4 := hc.len
      have hzn := zoe_new hc
      have hA := fun s v l => pre_cat gs n hgl s v l
      have hB := fun y => put_cat gs n y hgl
      have hC := fun (ds : List Grp) (h : ds.length ≤ 10) s v l => end_cat ds h s v l
      have hpl : ∀ y, (putG gs n y).length ≤ 10 := fun y => by simp [putG]; omega
      have hdr : cut (gs.map rowD) (.int ((n : Int) + 1)) .non = some ((gs.map rowD).drop (n + 1)) := cut_from _ _ (by omega)
      have hne := fun w (l : List Int) => cmp_ne (G := G) (cl := run G (k + 13)) (w := w) (x := .lst (l.map .int)) (y := .lst (l.map .int)) (intsD_ok l) (intsD_ok l)
      simp [hx, rowD]
      refine wpo_join (j33 (fun e8 e9 => [some (.cel i), some (.int a), some (.lst (gs.map rowD)), some (.int P), some (.lst (rs.map offerD)), some (.lst ((allL (crowdsOf gs) rs P).map .int)), some (.int n), some (.lst [.str nm, .int z, .lst (st.map spanD)]), e8, e9, f0, f1, f2, f3, f4, f5, f6, f7, f8, f9, g0, g1]) w i) (fun hz2 => ?_) (fun hz2 => ?_) ?_
      · simp
        refine up_wp hi (by omega) fun p u hp1 hp2 => ?_
        have hsplit : GrpsOk (endG (putG gs n (nm, z - p, st)) (tZoe, p, st)) := grps_end (grps_put hg hx ⟨hnm, by simp only; omega, hst.mono (by omega)⟩ rfl) (by have := hpl (nm, z - p, st); omega) ⟨zoe_ok, by simp only; omega, hst.mono (by omega)⟩ (by rw [put_names gs n (nm, z, st) (nm, z - p, st) hx rfl]; exact hzn)
        have hsame : allL (crowdsOf (endG (putG gs n (nm, z - p, st)) (tZoe, p, st))) rs P = allL (crowdsOf gs) rs P := allL_congr (fun a b => by
          rw [seen_end, seen_put]
          conv => rhs; rw [← put_self hx, seen_put]
          simp only
          split <;> omega) rs P
        simp [hA, hdr, hB, hC _ (hpl _), ← tZoe_eq, ha, hsplit, hsame, hne, intsD_eqv, -cut_from]
        exact ⟨_, _, u, rfl⟩
      · simp
        exact ⟨_, _, u, rfl⟩
      · rintro o ⟨e8, e9, u, rfl⟩
        have hr1 : rangeOf [.int (gs.length : Int)] = some (rangeD 0 gs.length) := range_one _ (by omega) (by omega)
        have hgn := fun j => abc_get gs j
        have hsame2 : allL (crowdsOf (turnG gs)) rs P = allL (crowdsOf gs) rs P := allL_congr (fun a b => by
          rw [turn_crowds]; exact seen_perm (List.reverse_perm _) a b) rs P
        have htu := turn_ok hg (by omega)
        simp [hr1]
        rw [show rangeD 0 gs.length = (List.range gs.length).map fun (j : Nat) => D.int (0 + (j : Int)) from rfl]
        refine wp_of (comp_map (fun (j : Nat) => rowD (([113, 97 + j] : Tx), ((gs[j]?).getD ([], 0, [])).2)) (by simp; omega) (fun j hj acc => ?_) (fun j _ => by simp [rowD])) ?_
        · rw [List.mem_range] at hj
          obtain ⟨x, hx2⟩ : ∃ x, gs[j]? = some x := ⟨_, List.getElem?_eq_getElem hj⟩
          have hj6 := hgn j (by omega)
          simp [hx2, hj6, rowD]
        · have hrv : revF (.lst ((List.range gs.length).map fun (j : Nat) => rowD (([113, 97 + j] : Tx), ((gs[j]?).getD ([], 0, [])).2))) = some (.lst ((turnG gs).map rowD)) := by
            rw [revF_lst]
            simp only [turnG, List.map_reverse, List.map_map]
            rfl
          simp [hrv, -revF_lst, ha, htu, hsame2, hne, intsD_eqv]
          refine up_wp hi (by omega) fun v u hv1 hv2 => ?_
          simp
          refine spans_wp hi (by omega) fun l u hl hl4 => ?_
          have hmore : GrpsOk (endG gs (tZoe, v, l)) := grps_end hg (by omega) ⟨zoe_ok, by simp only; omega, hl.mono (by omega)⟩ hzn
          obtain ⟨q, hq⟩ : ∃ q, st.getLast? = some q := ⟨_, List.getLast?_eq_some_getLast hst.ne⟩
          have hlo := fun d => long_cat hst hq d
          simp [hC gs (by omega), ← tZoe_eq, ha, hmore, hq, spanD]
          refine dip_wp hi (by omega) (by omega) fun d u hd1 hd2 => ?_
          have hlong : GrpsOk (putG gs n (nm, z, longS st (1 + d))) := grps_put hg hx ⟨hnm, by simp only; omega, (long_stays hst (by omega)).mono (by omega)⟩ rfl
          simp [hlo, hA, hdr, hB, ha, hlong, -cut_from]
          have hL : (allL (crowdsOf gs) rs P).length ≤ 50 := by
            have : ∀ l : List RuleR, (allL (crowdsOf gs) l P).length = 5 * l.length := by
              intro l
              induction l with
              | nil => rfl
              | cons a b ih => simp only [allL, List.flatMap_cons, List.length_append] at ih ⊢; rw [ih]; simp [allR]; omega
            rw [this]; have := hrs.len; omega
          have hr2 : rangeOf [.int ((allL (crowdsOf gs) rs P).length : Int)] = some (rangeD 0 (allL (crowdsOf gs) rs P).length) := range_one _ (by omega) (by omega)
          have hse1 : ∀ a b, seenIn (crowdsOf gs) a b ≤ seenIn (crowdsOf (endG gs (tZoe, v, l))) a b := fun a b => by
            rw [seen_end]; simp only; split <;> omega
          have hse2 : ∀ a b, seenIn (crowdsOf gs) a b ≤ seenIn (crowdsOf (putG gs n (nm, z, longS st (1 + d)))) a b := fun a b => by
            conv => lhs; rw [← put_self hx]
            rw [seen_put, seen_put]
            simp only
            by_cases hh : hereIn st a b = true
            · rw [if_pos hh, if_pos (long_here hst.ne (by omega) hh)]; omega
            · rw [if_neg hh]; split <;> omega
          simp [hr2]
          rw [show rangeD 0 (allL (crowdsOf gs) rs P).length = (List.range (allL (crowdsOf gs) rs P).length).map fun (j : Nat) => D.int (0 + (j : Int)) from rfl]
          refine wp_of (comp_if (fun (j : Nat) => false) (fun (j : Nat) => .int (j : Int)) (by simp; omega) (fun j hj acc => ?_) (fun j hj hf acc => by simp at hf) (fun _ _ _ => rfl)) ?_
          · rw [List.mem_range] at hj
            obtain ⟨x1, y1, q1, q2, q3⟩ := allL_le hse1 hrs hP.1 hj
            obtain ⟨x2, y2, q4, q5, q6⟩ := allL_le hse2 hrs hP.1 hj
            rw [q1] at q4
            obtain rfl := Option.some.inj q4
            have n1 : ¬ y1 < x1 := by omega
            have n2 : ¬ y2 < x1 := by omega
            simp [q1, q2, q5, n1, n2]
          · rw [show (List.range (allL (crowdsOf gs) rs P).length).filter (fun _ => false) = [] by simp]
            have hnil := fun w => cmp_neNilL (G := G) (cl := run G (k + 13)) (xs := []) (w := w) rfl
            simp [hnil]
            refine pick_wp hi (by simp) (by simp) fun x u hx3 => ?_
            obtain ⟨m, hm, rfl⟩ := mem_two (l := [2, 3, 10, 62]) hx3
            have hm : 2 ≤ m ∧ m ≤ 62 := by simp at hm; omega
            have hmul : GrpsOk (gs.map (mulG m)) := mul_ok hc (by omega) (by omega) (by
              have : ms * m ≤ 10 ^ 28 * 62 := Int.mul_le_mul f2'.2 hm.2 (by omega) (by omega)
              omega) (by omega)
            simp
            refine wp_of (comp_map (φ := rowD) (fun g : Grp => rowD (mulG m g)) (by omega) (fun g hgm acc => ?_) (fun g _ => by simp [rowD])) ?_
            · have hmm : mulOk g.2.1 m = true := mulOk_smallR (by omega) (by omega)
              simp [rowD, hmm, mulG]
            · have e7 : (gs.map fun g : Grp => rowD (mulG m g)) = (gs.map (mulG m)).map rowD := by rw [List.map_map]; rfl
              rw [e7]
              have hsh := fun w => sheet_ok (k := k + 12) (w := w) hg.ok hg.len
              have hmk := fun w => roster_make (k := k + 5) w hg
              have hsh2 := fun w => sheet_ok (k := k + 12) (w := w) hmul.ok hmul.len
              have hmk2 := fun w => roster_make (k := k + 5) w hmul
              obtain ⟨gm, hgm⟩ : ∃ gm, gm = gs.map (mulG m) := ⟨_, rfl⟩
              rw [← hgm] at hsh2 hmk2 hmul ⊢
              have hsm : ∀ a b, seenIn (crowdsOf gm) a b = m * seenIn (crowdsOf gs) a b := fun a b => by rw [hgm, mul_crowds, seen_mul]
              simp [hsh, hmk, hsh2, hmk2, -m7_2]
              refine loop_wp (l33 (fun f8 f9 => [some (.cel i), some (.int a), some (.lst (gs.map rowD)), some (.int P), some (.lst (rs.map offerD)), some (.lst ((allL (crowdsOf gs) rs P).map .int)), some (.int n), some (.lst [.str nm, .int z, .lst (st.map spanD)]), e8, e9, some (.lst ((turnG gs).map rowD)), some (.lst ((allL (crowdsOf (endG gs (tZoe, v, l))) rs P).map .int)), some (.lst ((putG gs n (nm, z, longS st (1 + d))).map rowD)), some (.lst ((allL (crowdsOf (putG gs n (nm, z, longS st (1 + d)))) rs P).map .int)), some (.int m), some (.lst (gm.map rowD)), some (rosterD gs), some (rosterD gm), f8, f9, g0, g1]) w i u) ⟨f8, f9, rfl, rfl⟩ ?_ ?_
              · rintro r done3 rest3 he3 env w' ⟨h8, h9, rfl, rfl⟩
                obtain ⟨hr1', hr2'⟩ := hrs.ok r (by rw [he3]; simp)
                have hmm : ∀ c, mulOk m (countAt (crowdsOf gs) c P 1) = true := fun c => mulOk_small (by omega) (by omega)
                by_cases hcm : r.c = .mean
                · have hk : ∀ w, cmpF G (run G (k + 13)) .ne (kindD r.c) (.tup [.str [109, 101, 97, 110]]) w = .ok (.bl false) w := fun w => by
                    have := cmp_ne (G := G) (cl := run G (k + 13)) (w := w) (kindD_ok r.c) (kindD_ok .mean)
                    rw [kindD_eqv, decide_eq_true hcm] at this
                    exact this
                  have hc1 := fun w => count_in_ok (k := k + 7) (w := w) (c := .sum) (t := 1) hg hP rfl (by omega)
                  have hc2 := fun w => count_in_ok (k := k + 7) (w := w) (c := .sum) (t := 1) hmul hP rfl (by omega)
                  have hcc := countAt_mul (cs := crowdsOf gs) (ds := crowdsOf gm) (m := m) (by omega) hsm (c := .sum) 1 hP.1 rfl (by simp)
                  rw [hcc] at hc2
                  simp only [kindD, tSum] at hc1 hc2
                  simp [offerD, hk, hc1, hc2, hmm]
                  exact ⟨_, _, rfl, rfl⟩
                · have hk : ∀ w, cmpF G (run G (k + 13)) .ne (kindD r.c) (.tup [.str [109, 101, 97, 110]]) w = .ok (.bl true) w := fun w => by
                    have := cmp_ne (G := G) (cl := run G (k + 13)) (w := w) (kindD_ok r.c) (kindD_ok .mean)
                    rw [kindD_eqv, decide_eq_false hcm] at this
                    exact this
                  have hc1 := fun w => count_in_ok (k := k + 7) (w := w) (c := r.c) (t := 1) hg hP hr2' (by omega)
                  have hc2 := fun w => count_in_ok (k := k + 7) (w := w) (c := r.c) (t := 1) hmul hP hr2' (by omega)
                  have hcc := countAt_mul (cs := crowdsOf gs) (ds := crowdsOf gm) (m := m) (by omega) hsm (c := r.c) 1 hP.1 hr2' hcm
                  rw [hcc] at hc2
                  simp [offerD, hk, hc1, hc2, hmm]
                  exact ⟨_, _, rfl, rfl⟩
              · rintro env w' ⟨h8, h9, rfl, rfl⟩
                simp
                exact ⟨_, _, _, _, _, _, _, _, _, _, _, _, _, _, _, _, _, _, _, _, _, u, rfl, rfl⟩
  · rintro env w' ⟨e1, e2, e3, e4, e5, e6, e7, e8, e9, f0, f1, f2, f3, f4, f5, f6, f7, f8, f9, g0, g1, u, rfl, rfl⟩
    simp
    exact okQ_ok w i u
theorem good_k33 : ∀ ns : List Int, ns.length ≤ 63 → ∃ w', callF G (run G 60) 126 [.scr ns] [] [] [] = .ok (.bl true) w' := by
  intro ns hn
  refine ⟨[], ?_⟩
  simp
  rw [r126]
  have e := lawBody_ok (k := 58) (rid := 127) (K := 4) (w := []) hn (fun cl a w => q127_1 cl a w) fun w i t hi => right33_ok (k := 45) hi
  have e2 : b126 = lawBody 127 4 := rfl
  rw [e2, e]
  simp
end Sv

set_option maxHeartbeats 8000000
namespace Lk33
open PySem PySem.Spec PyProof.Rows L2 Sv
theorem rep_ok : GRep law.G := fun d => rfl
theorem cls1 : ∀ x c q, (x, c, q) ∈ law.clss → law.G.cls c = some q := by
  intro x c q h
  simp only [law, List.mem_cons, Prod.mk.injEq, List.not_mem_nil, or_false] at h
  rcases h with ⟨rfl, rfl, rfl⟩ | ⟨rfl, rfl, rfl⟩ <;> rfl
theorem cls2 : ∀ c q, law.G.cls c = some q → ∃ x, (x, c, q) ∈ law.clss := by
  intro c q h
  have h : Sv.clsT c = some q := h
  unfold Sv.clsT at h
  split at h
  · cases h; exact ⟨"Roster", by simp [law]⟩
  · cases h; exact ⟨"Rule", by simp [law]⟩
  · cases h
theorem stat : statB law = true := by kernel_rfl
section
variable {K : PySem.W.Frag} {w : World} {mg : Str → Option Value} {base : Heap}
theorem k126 : DefOk law (law.T K prg w mg base) d126 := ⟨Sv.f126, rfl, ⟨rfl, rfl, rfl, by decide +kernel, rfl, by decide +kernel, by decide +kernel⟩, rfl, rfl, by kernel_rfl, by kernel_rfl, fun f fd F => ⟨bind_pos rfl (FunD.bindsN F fun _ _ _ _ _ _ us hl => match us, hl with | [_], _ => rfl), trivial⟩⟩
theorem k127 : DefOk law (law.T K prg w mg base) d127 := ⟨Sv.f127, rfl, ⟨rfl, rfl, rfl, by decide +kernel, rfl, by decide +kernel, by decide +kernel⟩, rfl, rfl, by kernel_rfl, by kernel_rfl, fun f fd F => ⟨bind_pos rfl (FunD.bindsN F fun _ _ _ _ _ _ us hl => match us, hl with | [_], _ => rfl), trivial⟩⟩
theorem k3 : DefOk law (law.T K prg w mg base) d3 := ⟨Sv.f3, rfl, ⟨rfl, rfl, rfl, by decide +kernel, rfl, by decide +kernel, by decide +kernel⟩, rfl, rfl, by kernel_rfl, by kernel_rfl, fun f fd F => ⟨bind_pos rfl (FunD.bindsN F fun _ _ _ _ _ _ us hl => match us, hl with | [_, _], _ => rfl), trivial⟩⟩
theorem k5 : DefOk law (law.T K prg w mg base) d5 := ⟨Sv.f5, rfl, ⟨rfl, rfl, rfl, by decide +kernel, rfl, by decide +kernel, by decide +kernel⟩, rfl, rfl, by kernel_rfl, by kernel_rfl, fun f fd F => ⟨bind_pos rfl (FunD.bindsN F fun _ _ _ _ _ _ us hl => match us, hl with | [_, _, _, _], _ => rfl), trivial⟩⟩
theorem k4 : DefOk law (law.T K prg w mg base) d4 := ⟨Sv.f4, rfl, ⟨rfl, rfl, rfl, by decide +kernel, rfl, by decide +kernel, by decide +kernel⟩, rfl, rfl, by kernel_rfl, by kernel_rfl, fun f fd F => ⟨bind_pos rfl (FunD.bindsN F fun _ _ _ _ _ _ us hl => match us, hl with | [_, _], _ => rfl), trivial⟩⟩
theorem k49 : DefOk law (law.T K prg w mg base) d49 := ⟨Sv.f49, rfl, ⟨rfl, rfl, rfl, by decide +kernel, rfl, by decide +kernel, by decide +kernel⟩, rfl, rfl, by kernel_rfl, by kernel_rfl, fun f fd F => ⟨bind_pos rfl (FunD.bindsN F fun _ _ _ _ _ _ us hl => match us, hl with | [_, _], _ => rfl), trivial⟩⟩
theorem k50 : DefOk law (law.T K prg w mg base) d50 := ⟨Sv.f50, rfl, ⟨rfl, rfl, rfl, by decide +kernel, rfl, by decide +kernel, by decide +kernel⟩, rfl, rfl, by kernel_rfl, by kernel_rfl, fun f fd F => ⟨bind_pos rfl (FunD.bindsN F fun _ _ _ _ _ _ us hl => match us, hl with | [_, _], _ => rfl), trivial⟩⟩
theorem k128 : DefOk law (law.T K prg w mg base) d128 := ⟨Sv.f128, rfl, ⟨rfl, rfl, rfl, by decide +kernel, rfl, by decide +kernel, by decide +kernel⟩, rfl, rfl, by kernel_rfl, by kernel_rfl, fun f fd F => ⟨bind_pos rfl (FunD.bindsN F fun _ _ _ _ _ _ us hl => match us, hl with | [_, _, _], _ => rfl), trivial⟩⟩
theorem k13 : DefOk law (law.T K prg w mg base) d13 := ⟨Sv.f13, rfl, ⟨rfl, rfl, rfl, by decide +kernel, rfl, by decide +kernel, by decide +kernel⟩, rfl, rfl, by kernel_rfl, by kernel_rfl, fun f fd F => ⟨bind_pos rfl (FunD.bindsN F fun _ _ _ _ _ _ us hl => match us, hl with | [_, _], _ => rfl), trivial⟩⟩
theorem k9 : DefOk law (law.T K prg w mg base) d9 := ⟨Sv.f9, rfl, ⟨rfl, rfl, rfl, by decide +kernel, rfl, by decide +kernel, by decide +kernel⟩, rfl, rfl, by kernel_rfl, by kernel_rfl, fun f fd F => ⟨bind_pos rfl (FunD.bindsN F fun _ _ _ _ _ _ us hl => match us, hl with | [_, _], _ => rfl), trivial⟩⟩
theorem k15 : DefOk law (law.T K prg w mg base) d15 := ⟨Sv.f15, rfl, ⟨rfl, rfl, rfl, by decide +kernel, rfl, by decide +kernel, by decide +kernel⟩, rfl, rfl, by kernel_rfl, by kernel_rfl, fun f fd F => ⟨bind_pos rfl (FunD.bindsN F fun _ _ _ _ _ _ us hl => match us, hl with | [_, _], _ => rfl), trivial⟩⟩
theorem k6 : DefOk law (law.T K prg w mg base) d6 := ⟨Sv.f6, rfl, ⟨rfl, rfl, rfl, by decide +kernel, rfl, by decide +kernel, by decide +kernel⟩, rfl, rfl, by kernel_rfl, by kernel_rfl, fun f fd F => ⟨bind_pos rfl (FunD.bindsN F fun _ _ _ _ _ _ us hl => match us, hl with | [_, _], _ => rfl), trivial⟩⟩
theorem k8 : DefOk law (law.T K prg w mg base) d8 := ⟨Sv.f8, rfl, ⟨rfl, rfl, rfl, by decide +kernel, rfl, by decide +kernel, by decide +kernel⟩, rfl, rfl, by kernel_rfl, by kernel_rfl, fun f fd F => ⟨bind_pos rfl (FunD.bindsN F fun _ _ _ _ _ _ us hl => match us, hl with | [_], _ => rfl), trivial⟩⟩
theorem k68 : DefOk law (law.T K prg w mg base) d68 := ⟨Sv.f68, rfl, ⟨rfl, rfl, rfl, by decide +kernel, rfl, by decide +kernel, by decide +kernel⟩, rfl, rfl, by kernel_rfl, by kernel_rfl, fun f fd F => ⟨bind_pos rfl (FunD.bindsN F fun _ _ _ _ _ _ us hl => match us, hl with | [_, _, _, _], _ => rfl), trivial⟩⟩
theorem k41 : DefOk law (law.T K prg w mg base) d41 := ⟨Sv.f41, rfl, ⟨rfl, rfl, rfl, by decide +kernel, rfl, by decide +kernel, by decide +kernel⟩, rfl, rfl, by kernel_rfl, by kernel_rfl, fun f fd F => ⟨bind_pos rfl (FunD.bindsN F fun _ _ _ _ _ _ us hl => match us, hl with | [_], _ => rfl), trivial⟩⟩
theorem k42 : DefOk law (law.T K prg w mg base) d42 := ⟨Sv.f42, rfl, ⟨rfl, rfl, rfl, by decide +kernel, rfl, by decide +kernel, by decide +kernel⟩, rfl, rfl, by kernel_rfl, by kernel_rfl, fun f fd F => ⟨bind_pos rfl (FunD.bindsN F fun _ _ _ _ _ _ us hl => match us, hl with | [_], _ => rfl), trivial⟩⟩
theorem k43 : DefOk law (law.T K prg w mg base) d43 := ⟨Sv.f43, rfl, ⟨rfl, rfl, rfl, by decide +kernel, rfl, by decide +kernel, by decide +kernel⟩, rfl, rfl, by kernel_rfl, by kernel_rfl, fun f fd F => ⟨bind_pos rfl (FunD.bindsN F fun _ _ _ _ _ _ us hl => match us, hl with | [_], _ => rfl), trivial⟩⟩
theorem k44 : DefOk law (law.T K prg w mg base) d44 := ⟨Sv.f44, rfl, ⟨rfl, rfl, rfl, by decide +kernel, rfl, by decide +kernel, by decide +kernel⟩, rfl, rfl, by kernel_rfl, by kernel_rfl, fun f fd F => ⟨bind_pos rfl (FunD.bindsN F fun _ _ _ _ _ _ us hl => match us, hl with | [_], _ => rfl), trivial⟩⟩
theorem k14 : DefOk law (law.T K prg w mg base) d14 := ⟨Sv.f14, rfl, ⟨rfl, rfl, rfl, by decide +kernel, rfl, by decide +kernel, by decide +kernel⟩, rfl, rfl, by kernel_rfl, by kernel_rfl, fun f fd F => ⟨bind_pos rfl (FunD.bindsN F fun _ _ _ _ _ _ us hl => match us, hl with | [_, _], _ => rfl), trivial⟩⟩
theorem k129 : DefOk law (law.T K prg w mg base) d129 := ⟨Sv.f129, rfl, ⟨rfl, rfl, rfl, by decide +kernel, rfl, by decide +kernel, by decide +kernel⟩, rfl, rfl, by kernel_rfl, by kernel_rfl, fun f fd F => ⟨bind_pos rfl (FunD.bindsN F fun _ _ _ _ _ _ us hl => match us, hl with | [_, _, _, _, _], _ => rfl), trivial⟩⟩
theorem k51 : DefOk law (law.T K prg w mg base) d51 := ⟨Sv.f51, rfl, ⟨rfl, rfl, rfl, by decide +kernel, rfl, by decide +kernel, by decide +kernel⟩, rfl, rfl, by kernel_rfl, by kernel_rfl, fun f fd F => ⟨bind_pos rfl (FunD.bindsN F fun _ _ _ _ _ _ us hl => match us, hl with | [_], _ => rfl), trivial⟩⟩
theorem k16 : DefOk law (law.T K prg w mg base) d16 := ⟨Sv.f16, rfl, ⟨rfl, rfl, rfl, by decide +kernel, rfl, by decide +kernel, by decide +kernel⟩, rfl, rfl, by kernel_rfl, by kernel_rfl, fun f fd F => ⟨bind_pos rfl (FunD.bindsN F fun _ _ _ _ _ _ us hl => match us, hl with | [_], _ => rfl), trivial⟩⟩
theorem k18 : DefOk law (law.T K prg w mg base) d18 := ⟨Sv.f18, rfl, ⟨rfl, rfl, rfl, by decide +kernel, rfl, by decide +kernel, by decide +kernel⟩, rfl, rfl, by kernel_rfl, by kernel_rfl, fun f fd F => ⟨bind_pos rfl (FunD.bindsN F fun _ _ _ _ _ _ us hl => match us, hl with | [_], _ => rfl), trivial⟩⟩
theorem k70 : DefOk law (law.T K prg w mg base) d70 := ⟨Sv.f70, rfl, ⟨rfl, rfl, rfl, by decide +kernel, rfl, by decide +kernel, by decide +kernel⟩, rfl, rfl, by kernel_rfl, by kernel_rfl, fun f fd F => ⟨bind_pos rfl (FunD.bindsN F fun _ _ _ _ _ _ us hl => match us, hl with | [_], _ => rfl), trivial⟩⟩
theorem k71 : DefOk law (law.T K prg w mg base) d71 := ⟨Sv.f71, rfl, ⟨rfl, rfl, rfl, by decide +kernel, rfl, by decide +kernel, by decide +kernel⟩, rfl, rfl, by kernel_rfl, by kernel_rfl, fun f fd F => ⟨bind_pos rfl (FunD.bindsN F fun _ _ _ _ _ _ us hl => match us, hl with | [_], _ => rfl), trivial⟩⟩
theorem k55 : DefOk law (law.T K prg w mg base) d55 := ⟨Sv.f55, rfl, ⟨rfl, rfl, rfl, by decide +kernel, rfl, by decide +kernel, by decide +kernel⟩, rfl, rfl, by kernel_rfl, by kernel_rfl, fun f fd F => ⟨bind_pos rfl (FunD.bindsN F fun _ _ _ _ _ _ us hl => match us, hl with | [_, _], _ => rfl), trivial⟩⟩
theorem k19 : DefOk law (law.T K prg w mg base) d19 := ⟨Sv.f19, rfl, ⟨rfl, rfl, rfl, by decide +kernel, rfl, by decide +kernel, by decide +kernel⟩, rfl, rfl, by kernel_rfl, by kernel_rfl, fun f fd F => ⟨bind_pos rfl (FunD.bindsN F fun _ _ _ _ _ _ us hl => match us, hl with | [_, _, _], _ => rfl), trivial⟩⟩
theorem k72 : DefOk law (law.T K prg w mg base) d72 := ⟨Sv.f72, rfl, ⟨rfl, rfl, rfl, by decide +kernel, rfl, by decide +kernel, by decide +kernel⟩, rfl, rfl, by kernel_rfl, by kernel_rfl, fun f fd F => ⟨bind_pos rfl (FunD.bindsN F fun _ _ _ _ _ _ us hl => match us, hl with | [_, _, _, _], _ => rfl), trivial⟩⟩
theorem k22 : DefOk law (law.T K prg w mg base) d22 := ⟨Sv.f22, rfl, ⟨rfl, rfl, rfl, by decide +kernel, rfl, by decide +kernel, by decide +kernel⟩, rfl, rfl, by kernel_rfl, by kernel_rfl, fun f fd F => ⟨bind_pos rfl (FunD.bindsN F fun _ _ _ _ _ _ us hl => match us, hl with | [_], _ => rfl), trivial⟩⟩
theorem k130 : DefOk law (law.T K prg w mg base) d130 := ⟨Sv.f130, rfl, ⟨rfl, rfl, rfl, by decide +kernel, rfl, by decide +kernel, by decide +kernel⟩, rfl, rfl, by kernel_rfl, by kernel_rfl, fun f fd F => ⟨bind_pos rfl (FunD.bindsN F fun _ _ _ _ _ _ us hl => match us, hl with | [_, _, _, _, _], _ => rfl), trivial⟩⟩
theorem k131 : DefOk law (law.T K prg w mg base) d131 := ⟨Sv.f131, rfl, ⟨rfl, rfl, rfl, by decide +kernel, rfl, by decide +kernel, by decide +kernel⟩, rfl, rfl, by kernel_rfl, by kernel_rfl, fun f fd F => ⟨bind_pos rfl (FunD.bindsN F fun _ _ _ _ _ _ us hl => match us, hl with | [_, _, _, _, _], _ => rfl), trivial⟩⟩
theorem b53_5_ {f : Addr} {fd : FuncData} (F : FunD (law.T K prg w mg base).C.K d53.name d53.qual d53.params d53.body d53.scope (d53.dfl.map (He.Dv.v (law.T K prg w mg base).C.K)) [] f fd) : BindOk (law.T K prg w mg base) Sv.f53 fd d53.ps 5 [] := by
  refine bind_def F (by simp [d53]) 5 [] ?_
  intro us ws its h1 h2 h3
  match us, ws, its, h1, h2, h3 with
  | [u0, u1, u2, u3, u4], [], [i0, i1], _, _, _ =>
    refine ⟨[u0, u1, u2, u3, u4], fun _ _ _ _ _ _ _ => ⟨_, rfl, rfl⟩, fun F ρ ds es ds2 vs zs rd re rv rz rt ha => ?_⟩
    cases rv with
    | cons y0 rv =>
      cases rv with
      | cons y1 rv =>
        cases rv with
        | cons y2 rv =>
          cases rv with
          | cons y3 rv =>
            cases rv with
            | cons y4 rv =>
              cases rv
              cases rd with
              | cons p0 rd =>
                cases rd with
                | cons p1 rd =>
                  cases rd with
                  | cons p2 rd =>
                    cases rd with
                    | cons p3 rd =>
                      cases rd with
                      | cons p4 rd =>
                        cases rd
                        cases rz
                        cases re
                        cases rt with
                        | cons t0 rt =>
                          cases rt with
                          | cons t1 rt =>
                            cases rt
                            have e : some ds2 = some _ := ha.symm.trans (by rfl)
                            cases e
                            exact ⟨_, (.cons y0 (.cons y1 (.cons y2 (.cons y3 (.cons y4 .nil))))), (.cons p0 (.cons p1 (.cons p2 (.cons p3 (.cons p4 .nil)))))⟩
theorem k53 : DefOk law (law.T K prg w mg base) d53 := ⟨Sv.f53, rfl, ⟨rfl, rfl, rfl, by decide +kernel, rfl, by decide +kernel, by decide +kernel⟩, rfl, rfl, by kernel_rfl, by kernel_rfl, fun f fd F => ⟨b53_5_ F, trivial⟩⟩
theorem k62 : DefOk law (law.T K prg w mg base) d62 := ⟨Sv.f62, rfl, ⟨rfl, rfl, rfl, by decide +kernel, rfl, by decide +kernel, by decide +kernel⟩, rfl, rfl, by kernel_rfl, by kernel_rfl, fun f fd F => ⟨bind_pos rfl (FunD.bindsN F fun _ _ _ _ _ _ us hl => match us, hl with | [_], _ => rfl), trivial⟩⟩
theorem k63 : DefOk law (law.T K prg w mg base) d63 := ⟨Sv.f63, rfl, ⟨rfl, rfl, rfl, by decide +kernel, rfl, by decide +kernel, by decide +kernel⟩, rfl, rfl, by kernel_rfl, by kernel_rfl, fun f fd F => ⟨bind_pos rfl (FunD.bindsN F fun _ _ _ _ _ _ us hl => match us, hl with | [_], _ => rfl), trivial⟩⟩
theorem k64 : DefOk law (law.T K prg w mg base) d64 := ⟨Sv.f64, rfl, ⟨rfl, rfl, rfl, by decide +kernel, rfl, by decide +kernel, by decide +kernel⟩, rfl, rfl, by kernel_rfl, by kernel_rfl, fun f fd F => ⟨bind_pos rfl (FunD.bindsN F fun _ _ _ _ _ _ us hl => match us, hl with | [_], _ => rfl), trivial⟩⟩
theorem k65 : DefOk law (law.T K prg w mg base) d65 := ⟨Sv.f65, rfl, ⟨rfl, rfl, rfl, by decide +kernel, rfl, by decide +kernel, by decide +kernel⟩, rfl, rfl, by kernel_rfl, by kernel_rfl, fun f fd F => ⟨bind_pos rfl (FunD.bindsN F fun _ _ _ _ _ _ us hl => match us, hl with | [_], _ => rfl), trivial⟩⟩
theorem k24 : DefOk law (law.T K prg w mg base) d24 := ⟨Sv.f24, rfl, ⟨rfl, rfl, rfl, by decide +kernel, rfl, by decide +kernel, by decide +kernel⟩, rfl, rfl, by kernel_rfl, by kernel_rfl, fun f fd F => ⟨bind_pos rfl (FunD.bindsN F fun _ _ _ _ _ _ us hl => match us, hl with | [_], _ => rfl), trivial⟩⟩
theorem k73 : DefOk law (law.T K prg w mg base) d73 := ⟨Sv.f73, rfl, ⟨rfl, rfl, rfl, by decide +kernel, rfl, by decide +kernel, by decide +kernel⟩, rfl, rfl, by kernel_rfl, by kernel_rfl, fun f fd F => ⟨bind_pos rfl (FunD.bindsN F fun _ _ _ _ _ _ us hl => match us, hl with | [_], _ => rfl), trivial⟩⟩
theorem k59 : DefOk law (law.T K prg w mg base) d59 := ⟨Sv.f59, rfl, ⟨rfl, rfl, rfl, by decide +kernel, rfl, by decide +kernel, by decide +kernel⟩, rfl, rfl, by kernel_rfl, by kernel_rfl, fun f fd F => ⟨bind_pos rfl (FunD.bindsN F fun _ _ _ _ _ _ us hl => match us, hl with | [_, _], _ => rfl), trivial⟩⟩
theorem k26 : DefOk law (law.T K prg w mg base) d26 := ⟨Sv.f26, rfl, ⟨rfl, rfl, rfl, by decide +kernel, rfl, by decide +kernel, by decide +kernel⟩, rfl, rfl, by kernel_rfl, by kernel_rfl, fun f fd F => ⟨bind_pos rfl (FunD.bindsN F fun _ _ _ _ _ _ us hl => match us, hl with | [_, _, _], _ => rfl), trivial⟩⟩
theorem k74 : DefOk law (law.T K prg w mg base) d74 := ⟨Sv.f74, rfl, ⟨rfl, rfl, rfl, by decide +kernel, rfl, by decide +kernel, by decide +kernel⟩, rfl, rfl, by kernel_rfl, by kernel_rfl, fun f fd F => ⟨bind_pos rfl (FunD.bindsN F fun _ _ _ _ _ _ us hl => match us, hl with | [_, _, _, _], _ => rfl), trivial⟩⟩
theorem k21 : DefOk law (law.T K prg w mg base) d21 := ⟨Sv.f21, rfl, ⟨rfl, rfl, rfl, by decide +kernel, rfl, by decide +kernel, by decide +kernel⟩, rfl, rfl, by kernel_rfl, by kernel_rfl, fun f fd F => ⟨bind_pos rfl (FunD.bindsN F fun _ _ _ _ _ _ us hl => match us, hl with | [_, _, _], _ => rfl), trivial⟩⟩
theorem k75 : DefOk law (law.T K prg w mg base) d75 := ⟨Sv.f75, rfl, ⟨rfl, rfl, rfl, by decide +kernel, rfl, by decide +kernel, by decide +kernel⟩, rfl, rfl, by kernel_rfl, by kernel_rfl, fun f fd F => ⟨bind_pos rfl (FunD.bindsN F fun _ _ _ _ _ _ us hl => match us, hl with | [_, _, _], _ => rfl), trivial⟩⟩
theorem k76 : DefOk law (law.T K prg w mg base) d76 := ⟨Sv.f76, rfl, ⟨rfl, rfl, rfl, by decide +kernel, rfl, by decide +kernel, by decide +kernel⟩, rfl, rfl, by kernel_rfl, by kernel_rfl, fun f fd F => ⟨bind_pos rfl (FunD.bindsN F fun _ _ _ _ _ _ us hl => match us, hl with | [_, _], _ => rfl), trivial⟩⟩
theorem k77 : DefOk law (law.T K prg w mg base) d77 := ⟨Sv.f77, rfl, ⟨rfl, rfl, rfl, by decide +kernel, rfl, by decide +kernel, by decide +kernel⟩, rfl, rfl, by kernel_rfl, by kernel_rfl, fun f fd F => ⟨bind_pos rfl (FunD.bindsN F fun _ _ _ _ _ _ us hl => match us, hl with | [_, _], _ => rfl), trivial⟩⟩
theorem k132 : DefOk law (law.T K prg w mg base) d132 := ⟨Sv.f132, rfl, ⟨rfl, rfl, rfl, by decide +kernel, rfl, by decide +kernel, by decide +kernel⟩, rfl, rfl, by kernel_rfl, by kernel_rfl, fun f fd F => ⟨bind_pos rfl (FunD.bindsN F fun _ _ _ _ _ _ us hl => match us, hl with | [_], _ => rfl), trivial⟩⟩
theorem k133 : DefOk law (law.T K prg w mg base) d133 := ⟨Sv.f133, rfl, ⟨rfl, rfl, rfl, by decide +kernel, rfl, by decide +kernel, by decide +kernel⟩, rfl, rfl, by kernel_rfl, by kernel_rfl, fun f fd F => ⟨bind_pos rfl (FunD.bindsN F fun _ _ _ _ _ _ us hl => match us, hl with | [_, _], _ => rfl), trivial⟩⟩
theorem k134 : DefOk law (law.T K prg w mg base) d134 := ⟨Sv.f134, rfl, ⟨rfl, rfl, rfl, by decide +kernel, rfl, by decide +kernel, by decide +kernel⟩, rfl, rfl, by kernel_rfl, by kernel_rfl, fun f fd F => ⟨bind_pos rfl (FunD.bindsN F fun _ _ _ _ _ _ us hl => match us, hl with | [_, _], _ => rfl), trivial⟩⟩
theorem k135 : DefOk law (law.T K prg w mg base) d135 := ⟨Sv.f135, rfl, ⟨rfl, rfl, rfl, by decide +kernel, rfl, by decide +kernel, by decide +kernel⟩, rfl, rfl, by kernel_rfl, by kernel_rfl, fun f fd F => ⟨bind_pos rfl (FunD.bindsN F fun _ _ _ _ _ _ us hl => match us, hl with | [_, _, _, _], _ => rfl), trivial⟩⟩
theorem k136 : DefOk law (law.T K prg w mg base) d136 := ⟨Sv.f136, rfl, ⟨rfl, rfl, rfl, by decide +kernel, rfl, by decide +kernel, by decide +kernel⟩, rfl, rfl, by kernel_rfl, by kernel_rfl, fun f fd F => ⟨bind_pos rfl (FunD.bindsN F fun _ _ _ _ _ _ us hl => match us, hl with | [_, _, _, _], _ => rfl), trivial⟩⟩
theorem k27 : DefOk law (law.T K prg w mg base) d27 := ⟨Sv.f27, rfl, ⟨rfl, rfl, rfl, by decide +kernel, rfl, by decide +kernel, by decide +kernel⟩, rfl, rfl, by kernel_rfl, by kernel_rfl, fun f fd F => ⟨bind_pos rfl (FunD.bindsN F fun _ _ _ _ _ _ us hl => match us, hl with | [_], _ => rfl), trivial⟩⟩
theorem k28 : DefOk law (law.T K prg w mg base) d28 := ⟨Sv.f28, rfl, ⟨rfl, rfl, rfl, by decide +kernel, rfl, by decide +kernel, by decide +kernel⟩, rfl, rfl, by kernel_rfl, by kernel_rfl, fun f fd F => ⟨bind_pos rfl (FunD.bindsN F fun _ _ _ _ _ _ us hl => match us, hl with | [_, _], _ => rfl), trivial⟩⟩
theorem k30 : DefOk law (law.T K prg w mg base) d30 := ⟨Sv.f30, rfl, ⟨rfl, rfl, rfl, by decide +kernel, rfl, by decide +kernel, by decide +kernel⟩, rfl, rfl, by kernel_rfl, by kernel_rfl, fun f fd F => ⟨bind_pos rfl (FunD.bindsN F fun _ _ _ _ _ _ us hl => match us, hl with | [_], _ => rfl), trivial⟩⟩
theorem k31 : DefOk law (law.T K prg w mg base) d31 := ⟨Sv.f31, rfl, ⟨rfl, rfl, rfl, by decide +kernel, rfl, by decide +kernel, by decide +kernel⟩, rfl, rfl, by kernel_rfl, by kernel_rfl, fun f fd F => ⟨bind_pos rfl (FunD.bindsN F fun _ _ _ _ _ _ us hl => match us, hl with | [_], _ => rfl), trivial⟩⟩
theorem k61 : DefOk law (law.T K prg w mg base) d61 := ⟨Sv.f61, rfl, ⟨rfl, rfl, rfl, by decide +kernel, rfl, by decide +kernel, by decide +kernel⟩, rfl, rfl, by kernel_rfl, by kernel_rfl, fun f fd F => ⟨bind_pos rfl (FunD.bindsN F fun _ _ _ _ _ _ us hl => match us, hl with | [_, _], _ => rfl), trivial⟩⟩
theorem k32 : DefOk law (law.T K prg w mg base) d32 := ⟨Sv.f32, rfl, ⟨rfl, rfl, rfl, by decide +kernel, rfl, by decide +kernel, by decide +kernel⟩, rfl, rfl, by kernel_rfl, by kernel_rfl, fun f fd F => ⟨bind_pos rfl (FunD.bindsN F fun _ _ _ _ _ _ us hl => match us, hl with | [_], _ => rfl), trivial⟩⟩
theorem k78 : DefOk law (law.T K prg w mg base) d78 := ⟨Sv.f78, rfl, ⟨rfl, rfl, rfl, by decide +kernel, rfl, by decide +kernel, by decide +kernel⟩, rfl, rfl, by kernel_rfl, by kernel_rfl, fun f fd F => ⟨bind_pos rfl (FunD.bindsN F fun _ _ _ _ _ _ us hl => match us, hl with | [_], _ => rfl), trivial⟩⟩
theorem k137 : DefOk law (law.T K prg w mg base) d137 := ⟨Sv.f137, rfl, ⟨rfl, rfl, rfl, by decide +kernel, rfl, by decide +kernel, by decide +kernel⟩, rfl, rfl, by kernel_rfl, by kernel_rfl, fun f fd F => ⟨bind_pos rfl (FunD.bindsN F fun _ _ _ _ _ _ us hl => match us, hl with | [_, _, _, _], _ => rfl), trivial⟩⟩
theorem k138 : DefOk law (law.T K prg w mg base) d138 := ⟨Sv.f138, rfl, ⟨rfl, rfl, rfl, by decide +kernel, rfl, by decide +kernel, by decide +kernel⟩, rfl, rfl, by kernel_rfl, by kernel_rfl, fun f fd F => ⟨bind_pos rfl (FunD.bindsN F fun _ _ _ _ _ _ us hl => match us, hl with | [_, _], _ => rfl), trivial⟩⟩
theorem k37 : DefOk law (law.T K prg w mg base) d37 := ⟨Sv.f37, rfl, ⟨rfl, rfl, rfl, by decide +kernel, rfl, by decide +kernel, by decide +kernel⟩, rfl, rfl, by kernel_rfl, by kernel_rfl, fun f fd F => ⟨bind_pos rfl (FunD.bindsN F fun _ _ _ _ _ _ us hl => match us, hl with | [_], _ => rfl), trivial⟩⟩
theorem k39 : DefOk law (law.T K prg w mg base) d39 := ⟨Sv.f39, rfl, ⟨rfl, rfl, rfl, by decide +kernel, rfl, by decide +kernel, by decide +kernel⟩, rfl, rfl, by kernel_rfl, by kernel_rfl, fun f fd F => ⟨bind_pos rfl (FunD.bindsN F fun _ _ _ _ _ _ us hl => match us, hl with | [_], _ => rfl), trivial⟩⟩
theorem k139 : DefOk law (law.T K prg w mg base) d139 := ⟨Sv.f139, rfl, ⟨rfl, rfl, rfl, by decide +kernel, rfl, by decide +kernel, by decide +kernel⟩, rfl, rfl, by kernel_rfl, by kernel_rfl, fun f fd F => ⟨bind_pos rfl (FunD.bindsN F fun _ _ _ _ _ _ us hl => match us, hl with | [_, _], _ => rfl), trivial⟩⟩
theorem k40 : DefOk law (law.T K prg w mg base) d40 := ⟨Sv.f40, rfl, ⟨rfl, rfl, rfl, by decide +kernel, rfl, by decide +kernel, by decide +kernel⟩, rfl, rfl, by kernel_rfl, by kernel_rfl, fun f fd F => ⟨bind_pos rfl (FunD.bindsN F fun _ _ _ _ _ _ us hl => match us, hl with | [_], _ => rfl), trivial⟩⟩
theorem defs_ok : AllD (DefOk law (law.T K prg w mg base)) law.defs := ⟨k126, k127, k3, k5, k4, k49, k50, k128, k13, k9, k15, k6, k8, k68, k41, k42, k43, k44, k14, k129, k51, k16, k18, k70, k71, k55, k19, k72, k22, k130, k131, k53, k62, k63, k64, k65, k24, k73, k59, k26, k74, k21, k75, k76, k77, k132, k133, k134, k135, k136, k27, k28, k30, k31, k61, k32, k78, k137, k138, k37, k39, k139, k40, trivial⟩
end
theorem keys_ok (K : PySem.W.Frag) : KeysOk law K law.keys := ⟨⟨d78, "persons_of", by simp [law], rfl, by kernel_rfl, rfl, rfl, by kernel_rfl, fun f fd F => FunD.bindsN F fun _ _ _ _ _ _ us hl => match us, hl with | [_], _ => rfl⟩, trivial⟩
end Lk33
open PySem PySem.W PySem.Calls PyProof.Rows
theorem PySem.Challenge.cw_seenseats_k33_whole_groups_put_together_holds : PySem.Challenge.rw_seenseats_k33_whole_groups_put_together.Holds := by
  w_on; o_law
  refine HandSHeadRun.head_any (r := OpenLaw.row PySem.Challenge.rw_seenseats_k33_whole_groups_put_together) (q := view (OpenLaw.row PySem.Challenge.rw_seenseats_k33_whole_groups_put_together).prog [97]) (H := Lk33.hk) (ob := Lk33.ob) (M := 20000) (loose := Lk33.loose) (d := HandSHeadRun.topDef (OpenLaw.row PySem.Challenge.rw_seenseats_k33_whole_groups_put_together).prog 97) (kwd := []) Lk33.ob_eq
    (by kernel_rfl) (fun s => by kernel_rfl) Lk33.run (by kernel_rfl) (by kernel_rfl) (by kernel_rfl) (by rfl) (by first | assumption | decide +kernel) (by decide +kernel) ⟨rfl, rfl, rfl, rfl, rfl, by decide +kernel⟩ ?hw ?hc
  case hw => w_witness2
  case hc =>
    refine Sv.walkG (l := PySem.Challenge.rw_seenseats_k33_whole_groups_put_together) (n := 63) rfl (by decide) (by kernel_rfl) ?F
    intro w mg fa h Y nsM hmg0
    have e : (HandSHeadRun.topDef (OpenLaw.row PySem.Challenge.rw_seenseats_k33_whole_groups_put_together).prog 97).name = ("law" : PySem.Str) := by kernel_rfl
    exact Sv.lawEnd (L := Lk33.law) (k := 60) (n := 63) (dl := Lk33.d126) (x := "law") Lk33.rep_ok Lk33.cls1 Lk33.cls2 Lk33.stat (fun K w mg base => Lk33.defs_ok) (by simp [Lk33.law]) rfl (by kernel_rfl) rfl (by simp [Lk33.d126]) ⟨rfl, by decide, by decide⟩ Lk33.keys_ok Sv.good_k33 Y nsM (e ▸ hmg0)
