import PyProof.Rows.All
import HandS.ForMost
import HandS.Exc
import HandS.TryMany
import HandS.ExcSuper
import HandS.ExcField
import HandS.IsInst
import HandS.Wide
import HandS.TupAny
import HandS.TupMul
import HandS.Deep
import HandS.Style
import HandS.Zip
import HandS.Conv
import HandS.Defaults
import HandS.HeadHook4
import HandS.HeadEnd
import KE.DataMinMax
import KE.SortData
import KE.Datum
import PyProof.ReprReads
import PyProof.SeqIndex
import PyProof.ReprRoads
import HandS.Lambda
import KE.KTupSum
import KE.GoesMore
import KE.GoesEnum
import HandS.Rev
import HandS.Gcd
import KE.KSuper
import HandS.NestedK
import HandS.Head0
import HandS.Head1
import HandS.Head2
import KE.DatumOrd
import PyProof.ReprBulk
import PyProof.Rows.ReprOcc
import PySem.Challenge.RW_slowshelves_k47_whole_rows_of_runs_with
section
set_option Elab.async false
set_option linter.all false
set_option maxRecDepth 100000
/-! PvA: plain values, the small language of steps, what it reckons. No program in sight. -/
namespace PV
open PySem

abbrev D := PyData
/-- a value in a slot: settled data, or a list that is still ours to change -/
inductive OV where
  | imm (d : D)
  | ol (xs : List OV)
instance : Inhabited OV := ⟨.imm .none⟩
mutual
def OV.toD : OV → D
  | .imm d => d
  | .ol xs => .list (OV.toDs xs)
def OV.toDs : List OV → List D
  | [] => []
  | x :: xs => x.toD :: OV.toDs xs
end
/-- a list of settled things, or a settled thing -/
def OV.immAll : List OV → Option (List D)
  | [] => some []
  | .imm d :: xs => (OV.immAll xs).map (d :: ·)
  | .ol _ :: _ => none
def OV.shal : OV → Option D
  | .imm d => some d
  | .ol xs => (OV.immAll xs).map .list
/-- a def of the module, by its name -/
def tokD : D → Option Str
  | .dict [(.none, .str x)] => some x
  | _ => none
theorem tokD_eq {d : D} {x : Str} (h : tokD d = some x) : d = .dict [(.none, .str x)] := by
  unfold tokD at h
  split at h
  · cases h; rfl
  · cases h
def OV.tok : OV → Option Str
  | .imm d => tokD d
  | .ol _ => none
abbrev Sl := List (Option OV)

inductive R (α : Type) where
  | ok (a : α) (s : Sl)
  | exc (c : Nat) (d : D) (s : Sl)
  | bad
def R.bind {α β : Type} (r : R α) (f : α → Sl → R β) : R β := match r with
  | .ok a s => f a s
  | .exc c d s => .exc c d s
  | .bad => .bad
inductive FR where
  | ok (v : OV) (outs : List OV)
  | exc (c : Nat) (d : D) (outs : List OV)
  | bad
abbrev FT := Nat → List OV → FR

inductive O2 where
  | add | sub | mul | fdiv | mod | pow
  deriving DecidableEq
inductive C2 where
  | eq | ne | lt | le | gt | ge | is | isnt | in_ | nin
  deriving DecidableEq
inductive Ty where
  | int | bool | str | list | tuple
  deriving DecidableEq
inductive BI where
  | len | int | abs | min | max | sum | sorted | tuple | list | repr | all | any | lrange | trange
  deriving DecidableEq
inductive ME where
  | index | count
  deriving DecidableEq
inductive SK where
  | seq | range | enum | zip | rev
  deriving DecidableEq
inductive Tgt where
  | nm (i : Nat)
  | tp (ts : List Tgt)

/-- what an except clause hands back -/
inductive HE where
  | lit (d : D) | fld | var (i : Nat) | tup (es : List HE)
/-- what an except clause does -/
inductive HA where
  | ret (e : HE) | set (i : Nat) (e : HE) | pass
/-- a clause: the class it names, the slot of its name, the classes it catches -/
structure Cl where
  k : Nat
  i : Option Nat
  cs : List Nat
  a : HA
inductive E where
  | var (i : Nat) | mv (i : Nat) | pk (i : Nat) | io (i : Nat)
  | lit (d : D) | glb (k : Nat) (d : D)
  | tup (es : List E) | lst (es : List E) | frz (e : E)
  | op2 (o : O2) (a b : E) | neg (a : E)
  | cmp (o : C2) (a b : E) | chn (o o' : C2) (a b c : E)
  | and_ (a b : E) | or_ (a b : E) | not_ (a : E)
  | ite (c a b : E)
  | ix (a b : E) | ixk (i : Nat) (b : E)
  | slc (a : E) (lo hi : Option E)
  | call (f : Nat) (es : List E) (pm : List Nat)
  | blt (b : BI) (es : List E)
  | isi (a : E) (ts : List Ty)
  | meth (m : ME) (a : E) (es : List E)
  | pop (i : Nat) (e : Option E)
  | comp (t : Tgt) (k : SK) (es : List E) (cs : List E) (e : E)
  | told (g : Nat) (e : E) (fin : HE) (hs : List Cl) (all : List Nat)
  | atr (c : Nat) (e : E)
  | rev (a : E) | gcd (a b : E) | popk (i : Nat) (k : E)
  | callv (i : Nat) (fs : List (Str × Nat)) (es : List E)
  | comp2 (t : Tgt) (k : SK) (es : List E) (t' : Tgt) (k' : SK) (es' : List E) (cs : List E) (e : E)
  | bad
inductive St where
  | set (i : Nat) (e : E)
  | setT (ts : List Tgt) (e : E)
  | par (is : List Nat) (es : List E)
  | aug (i : Nat) (o : O2) (e : E)
  | setix (i : Nat) (k : E) (e : E)
  | app (i : Nat) (e : E) | ext (i : Nat) (e : E)
  | appk (i : Nat) (k : E) (e : E)
  | expr (e : E)
  | ifs (c : E) (a b : List St)
  | for_ (t : Tgt) (k : SK) (es : List E) (body : List St) (ks : List Nat)
  | while_ (c : E) (body : List St) (ks : List Nat)
  | ret (e : E) | retn
  | raise (c : Nat) (e : E)
  | try_ (body : List St) (hs : List Cl) (all : List Nat)
  | pass | brk | cont
  | kill (is : List Nat)
  | bad
inductive Fl where
  | nx | br | ct | rt (v : OV)

def lim : Nat := 16777216

/-! ### what the operations give -/
/-- a scalar, text or a tuple: settled; a new list of settled things: ours -/
def nl (ds : List D) : OV := .ol (ds.map .imm)
def okMul (i j : Int) : Bool := decide (i.natAbs.log2 < 400000) && decide (j.natAbs.log2 < 400000)
def O2.sem : O2 → D → D → Option OV
  | .add, .int i, .int j => some (.imm (.int (i + j)))
  | .add, .tuple xs, .tuple ys => if xs.length + ys.length ≤ lim then some (.imm (.tuple (xs ++ ys))) else none
  | .add, .list xs, .list ys => if xs.length + ys.length ≤ lim then some (nl (xs ++ ys)) else none
  | .add, .str x, .str y => if x.length + y.length ≤ lim then some (.imm (.str (x ++ y))) else none
  | .sub, .int i, .int j => some (.imm (.int (i - j)))
  | .mul, .int i, .int j => if okMul i j then some (.imm (.int (i * j))) else none
  | .mul, .tuple xs, .int k => if 1 ≤ k ∧ k ≤ 1000 ∧ xs.length ≤ 1000 ∧ xs ≠ [] then some (.imm (.tuple (List.replicate k.toNat xs).flatten)) else none
  | .mul, .list xs, .int k => if 0 ≤ k ∧ k ≤ 1000000 ∧ xs.length * k.toNat ≤ lim then some (nl (List.replicate k.toNat xs).flatten) else none
  | .fdiv, .int i, .int j => if 0 < j ∧ j < 1073741824 then some (.imm (.int (i / j))) else none
  | .mod, .int i, .int j => if 0 < j then some (.imm (.int (i % j))) else none
  | .pow, .int i, .int j => if 0 ≤ j ∧ j ≤ 1000 ∧ i.natAbs < 1000000 then some (.imm (.int (i ^ j.toNat))) else none
  | _, _, _ => none
def eqOk (a b : D) : Bool := SeqAt.shaped a && SeqAt.shaped b
def inOk (xs : List D) (a : D) : Bool := SeqAt.shaped (.list xs) && SeqAt.shaped a
def memD (a : D) (xs : List D) : Bool := xs.any fun y => PyData.eqv y a
def seqOf : D → Option (List D)
  | .list xs => some xs
  | .tuple xs => some xs
  | _ => none
def intsOf : List D → Option (List Int)
  | [] => some []
  | .int i :: r => (intsOf r).map (i :: ·)
  | _ :: _ => none
def boolsOf : List D → Option (List Bool)
  | [] => some []
  | .bool i :: r => (boolsOf r).map (i :: ·)
  | _ :: _ => none
/-- which values may be asked for being None -/
def C2.sem : C2 → D → D → Option Bool
  | .eq, a, b => if eqOk a b then some (PyData.eqv a b) else none
  | .ne, a, b => if eqOk a b then some (!PyData.eqv a b) else none
  | .lt, .int i, .int j => some (decide (i < j))
  | .le, .int i, .int j => some (decide (i ≤ j))
  | .gt, .int i, .int j => some (decide (j < i))
  | .ge, .int i, .int j => some (decide (j ≤ i))
  | .is, a, .none => some (match a with | .none => true | _ => false)
  | .isnt, a, .none => some (match a with | .none => false | _ => true)
  | .in_, a, b => (seqOf b).bind fun xs => if inOk xs a then some (memD a xs) else none
  | .nin, a, b => (seqOf b).bind fun xs => if inOk xs a then some (!memD a xs) else none
  | _, _, _ => none
def Ty.has : Ty → D → Bool
  | .int, .int _ => true
  | .int, .bool _ => true
  | .bool, .bool _ => true
  | .str, .str _ => true
  | .list, .list _ => true
  | .tuple, .tuple _ => true
  | _, _ => false
def noDictB : D → Bool
  | .dict _ => false
  | _ => true
def ixD (a b : D) : Option D := match a, b with
  | .list xs, .int i => L2.atI xs i
  | .tuple xs, .int i => L2.atI xs i
  | _, _ => none
def cut {α : Type} (xs : List α) (lo hi : Option Int) : List α := (xs.drop (HT.sIx xs.length 0 lo)).take (HT.sIx xs.length xs.length hi - HT.sIx xs.length 0 lo)
def slcD (a : D) (lo hi : Option Int) : Option OV := match a with
  | .list xs => some (nl (cut xs lo hi))
  | .tuple xs => some (.imm (.tuple (cut xs lo hi)))
  | _ => none

def sortOk (ds : List D) : Bool := ds.all (fun d => ds.all fun e => PySem.W.alike d e) && (ds.all (fun d => match d with | .tuple (_ :: _) => true | _ => false) || ds.all (fun d => match d with | .none => false | .tuple _ => false | _ => true))
  && decide (PyData.depthAll ds ≤ 64)
def sortD (ds : List D) : List D := ds.mergeSort (PySem.W.dataLe false fun d => d)
def reprOk (d : D) : Bool := d.showable && !d.hasDict && decide (d.depth ≤ 64) && decide (d.shown.length + 64 ≤ lim)
def intsD (lo : Int) : Nat → List D
  | 0 => []
  | n + 1 => .int lo :: intsD (lo + 1) n
def downD (hi : Int) : Nat → List D
  | 0 => []
  | n + 1 => .int hi :: downD (hi - 1) n
def small62 (i : Int) : Bool := decide (-(2 ^ 62) ≤ i) && decide (i < 2 ^ 62)
def rangeD : List D → Option (List D)
  | [.int n] => if small62 n then some (intsD 0 n.toNat) else none
  | [.int a, .int b] => if small62 a && small62 b then some (intsD a (b - a).toNat) else none
  | [.int a, .int b, .int (-1)] => if small62 a && small62 b then some (downD a (a - b).toNat) else none
  | _ => none
def BI.sem : BI → List D → Option OV
  | .len, [.list xs] => some (.imm (.int xs.length))
  | .len, [.tuple xs] => some (.imm (.int xs.length))
  | .len, [.str x] => if x.length ≤ lim then some (.imm (.int x.length)) else none
  | .int, [.int i] => some (.imm (.int i))
  | .int, [.bool b] => some (.imm (.int (if b then 1 else 0)))
  | .abs, [.int i] => some (.imm (.int (if i < 0 then -i else i)))
  | .min, [.int i, .int j] => some (.imm (.int (if j < i then j else i)))
  | .max, [.int i, .int j] => some (.imm (.int (if j > i then j else i)))
  | .min, [.list xs] => match intsOf xs with | some (n :: ns) => some (.imm (.int (ns.foldl Min.min n))) | _ => none
  | .max, [.list xs] => match intsOf xs with | some (n :: ns) => some (.imm (.int (ns.foldl Max.max n))) | _ => none
  | .sum, [.list xs] => (intsOf xs).map fun ns => .imm (.int ns.sum)
  | .sum, [.tuple xs] => (intsOf xs).map fun ns => .imm (.int ns.sum)
  | .min, [.tuple xs] => match intsOf xs with | some (n :: ns) => some (.imm (.int (ns.foldl Min.min n))) | _ => none
  | .max, [.tuple xs] => match intsOf xs with | some (n :: ns) => some (.imm (.int (ns.foldl Max.max n))) | _ => none
  | .sorted, [.list xs] => if sortOk xs && decide (xs.length ≤ lim) then some (nl (sortD xs)) else none
  | .sorted, [.tuple xs] => if sortOk xs && decide (xs.length ≤ lim) then some (nl (sortD xs)) else none
  | .tuple, [.list xs] => some (.imm (.tuple xs))
  | .tuple, [.tuple xs] => some (.imm (.tuple xs))
  | .list, [.list xs] => some (nl xs)
  | .list, [.tuple xs] => some (nl xs)
  | .repr, [d] => if reprOk d then some (.imm (.str d.shown)) else none
  | .all, [.list xs] => (boolsOf xs).map fun bs => .imm (.bool (bs.all id))
  | .any, [.list xs] => (boolsOf xs).map fun bs => .imm (.bool (bs.any id))
  | .lrange, xs => (rangeD xs).bind fun r => if r.length ≤ lim then some (nl r) else none
  | .trange, xs => (rangeD xs).bind fun r => if r.length ≤ lim then some (.imm (.tuple r)) else none
  | _, _ => none
def idxD (d : D) : List D → Nat → Option Nat
  | [], _ => none
  | x :: xs, k => if PyData.eqv x d then some k else idxD d xs (k + 1)
def ME.sem : ME → D → List D → Option OV
  | .index, .tuple xs, [d] => if inOk xs d then (idxD d xs 0).map fun k => .imm (.int k) else none
  | .index, .list xs, [d] => if inOk xs d then (idxD d xs 0).map fun k => .imm (.int k) else none
  | _, _, _ => none
def enumD : Nat → List D → List D
  | _, [] => []
  | k, x :: xs => .tuple [.int k, x] :: enumD (k + 1) xs
def zipD : List D → List D → List D
  | x :: xs, y :: ys => .tuple [x, y] :: zipD xs ys
  | _, _ => []
def srcOf : SK → List D → Option (List D)
  | .seq, [.list xs] => some xs
  | .seq, [.tuple xs] => some xs
  | .range, ds => rangeD ds
  | .enum, [.list xs] => some (enumD 0 xs)
  | .enum, [.tuple xs] => some (enumD 0 xs)
  | .zip, [.list xs, .list ys] => some (zipD xs ys)
  | .zip, [.tuple xs, .tuple ys] => some (zipD xs ys)
  | .rev, [.list xs] => some xs.reverse
  | .rev, [.tuple xs] => some xs.reverse
  | _, _ => none

/-! ### slots -/
mutual
def Tgt.bind : Tgt → D → Sl → Option Sl
  | .nm i, d, s => some (s.set i (some (.imm d)))
  | .tp ts, .tuple ds, s => Tgt.binds ts ds s
  | .tp _, _, _ => none
def Tgt.binds : List Tgt → List D → Sl → Option Sl
  | [], [], s => some s
  | t :: ts, d :: ds, s => (Tgt.bind t d s).bind fun s' => Tgt.binds ts ds s'
  | _, _, _ => none
end
mutual
def Tgt.slots : Tgt → List Nat
  | .nm i => [i]
  | .tp ts => Tgt.slotsAll ts
def Tgt.slotsAll : List Tgt → List Nat
  | [] => []
  | t :: ts => t.slots ++ Tgt.slotsAll ts
end
def clear : List Nat → Sl → Sl
  | [], s => s
  | i :: is, s => clear is (s.set i none)
def at_ (s : Sl) (i : Nat) : Option OV := (s[i]?).join
/-- the arguments of a call: settled or handed over | lent from a slot -/
inductive AV where
  | val (v : OV) | lent (i : Nat)
/-- written order to the parameters' order -/
def reo {α : Type} [Inhabited α] (pm : List Nat) (xs : List α) : List α := pm.map fun i => xs.getD i default
def takeAll : List AV → Sl → Option (List OV × Sl)
  | [], s => some ([], s)
  | .val v :: r, s => (takeAll r s).map fun p => (v :: p.1, p.2)
  | .lent i :: r, s => (at_ s i).bind fun v => (takeAll r (s.set i none)).map fun p => (v :: p.1, p.2)
def putAll : List AV → List OV → Sl → Sl
  | [], _, s => s
  | .val _ :: r, os, s => putAll r os s
  | .lent i :: r, o :: os, s => putAll r os (s.set i (some o))
  | .lent _ :: _, [], s => s
def outsOf : List Nat → Sl → Option (List OV)
  | [], _ => some []
  | i :: is, s => (at_ s i).bind fun v => (outsOf is s).map (v :: ·)
def FR.back (r : FR) (as : List AV) (s : Sl) : R OV := match r with
  | .ok v os => .ok v (putAll as os s)
  | .exc c d os => .exc c d (putAll as os s)
  | .bad => .bad
def R.ofO {α : Type} (o : Option α) (s : Sl) : R α := match o with
  | some a => .ok a s
  | none => .bad
/-- nothing may be raised within a comprehension -/
def R.noX {α : Type} (r : R α) : R α := match r with
  | .exc _ _ _ => .bad
  | r => r
def loopC (ks : List Nat) (bind : D → Sl → Option Sl) (cond : Sl → R Bool) (elt : Sl → R OV) : List D → Sl → List OV → R (List OV)
  | [], s, acc => .ok acc s
  | d :: ds, s, acc => match bind d s with
    | none => .bad
    | some s1 => (cond s1).noX.bind fun b s2 => if b then (elt s2).noX.bind fun v s3 => if acc.length < lim then loopC ks bind cond elt ds (clear ks s3) (acc ++ [v]) else .bad
      else loopC ks bind cond elt ds (clear ks s2) acc

/-- two walks, one within the other -/
def loopC2 (ks ks' : List Nat) (bind : D → Sl → Option Sl) (src : Sl → R (List D)) (bind' : D → Sl → Option Sl) (cond : Sl → R Bool) (elt : Sl → R OV) : List D → Sl → List OV → R (List OV)
  | [], s, acc => .ok acc s
  | d :: ds, s, acc => match bind d s with
    | none => .bad
    | some s1 => (src s1).bind fun items s2 => (loopC ks' bind' cond elt items s2 acc).bind fun acc' s3 => loopC2 ks ks' bind src bind' cond elt ds (clear ks s3) acc'

/-! ### expressions -/
mutual
def HE.ev : HE → D → Sl → Option D
  | .lit d, _, _ => some d
  | .fld, f, _ => some f
  | .var i, _, s => match at_ s i with
    | some (.imm d) => some d
    | _ => none
  | .tup es, f, s => (HE.evs es f s).map .tuple
def HE.evs : List HE → D → Sl → Option (List D)
  | [], _, _ => some []
  | e :: es, f, s => (e.ev f s).bind fun d => (HE.evs es f s).map (d :: ·)
end
/-- what a def tells of what it caught -/
def told : List Cl → Nat → D → Sl → R OV
  | [], c, d, s => .exc c d s
  | h :: r, c, d, s => if h.cs.contains c then (match h.a with
      | .ret e => R.ofO ((e.ev d []).map .imm) s
      | _ => .bad) else told r c d s
def R.d (r : R OV) : R D := r.bind fun v s => .ok v.toD s
def E.arg : E → OV → AV
  | .io i, _ => .lent i
  | _, v => .val v
section
variable (ft : FT)
mutual
def evE : E → Sl → R OV
  | .var i, s => match at_ s i with
    | some ov => .ok (.imm ov.toD) (s.set i (some (.imm ov.toD)))
    | none => .bad
  | .mv i, s => match at_ s i with
    | some ov => .ok ov (s.set i none)
    | none => .bad
  | .pk i, s => match at_ s i with
    | some ov => R.ofO (ov.shal.map .imm) s
    | none => .bad
  | .io i, s => match at_ s i with
    | some _ => .ok (.imm .none) s
    | none => .bad
  | .lit d, s => .ok (.imm d) s
  | .glb _ d, s => .ok (.imm d) s
  | .tup es, s => (evDs es s).bind fun ds s1 => .ok (.imm (.tuple ds)) s1
  | .lst es, s => (evEs es s).bind fun vs s1 => .ok (.ol vs) s1
  | .frz e, s => (evE e s).bind fun v s1 => .ok (.imm v.toD) s1
  | .op2 o a b, s => (evE a s).d.bind fun x s1 => (evE b s1).d.bind fun y s2 => R.ofO (o.sem x y) s2
  | .neg a, s => (evE a s).d.bind fun x s1 => match x with
    | .int i => .ok (.imm (.int (-i))) s1
    | _ => .bad
  | .cmp o a b, s => (evE a s).d.bind fun x s1 => (evE b s1).d.bind fun y s2 => R.ofO ((o.sem x y).map fun k => .imm (.bool k)) s2
  | .chn o o' a b c, s => (evE a s).d.bind fun x s1 => (evE b s1).d.bind fun y s2 => match o.sem x y with
    | some true => (evE c s2).d.bind fun z s3 => R.ofO ((o'.sem y z).map fun k => .imm (.bool k)) s3
    | some false => .ok (.imm (.bool false)) s2
    | none => .bad
  | .and_ a b, s => (evE a s).bind fun x s1 => match x with
    | .imm (.bool true) => evE b s1
    | .imm (.bool false) => .ok (.imm (.bool false)) s1
    | _ => .bad
  | .or_ a b, s => (evE a s).bind fun x s1 => match x with
    | .imm (.bool false) => evE b s1
    | .imm (.bool true) => .ok (.imm (.bool true)) s1
    | _ => .bad
  | .not_ a, s => (evE a s).bind fun x s1 => match x with
    | .imm (.bool k) => .ok (.imm (.bool (!k))) s1
    | _ => .bad
  | .ite c a b, s => (evE c s).bind fun x s1 => match x with
    | .imm (.bool true) => evE a s1
    | .imm (.bool false) => evE b s1
    | _ => .bad
  | .ix a b, s => (evE a s).d.bind fun x s1 => (evE b s1).d.bind fun y s2 => R.ofO ((ixD x y).map .imm) s2
  | .ixk i b, s => match at_ s i with
    | none => .bad
    | some _ => (evE b s).d.bind fun y s1 => match y, at_ s1 i with
      | .int k, some (.ol xs) => match L2.atI xs k with
        | some ov => R.ofO (ov.shal.map .imm) s1
        | none => .bad
      | _, _ => .bad
  | .slc a lo hi, s => (evE a s).d.bind fun x s1 => (evI lo s1).bind fun l s2 => (evI hi s2).bind fun h s3 => R.ofO (slcD x l h) s3
  | .call f es pm, s => (evA es s).bind fun as s1 => match takeAll as s1 with
    | some (vs, s2) => (ft f (reo pm vs)).back as s2
    | none => .bad
  | .blt b es, s => (evDs es s).bind fun ds s1 => R.ofO (b.sem ds) s1
  | .isi a ts, s => (evE a s).d.bind fun x s1 => if noDictB x then .ok (.imm (.bool (ts.any fun t => t.has x))) s1 else .bad
  | .meth m a es, s => (evE a s).d.bind fun x s1 => match seqOf x with
    | none => .bad
    | some _ => (evDs es s1).bind fun ds s2 => R.ofO (m.sem x ds) s2
  | .pop i none, s => match at_ s i with
    | some (.ol xs) => match xs.getLast? with
      | some v => .ok v (s.set i (some (.ol xs.dropLast)))
      | none => .bad
    | _ => .bad
  | .pop i (some e), s => (evE e s).d.bind fun y s1 => match y, at_ s1 i with
    | .int k, some (.ol xs) => match L2.ixN xs.length k with
      | some j => match xs[j]? with
        | some v => .ok v (s1.set i (some (.ol (xs.eraseIdx j))))
        | none => .bad
      | none => .bad
    | _, _ => .bad
  | .comp t k es cs e, s => (evDs es s).bind fun ds s1 => match srcOf k ds with
    | none => .bad
    | some items => (loopC t.slots (Tgt.bind t) (fun s => evAll cs s) (fun s => evE e s) items (clear t.slots s1) []).bind fun vs s2 => .ok (.ol vs) s2
  | .atr _ e, s => evE e s
  | .rev a, s => (evE a s).d.bind fun x s1 => match x with
    | .list xs => .ok (nl xs.reverse) s1
    | _ => .bad
  | .gcd a b, s => (evE a s).d.bind fun x s1 => (evE b s1).d.bind fun y s2 => match x, y with
    | .int i, .int j => .ok (.imm (.int ((Nat.gcd i.natAbs j.natAbs : Nat) : Int))) s2
    | _, _ => .bad
  | .popk i k, s => match at_ s i with
    | some (.ol _) => (evE k s).d.bind fun y s1 => match y, at_ s1 i with
      | .int j, some (.ol xs) => match L2.ixN xs.length j with
        | some n => match xs[n]? with
          | some (.ol ys) => match ys.getLast? with
            | some v => .ok v (s1.set i (some (.ol (xs.set n (.ol ys.dropLast)))))
            | none => .bad
          | _ => .bad
        | none => .bad
      | _, _ => .bad
    | _ => .bad
  | .callv i fs es, s => match (at_ s i).bind OV.tok with
    | some x => match fs.lookup x with
      | some f => (evA es s).bind fun as s1 => match takeAll as s1 with
        | some (vs, s2) => (ft f (reo (List.range es.length) vs)).back as s2
        | none => .bad
      | none => .bad
    | none => .bad
  | .comp2 t k es t' k' es' cs e, s => (evDs es s).bind fun ds s1 => match srcOf k ds with
    | none => .bad
    | some items => (loopC2 t.slots t'.slots (Tgt.bind t) (fun s => (evDs es' s).noX.bind fun ds' s1 => R.ofO (srcOf k' ds') s1) (Tgt.bind t') (fun s => evAll cs s) (fun s => evE e s) items (clear t.slots (clear t'.slots s1)) []).bind fun vs s2 => .ok (.ol vs) s2
  | .bad, _ => .bad
  | .told _ e fin hs all, s => match evE e s with
    | .ok _ s1 => R.ofO ((fin.ev .none []).map .imm) s1
    | .exc c d s1 => if all.contains c then told hs c d s1 else .bad
    | .bad => .bad
def evI : Option E → Sl → R (Option Int)
  | none, s => .ok none s
  | some e, s => (evE e s).d.bind fun y s1 => match y with
    | .int i => .ok (some i) s1
    | _ => .bad
def evEs : List E → Sl → R (List OV)
  | [], s => .ok [] s
  | e :: es, s => (evE e s).bind fun v s1 => (evEs es s1).bind fun vs s2 => .ok (v :: vs) s2
def evDs : List E → Sl → R (List D)
  | [], s => .ok [] s
  | e :: es, s => (evE e s).bind fun v s1 => (evDs es s1).bind fun vs s2 => .ok (v.toD :: vs) s2
def evA : List E → Sl → R (List AV)
  | [], s => .ok [] s
  | e :: es, s => (evE e s).bind fun v s1 => (evA es s1).bind fun vs s2 => .ok (e.arg v :: vs) s2
def evAll : List E → Sl → R Bool
  | [], s => .ok true s
  | e :: es, s => (evE e s).bind fun x s1 => match x with
    | .imm (.bool true) => evAll es s1
    | .imm (.bool false) => .ok false s1
    | _ => .bad
end
end

/-! ### statements -/
def loopF (ks : List Nat) (bind : D → Sl → Option Sl) (body : Sl → R Fl) : List D → Sl → R Fl
  | [], s => .ok .nx s
  | d :: ds, s => match bind d s with
    | none => .bad
    | some s1 => (body s1).bind fun f s2 => match f with
      | .nx => loopF ks bind body ds (clear ks s2)
      | .ct => loopF ks bind body ds (clear ks s2)
      | .br => .ok .nx (clear ks s2)
      | .rt v => .ok (.rt v) s2
def loopW (ks : List Nat) (cond : Sl → R Bool) (body : Sl → R Fl) : Nat → Sl → R Fl
  | 0, _ => .bad
  | n + 1, s => (cond s).bind fun b s1 => if b then (body s1).bind fun f s2 => match f with
      | .nx => loopW ks cond body n (clear ks s2)
      | .ct => loopW ks cond body n (clear ks s2)
      | .br => .ok .nx (clear ks s2)
      | .rt v => .ok (.rt v) s2
    else .ok .nx s1
def setAll : List Nat → List OV → Sl → Option Sl
  | [], [], s => some s
  | i :: is, v :: vs, s => setAll is vs (s.set i (some v))
  | _, _, _ => none
def Cl.sl (h : Cl) (s : Sl) : Sl := match h.i with
  | some i => s.set i none
  | none => s
def HA.run : HA → D → Sl → R Fl
  | .ret e, d, s => R.ofO ((e.ev d s).map fun x => .rt (.imm x)) s
  | .set j e, d, s => match e.ev d s with
    | some x => .ok .nx (s.set j (some (.imm x)))
    | none => .bad
  | .pass, _, s => .ok .nx s
def handle : List Cl → Nat → D → Sl → R Fl
  | [], c, d, s => .exc c d s
  | h :: r, c, d, s => if h.cs.contains c then h.a.run d (h.sl s) else handle r c d s
section
variable (wf : Nat) (ft : FT)
mutual
def evS : St → Sl → R Fl
  | .set i e, s => (evE ft e s).bind fun v s1 => .ok .nx (s1.set i (some v))
  | .setT ts e, s => (evE ft e s).d.bind fun d s1 => match Tgt.bind (.tp ts) d s1 with
    | some s2 => .ok .nx s2
    | none => .bad
  | .par is es, s => (evEs ft es s).bind fun vs s1 => match setAll is vs s1 with
    | some s2 => .ok .nx s2
    | none => .bad
  | .aug i o e, s => match at_ s i with
    | some (.imm (.int x)) => (evE ft e s).d.bind fun y s1 => match o, y with
      | .add, .int j => .ok .nx (s1.set i (some (.imm (.int (x + j)))))
      | .sub, .int j => .ok .nx (s1.set i (some (.imm (.int (x - j)))))
      | _, _ => .bad
    | _ => .bad
  | .setix i k e, s => (evE ft e s).bind fun v s1 => match at_ s1 i with
    | some (.ol _) => (evE ft k s1).d.bind fun y s2 => match y, at_ s2 i with
      | .int j, some (.ol xs) => match L2.ixN xs.length j with
        | some n => .ok .nx (s2.set i (some (.ol (xs.set n v))))
        | none => .bad
      | _, _ => .bad
    | _ => .bad
  | .app i e, s => match at_ s i with
    | some (.ol _) => (evE ft e s).bind fun v s1 => match at_ s1 i with
      | some (.ol xs) => if xs.length < lim then .ok .nx (s1.set i (some (.ol (xs ++ [v])))) else .bad
      | _ => .bad
    | _ => .bad
  | .ext i e, s => match at_ s i with
    | some (.ol _) => (evE ft e s).bind fun v s1 => match v, at_ s1 i with
      | .ol ys, some (.ol xs) => if xs.length + ys.length ≤ lim then .ok .nx (s1.set i (some (.ol (xs ++ ys)))) else .bad
      | _, _ => .bad
    | _ => .bad
  | .appk i k e, s => match at_ s i with
    | some (.ol _) => (evE ft k s).d.bind fun y s0 => match y, at_ s0 i with
      | .int j, some (.ol xs) => match L2.ixN xs.length j with
        | some n => match xs[n]? with
          | some (.ol ys) => (evE ft e (s0.set i none)).bind fun v s1 => if ys.length < lim then .ok .nx (s1.set i (some (.ol (xs.set n (.ol (ys ++ [v])))))) else .bad
          | _ => .bad
        | none => .bad
      | _, _ => .bad
    | _ => .bad
  | .bad, _ => .bad
  | .expr e, s => (evE ft e s).bind fun _ s1 => .ok .nx s1
  | .ifs c a b, s => (evE ft c s).bind fun x s1 => match x with
    | .imm (.bool true) => evB a s1
    | .imm (.bool false) => evB b s1
    | _ => .bad
  | .for_ t k es body ks, s => (evDs ft es s).bind fun ds s1 => match srcOf k ds with
    | none => .bad
    | some items => loopF ks (Tgt.bind t) (fun s => evB body s) items s1
  | .while_ c body ks, s => loopW ks (fun s => (evE ft c s).bind fun x s1 => match x with
      | .imm (.bool b) => .ok b s1
      | _ => .bad) (fun s => evB body s) wf s
  | .ret e, s => (evE ft e s).bind fun v s1 => .ok (.rt v) s1
  | .retn, s => .ok (.rt (.imm .none)) s
  | .raise c e, s => (evE ft e s).bind fun v s1 => .exc c v.toD s1
  | .try_ body hs all, s => match evB body s with
    | .ok f s1 => .ok f s1
    | .exc c d s1 => if all.contains c then handle hs c d s1 else .bad
    | .bad => .bad
  | .pass, s => .ok .nx s
  | .brk, s => .ok .br s
  | .cont, s => .ok .ct s
  | .kill is, s => .ok .nx (clear is s)
def evB : List St → Sl → R Fl
  | [], s => .ok .nx s
  | t :: ts, s => (evS t s).bind fun f s1 => match f with
    | .nx => evB ts s1
    | f => .ok f s1
end
end
/-- a def -/
structure Fn where
  ar : Nat
  ns : Nat
  lent : List Nat
  body : List St
def R.fin (r : R Fl) (is : List Nat) : FR := match r with
  | .ok .nx s => match outsOf is s with | some os => .ok (.imm .none) os | none => .bad
  | .ok (.rt v) s => match outsOf is s with | some os => .ok v os | none => .bad
  | .ok _ _ => .bad
  | .exc c d s => match outsOf is s with | some os => .exc c d os | none => .bad
  | .bad => .bad
def evF (wf : Nat) (ft : FT) (f : Fn) (vs : List OV) : FR :=
  if vs.length = f.ar then (evB wf ft f.body (vs.map some ++ List.replicate (f.ns - f.ar) none)).fin f.lent else .bad
def run (P : List Fn) (wf : Nat) : Nat → FT
  | 0 => fun _ _ => .bad
  | n + 1 => fun i vs => match P[i]? with
    | some f => evF wf (run P wf n) f vs
    | none => .bad
example (ft : FT) (d : D) (s : Sl) : evE ft (.lit d) s = .ok (.imm d) s := rfl
example (ft : FT) (e : E) (s : Sl) : evE ft (.frz e) s = (evE ft e s).bind fun v s1 => .ok (.imm v.toD) s1 := rfl
end PV
end
section
set_option Elab.async false
set_option linter.all false
set_option maxRecDepth 100000
/-! PvB: how plain values lie in the abstract heap. -/
namespace PV
open PySem PySem.Spec PyProof.Rows L2

def Ext (G H : Hp) : Prop := ∀ a o, G a = some o → H a = some o
theorem Ext.refl (G : Hp) : Ext G G := fun _ _ h => h
theorem Ext.trans {G H I : Hp} (a : Ext G H) (b : Ext H I) : Ext G I := fun x o h => b x o (a x o h)
theorem Ext.rd {G H : Hp} (e : Ext G H) {a : Addr} {u : HO} (r : Rd G a u) : Rd H a u := by
  rcases r with r | ⟨o, r⟩
  · exact .inl (e _ _ r)
  · exact .inr ⟨o, e _ _ r⟩
theorem Ext.sql {K : PySem.W.Frag} {G H : Hp} (e : Ext G H) {a : Addr} {xs : List V} (r : SqL K G a xs) : SqL K H a xs := by
  rcases r with r | r
  · exact .inl (e.rd r)
  · exact .inr r
/-- a tuple: its object is known to have no dict -/
def TOk (o : Obj) : Prop := o.cls = .type "tuple" ∧ o.dict = none
def TupR (K : PySem.W.Frag) (H : Hp) (a : Addr) (xs : List V) : Prop := (∃ o, H a = some (.frz o (.tup xs)) ∧ TOk o) ∨
  ∃ (o : Obj) (its : Array Value) (n : Nat), K.lookup a = some o ∧ TOk o ∧ o.data = .seq its n ∧ its.size ≤ sizeLine ∧ Vals xs its.toList
theorem TupR.sqt {K : PySem.W.Frag} {H : Hp} {a : Addr} {xs : List V} (h : TupR K H a xs) : SqT K H a xs := by
  rcases h with ⟨o, h, _⟩ | ⟨o, its, n, h1, h2, h3, h4, h5⟩
  · exact .inl (.inr ⟨o, h⟩)
  · exact .inr ⟨o, its, n, h1, h2.1, h3, h4, h5⟩
theorem Ext.tupr {K : PySem.W.Frag} {G H : Hp} (e : Ext G H) {a : Addr} {xs : List V} (r : TupR K G a xs) : TupR K H a xs := by
  rcases r with ⟨o, h, t⟩ | r
  · exact .inl ⟨o, e _ _ h, t⟩
  · exact .inr r
theorem Ext.sqt {K : PySem.W.Frag} {G H : Hp} (e : Ext G H) {a : Addr} {xs : List V} (r : SqT K G a xs) : SqT K H a xs := by
  rcases r with r | r
  · exact .inl (e.rd r)
  · exact .inr r
mutual
/-- a value that reads as data: its lists are lists of our own making (or the script) -/
inductive Dq (K : PySem.W.Frag) (H : Hp) : V → PyData → Prop
  | non : Dq K H .non .none
  | bl (b : Bool) : Dq K H (.bl b) (.bool b)
  | int (i : Int) : Dq K H (.int i) (.int i)
  | str (x : Str) : Dq K H (.str x) (.str x)
  | lst {a : Addr} {xs : List V} {ds : List PyData} : Rd H a (.lst xs) → DqAll K H xs ds → Dq K H (.ref a) (.list ds)
  | tup {a : Addr} {xs : List V} {ds : List PyData} : TupR K H a xs → DqAll K H xs ds → Dq K H (.ref a) (.tuple ds)
  /-- a def of the module, by its name -/
  | fn {a : Addr} {x : Str} : PySem.W.nsIn K mainGlobals x = some (some (.ref a)) → Dq K H (.ref a) (.dict [(.none, .str x)])
inductive DqAll (K : PySem.W.Frag) (H : Hp) : List V → List PyData → Prop
  | nil : DqAll K H [] []
  | cons {v : V} {vs : List V} {d : PyData} {ds : List PyData} : Dq K H v d → DqAll K H vs ds → DqAll K H (v :: vs) (d :: ds)
end
section
variable {K : PySem.W.Frag} {G H G' H' : Hp}
mutual
theorem Dq.ext (e : Ext G H) : ∀ (d : D) (v : V), Dq K G v d → Dq K H v d
  | .none, _, h => by cases h; exact .non
  | .bool _, _, h => by cases h; exact .bl _
  | .int _, _, h => by cases h; exact .int _
  | .str _, _, h => by cases h; exact .str _
  | .list ds, _, h => by
    cases h with
    | lst a b => exact .lst (e.rd a) (Dq.extAll e ds _ b)
  | .tuple ds, _, h => by
    cases h with
    | tup a b => exact .tup (e.tupr a) (Dq.extAll e ds _ b)
  | .dict _, _, h => by
    cases h with
    | fn a => exact .fn a
theorem Dq.extAll (e : Ext G H) : ∀ (ds : List D) (vs : List V), DqAll K G vs ds → DqAll K H vs ds
  | [], _, h => by cases h; exact .nil
  | d :: ds, _, h => by
    cases h with
    | cons a b => exact .cons (Dq.ext e d _ a) (Dq.extAll e ds _ b)
end
mutual
theorem Dq.dp : ∀ (d : D) (v : V), d.hasDict = false → Dq K H v d → Dp K H v d
  | .none, _, _, h => by cases h; exact .non
  | .bool _, _, _, h => by cases h; exact .bl _
  | .int _, _, _, h => by cases h; exact .int _
  | .str _, _, _, h => by cases h; exact .str _
  | .list ds, _, n, h => by
    cases h with
    | lst a b => exact .lst (.inl a) (Dq.dpAll ds _ (by simpa [PyData.hasDict] using n) b)
  | .tuple ds, _, n, h => by
    cases h with
    | tup a b => exact .tup a.sqt (Dq.dpAll ds _ (by simpa [PyData.hasDict] using n) b)
  | .dict _, _, n, _ => by simp [PyData.hasDict] at n
theorem Dq.dpAll : ∀ (ds : List D) (vs : List V), PyData.hasDictAll ds = false → DqAll K H vs ds → DpAll K H vs ds
  | [], _, _, h => by cases h; exact .nil
  | d :: ds, _, n, h => by
    have n : d.hasDict = false ∧ PyData.hasDictAll ds = false := by simpa [PyData.hasDictAll] using n
    cases h with
    | cons a b => exact .cons (Dq.dp d _ n.1 a) (Dq.dpAll ds _ n.2 b)
end
theorem shaped_nd {d : D} (h : SeqAt.shaped d = true) : d.hasDict = false := PyData.hasDict_of_canLay d (by
  unfold SeqAt.shaped at h
  exact (Bool.and_eq_true_iff.mp h).1)
mutual
theorem alike_nd : ∀ d : D, PySem.W.alike d d = true → d.hasDict = false
  | .none, _ => by simp [PyData.hasDict]
  | .bool _, _ => by simp [PyData.hasDict]
  | .int _, _ => by simp [PyData.hasDict]
  | .str _, _ => by simp [PyData.hasDict]
  | .list ds, h => by
    rw [PyData.hasDict]
    exact alike_nds ds (by simpa [PySem.W.alike] using h)
  | .tuple ds, h => by
    rw [PyData.hasDict]
    exact alike_nds ds (by simpa [PySem.W.alike] using h)
  | .dict _, h => by simp [PySem.W.alike] at h
theorem alike_nds : ∀ ds : List D, PySem.W.alikeAll ds ds = true → PyData.hasDictAll ds = false
  | [], _ => by simp [PyData.hasDictAll]
  | d :: ds, h => by
    have h : PySem.W.alike d d = true ∧ PySem.W.alikeAll ds ds = true := by simpa [PySem.W.alikeAll] using h
    rw [PyData.hasDictAll, alike_nd d h.1, alike_nds ds h.2]
    rfl
end
theorem DqAll.len : ∀ {vs : List V} {ds : List D}, DqAll K G vs ds → vs.length = ds.length
  | [], [], _ => rfl
  | [], _ :: _, h => by cases h
  | _ :: _, [], h => by cases h
  | _ :: vs, _ :: ds, h => by
    cases h with
    | cons _ b => rw [List.length_cons, List.length_cons, DqAll.len b]
theorem DqAll.get : ∀ {vs : List V} {ds : List D} {i : Nat} {d : D}, DqAll K G vs ds → ds[i]? = some d → ∃ v, vs[i]? = some v ∧ Dq K G v d
  | _, [], _, _, _, e => by simp at e
  | [], _ :: _, _, _, h, _ => by cases h
  | v :: vs, d :: ds, 0, _, h, e => by
    cases h with
    | cons a _ =>
      simp at e
      subst e
      exact ⟨v, rfl, a⟩
  | _ :: vs, _ :: ds, i + 1, _, h, e => by
    cases h with
    | cons _ b =>
      obtain ⟨v, h1, h2⟩ := DqAll.get (i := i) b (by simpa using e)
      exact ⟨v, by simpa using h1, h2⟩
theorem DqAll.app : ∀ {vs ws : List V} {ds es : List D}, DqAll K G vs ds → DqAll K G ws es → DqAll K G (vs ++ ws) (ds ++ es)
  | [], _, [], _, _, h => h
  | [], _, _ :: _, _, h, _ => by cases h
  | _ :: _, _, [], _, h, _ => by cases h
  | _ :: _, _, _ :: _, _, h, g => by
    cases h with
    | cons a b => exact .cons a (DqAll.app b g)
theorem DqAll.tk : ∀ {vs : List V} {ds : List D} (n : Nat), DqAll K G vs ds → DqAll K G (vs.take n) (ds.take n)
  | _, _, 0, _ => by simp; exact .nil
  | [], [], _ + 1, _ => .nil
  | [], _ :: _, _ + 1, h => by cases h
  | _ :: _, [], _ + 1, h => by cases h
  | _ :: _, _ :: _, n + 1, h => by
    cases h with
    | cons a b => exact .cons a (DqAll.tk n b)
theorem DqAll.dr : ∀ {vs : List V} {ds : List D} (n : Nat), DqAll K G vs ds → DqAll K G (vs.drop n) (ds.drop n)
  | _, _, 0, h => h
  | [], [], _ + 1, _ => .nil
  | [], _ :: _, _ + 1, h => by cases h
  | _ :: _, [], _ + 1, h => by cases h
  | _ :: _, _ :: _, n + 1, h => by
    cases h with
    | cons a b => exact DqAll.dr n b
theorem DqAll.rev : ∀ {vs : List V} {ds : List D}, DqAll K G vs ds → DqAll K G vs.reverse ds.reverse
  | [], [], _ => .nil
  | [], _ :: _, h => by cases h
  | _ :: _, [], h => by cases h
  | _ :: _, _ :: _, h => by
    cases h with
    | cons a b =>
      rw [List.reverse_cons, List.reverse_cons]
      exact DqAll.app (DqAll.rev b) (.cons a .nil)

/-! ### owned values -/
mutual
def OR (K : PySem.W.Frag) (G H : Hp) : OV → V → List Addr → Prop
  | .imm d, v, A => A = [] ∧ Dq K G v d
  | .ol xs, v, A => ∃ p vs B, v = .ref p ∧ A = p :: B ∧ G p = none ∧ H p = some (.lst vs) ∧ ORs K G H xs vs B
def ORs (K : PySem.W.Frag) (G H : Hp) : List OV → List V → List Addr → Prop
  | [], vs, A => vs = [] ∧ A = []
  | x :: xs, vs, A => ∃ v vr B C, vs = v :: vr ∧ A = B ++ C ∧ OR K G H x v B ∧ ORs K G H xs vr C
end
mutual
theorem OR.frame (e : Ext G G') : ∀ (x : OV) (v : V) (A : List Addr), (∀ a ∈ A, H' a = H a) → (∀ a ∈ A, G' a = none) → OR K G H x v A → OR K G' H' x v A
  | .imm d, v, A, _, _, h => ⟨h.1, Dq.ext e _ _ h.2⟩
  | .ol xs, v, A, k, n, h => by
    obtain ⟨p, vs, B, rfl, rfl, g, hp, r⟩ := h
    exact ⟨p, vs, B, rfl, rfl, n p (by simp), (k p (by simp)).trans hp, ORs.frame e xs vs B (fun a ha => k a (by simp [ha])) (fun a ha => n a (by simp [ha])) r⟩
theorem ORs.frame (e : Ext G G') : ∀ (xs : List OV) (vs : List V) (A : List Addr), (∀ a ∈ A, H' a = H a) → (∀ a ∈ A, G' a = none) → ORs K G H xs vs A → ORs K G' H' xs vs A
  | [], _, _, _, _, h => h
  | x :: xs, vs, A, k, n, h => by
    obtain ⟨v, vr, B, C, rfl, rfl, h1, h2⟩ := h
    exact ⟨v, vr, B, C, rfl, rfl, OR.frame e x v B (fun a ha => k a (by simp [ha])) (fun a ha => n a (by simp [ha])) h1,
      ORs.frame e xs vr C (fun a ha => k a (by simp [ha])) (fun a ha => n a (by simp [ha])) h2⟩
end
mutual
theorem OR.trk : ∀ (x : OV) (v : V) (A : List Addr), OR K G H x v A → ∀ a ∈ A, ∃ o, H a = some o
  | .imm d, v, A, h, a, ha => by rw [h.1] at ha; cases ha
  | .ol xs, v, A, h, a, ha => by
    obtain ⟨p, vs, B, rfl, rfl, g, hp, r⟩ := h
    rcases List.mem_cons.mp ha with rfl | ha
    · exact ⟨_, hp⟩
    · exact ORs.trk xs vs B r a ha
theorem ORs.trk : ∀ (xs : List OV) (vs : List V) (A : List Addr), ORs K G H xs vs A → ∀ a ∈ A, ∃ o, H a = some o
  | [], _, _, h, a, ha => by rw [h.2] at ha; cases ha
  | x :: xs, vs, A, h, a, ha => by
    obtain ⟨v, vr, B, C, rfl, rfl, h1, h2⟩ := h
    rcases List.mem_append.mp ha with ha | ha
    · exact OR.trk x v B h1 a ha
    · exact ORs.trk xs vr C h2 a ha
end
theorem ORs.len : ∀ {xs : List OV} {vs : List V} {A : List Addr}, ORs K G H xs vs A → vs.length = xs.length
  | [], _, _, h => by rw [h.1]; rfl
  | x :: xs, _, _, h => by
    obtain ⟨v, vr, B, C, rfl, rfl, h1, h2⟩ := h
    rw [List.length_cons, List.length_cons, ORs.len h2]
mutual
/-- settled: the tree's objects join what is settled -/
theorem OR.settle (e : Ext G G') : ∀ (x : OV) (v : V) (A : List Addr), (∀ a ∈ A, G' a = H a) → OR K G H x v A → Dq K G' v x.toD
  | .imm d, v, A, _, h => by rw [OV.toD]; exact Dq.ext e _ _ h.2
  | .ol xs, v, A, k, h => by
    obtain ⟨p, vs, B, rfl, rfl, g, hp, r⟩ := h
    rw [OV.toD]
    exact .lst (.inl ((k p (by simp)).trans hp)) (ORs.settle e xs vs B (fun a ha => k a (by simp [ha])) r)
theorem ORs.settle (e : Ext G G') : ∀ (xs : List OV) (vs : List V) (A : List Addr), (∀ a ∈ A, G' a = H a) → ORs K G H xs vs A → DqAll K G' vs (OV.toDs xs)
  | [], _, _, _, h => by rw [h.1, OV.toDs]; exact .nil
  | x :: xs, vs, A, k, h => by
    obtain ⟨v, vr, B, C, rfl, rfl, h1, h2⟩ := h
    rw [OV.toDs]
    exact .cons (OR.settle e x v B (fun a ha => k a (by simp [ha])) h1) (ORs.settle e xs vr C (fun a ha => k a (by simp [ha])) h2)
end
theorem ORs.imms : ∀ {ds : List D} {vs : List V}, DqAll K G vs ds → ORs K G H (ds.map .imm) vs []
  | [], [], _ => ⟨rfl, rfl⟩
  | [], _ :: _, h => by cases h
  | _ :: _, [], h => by cases h
  | d :: ds, v :: vs, h => by
    cases h with
    | cons a b => exact ⟨v, vs, [], [], rfl, rfl, ⟨rfl, a⟩, ORs.imms b⟩
theorem ORs.immAll : ∀ {xs : List OV} {ds : List D} {vs : List V} {A : List Addr}, OV.immAll xs = some ds → ORs K G H xs vs A → A = [] ∧ DqAll K G vs ds
  | [], ds, vs, A, e, h => by
    rw [OV.immAll] at e
    cases e
    rw [h.1]
    exact ⟨h.2, .nil⟩
  | .imm d :: xs, ds, vs, A, e, h => by
    rw [OV.immAll] at e
    cases q : OV.immAll xs with
    | none => rw [q] at e; cases e
    | some es =>
      rw [q] at e
      cases e
      obtain ⟨v, vr, B, C, rfl, rfl, h1, h2⟩ := h
      obtain ⟨z, r⟩ := ORs.immAll q h2
      exact ⟨by rw [h1.1, z]; rfl, .cons h1.2 r⟩
  | .ol _ :: xs, ds, vs, A, e, h => by rw [OV.immAll] at e; cases e
theorem ORs.app : ∀ {xs ys : List OV} {vs ws : List V} {A B : List Addr}, ORs K G H xs vs A → ORs K G H ys ws B → ORs K G H (xs ++ ys) (vs ++ ws) (A ++ B)
  | [], ys, vs, ws, A, B, h, g => by
    rw [h.1, h.2]
    exact g
  | x :: xs, ys, vs, ws, A, B, h, g => by
    obtain ⟨v, vr, C, E, rfl, rfl, h1, h2⟩ := h
    exact ⟨v, vr ++ ws, C, E ++ B, rfl, by rw [List.append_assoc], h1, ORs.app h2 g⟩

/-! ### slots, and what is held in hand -/
def SlR (K : PySem.W.Frag) (G H : Hp) : Sl → L2.St → List Addr → Prop
  | [], σ, A => σ = [] ∧ A = []
  | none :: s, σ, A => ∃ y r, σ = y :: r ∧ SlR K G H s r A
  | some ov :: s, σ, A => ∃ v r B C, σ = some v :: r ∧ A = B ++ C ∧ OR K G H ov v B ∧ SlR K G H s r C
inductive Hd where
  | ov (v : OV)
  | od (d : D)
  | raw (o : HO)
  | tbs
/-- the defs of the text: their tables of code objects, the name of a lambda there -/
def tbOf (K : PySem.W.Frag) : List (Addr × Str) := K.filterMap fun q => match q.2.data with
  | .func fd => (match fd.code with
    | .ref c => (match K.lookup c with
      | some o => (match o.data with
        | .fields vs => (match (vs[11]? : Option Value) with
          | some (.ref P) => some (P, fd.qualname ++ ".<locals>." ++ "<lambda>")
          | _ => none)
        | _ => none)
      | _ => none)
    | _ => none)
  | _ => none
/-- the tables are ours, their code objects settled -/
def TbR (K : PySem.W.Frag) (G H : Hp) (b : List Addr) : Prop := (∀ a ∈ b, (∃ q, (a, q) ∈ tbOf K) ∧ ∃ ps, H a = some (.tbl ps)) ∧ ∀ p ∈ tbOf K, p.1 ∈ b ∧ ∃ ps : Array Value, H p.1 = some (.tbl ps) ∧ TriplesOk ps.toList ∧ ∀ (pos : Pos) (cv : Value), codeAmong pos ps.toList = some cv → ∃ c, cv = .ref c ∧ G c = some (LamX.CodeO c p.2)
theorem TbR.frame {K : PySem.W.Frag} {G H G' H' : Hp} {b : List Addr} (e : Ext G G') (k : ∀ a ∈ b, H' a = H a) (h : TbR K G H b) : TbR K G' H' b := by
  refine ⟨fun a ha => ?_, fun p hp => ?_⟩
  · obtain ⟨hq, ps, z⟩ := h.1 a ha
    exact ⟨hq, ps, (k a ha).trans z⟩
  · obtain ⟨h1, ps, h2, h3, h4⟩ := h.2 p hp
    refine ⟨h1, ps, (k _ h1).trans h2, h3, fun pos cv q => ?_⟩
    obtain ⟨c, e1, e2⟩ := h4 pos cv q
    exact ⟨c, e1, e _ _ e2⟩
/-- settled, or a list of settled things in one of the slots -/
def Od (K : PySem.W.Frag) (G H : Hp) (A : List Addr) (d : D) (x : V) : Prop :=
  Dq K G x d ∨ ∃ p vs ds, x = .ref p ∧ d = .list ds ∧ H p = some (.lst vs) ∧ DqAll K G vs ds ∧ p ∈ A
/-- neither a table nor a code object -/
def Ob (o : HO) : Prop := (∀ ps, o ≠ .tbl ps) ∧ ∀ f, o ≠ .ext f
def RawAt (H : Hp) (a : Addr) (o : HO) : Prop := H a = some o ∧ Ob o
def HdR (K : PySem.W.Frag) (G H : Hp) (A : List Addr) : List (Hd × V) → List Addr → Prop
  | [], B => B = []
  | (.ov v, x) :: T, B => ∃ b c, B = b ++ c ∧ OR K G H v x b ∧ HdR K G H A T c
  | (.od d, x) :: T, B => Od K G H A d x ∧ HdR K G H A T B
  | (.raw o, x) :: T, B => ∃ a c, x = .ref a ∧ B = a :: c ∧ RawAt H a o ∧ HdR K G H A T c
  | (.tbs, x) :: T, B => ∃ b c, B = b ++ c ∧ TbR K G H b ∧ HdR K G H A T c
def WI (K : PySem.W.Frag) (s : Sl) (T : List (Hd × V)) (σ : L2.St) (H : Hp) : Prop :=
  ∃ G A B, Ext G H ∧ SlR K G H s σ A ∧ HdR K G H A T B ∧ (A ++ B).Nodup ∧ ∀ a ∈ A ++ B, G a = none
/-- no list of a slot is held -/
def noPk0 : List (Hd × V) → Prop
  | [] => True
  | (.od _, _) :: _ => False
  | _ :: T => noPk0 T
/-- .. and the tables are held -/
def noPk : List (Hd × V) → Prop
  | [] => False
  | (.od _, _) :: _ => False
  | (.tbs, _) :: T => noPk0 T
  | (.ov _, _) :: T => noPk T
  | (.raw _, _) :: T => noPk T
theorem noPk.to0 : ∀ {T : List (Hd × V)}, noPk T → noPk0 T
  | [], h => h.elim
  | (.od _, _) :: _, h => h.elim
  | (.tbs, _) :: _, h => h
  | (.ov _, _) :: T, h => noPk.to0 (T := T) h
  | (.raw _, _) :: T, h => noPk.to0 (T := T) h

theorem SlR.frame (e : Ext G G') : ∀ (s : Sl) (σ : L2.St) (A : List Addr), (∀ a ∈ A, H' a = H a) → (∀ a ∈ A, G' a = none) → SlR K G H s σ A → SlR K G' H' s σ A
  | [], _, _, _, _, h => h
  | none :: s, σ, A, k, n, h => by
    obtain ⟨y, r, rfl, h⟩ := h
    exact ⟨y, r, rfl, SlR.frame e s r A k n h⟩
  | some ov :: s, σ, A, k, n, h => by
    obtain ⟨v, r, B, C, rfl, rfl, h1, h2⟩ := h
    exact ⟨v, r, B, C, rfl, rfl, OR.frame e ov v B (fun a ha => k a (by simp [ha])) (fun a ha => n a (by simp [ha])) h1,
      SlR.frame e s r C (fun a ha => k a (by simp [ha])) (fun a ha => n a (by simp [ha])) h2⟩
theorem SlR.trk : ∀ (s : Sl) (σ : L2.St) (A : List Addr), SlR K G H s σ A → ∀ a ∈ A, ∃ o, H a = some o
  | [], _, _, h, a, ha => by rw [h.2] at ha; cases ha
  | none :: s, σ, A, h, a, ha => by
    obtain ⟨y, r, rfl, h⟩ := h
    exact SlR.trk s r A h a ha
  | some ov :: s, σ, A, h, a, ha => by
    obtain ⟨v, r, B, C, rfl, rfl, h1, h2⟩ := h
    rcases List.mem_append.mp ha with ha | ha
    · exact OR.trk ov v B h1 a ha
    · exact SlR.trk s r C h2 a ha
theorem SlR.len : ∀ {s : Sl} {σ : L2.St} {A : List Addr}, SlR K G H s σ A → σ.length = s.length
  | [], _, _, h => by rw [h.1]; rfl
  | none :: s, σ, A, h => by
    obtain ⟨y, r, rfl, h⟩ := h
    rw [List.length_cons, List.length_cons, SlR.len h]
  | some ov :: s, σ, A, h => by
    obtain ⟨v, r, B, C, rfl, rfl, h1, h2⟩ := h
    rw [List.length_cons, List.length_cons, SlR.len h2]
theorem Od.frame {A A' : List Addr} {d : D} {x : V} (e : Ext G G') (k : ∀ a ∈ A, H' a = H a ∧ (a ∈ A' ∨ G' a = H a)) (h : Od K G H A d x) : Od K G' H' A' d x := by
  rcases h with h | ⟨p, vs, ds, rfl, rfl, hp, hd, ha⟩
  · exact .inl (Dq.ext e _ _ h)
  · obtain ⟨k1, k2⟩ := k p ha
    rcases k2 with k2 | k2
    · exact .inr ⟨p, vs, ds, rfl, rfl, k1.trans hp, Dq.extAll e _ _ hd, k2⟩
    · exact .inl (.lst (.inl (k2.trans hp)) (Dq.extAll e _ _ hd))
/-- what is held, where the slots' own objects stand or were settled -/
theorem HdR.frame {A A' : List Addr} (e : Ext G G') (kA : ∀ a ∈ A, H' a = H a ∧ (a ∈ A' ∨ G' a = H a)) : ∀ (T : List (Hd × V)) (B : List Addr), (∀ a ∈ B, H' a = H a) → (∀ a ∈ B, G' a = none) → HdR K G H A T B → HdR K G' H' A' T B
  | [], _, _, _, h => h
  | (.ov v, x) :: T, B, k, n, h => by
    obtain ⟨b, c, rfl, h1, h2⟩ := h
    exact ⟨b, c, rfl, OR.frame e v x b (fun a ha => k a (by simp [ha])) (fun a ha => n a (by simp [ha])) h1,
      HdR.frame e kA T c (fun a ha => k a (by simp [ha])) (fun a ha => n a (by simp [ha])) h2⟩
  | (.od d, x) :: T, B, k, n, h => ⟨h.1.frame e kA, HdR.frame e kA T B k n h.2⟩
  | (.raw o, x) :: T, B, k, n, h => by
    obtain ⟨a, c, rfl, rfl, h1, h2⟩ := h
    exact ⟨a, c, rfl, rfl, ⟨(k a (by simp)).trans h1.1, h1.2⟩, HdR.frame e kA T c (fun a ha => k a (by simp [ha])) (fun a ha => n a (by simp [ha])) h2⟩
  | (.tbs, x) :: T, B, k, n, h => by
    obtain ⟨b, c, rfl, h1, h2⟩ := h
    exact ⟨b, c, rfl, h1.frame e (fun a ha => k a (by simp [ha])), HdR.frame e kA T c (fun a ha => k a (by simp [ha])) (fun a ha => n a (by simp [ha])) h2⟩
/-- .. where no list of a slot is held -/
theorem HdR.frame0 {A A' : List Addr} (e : Ext G G') : ∀ (T : List (Hd × V)) (B : List Addr), noPk0 T → (∀ a ∈ B, H' a = H a) → (∀ a ∈ B, G' a = none) → HdR K G H A T B → HdR K G' H' A' T B
  | [], _, _, _, _, h => h
  | (.ov v, x) :: T, B, z, k, n, h => by
    obtain ⟨b, c, rfl, h1, h2⟩ := h
    exact ⟨b, c, rfl, OR.frame e v x b (fun a ha => k a (by simp [ha])) (fun a ha => n a (by simp [ha])) h1,
      HdR.frame0 e T c z (fun a ha => k a (by simp [ha])) (fun a ha => n a (by simp [ha])) h2⟩
  | (.od d, x) :: T, B, z, k, n, h => z.elim
  | (.raw o, x) :: T, B, z, k, n, h => by
    obtain ⟨a, c, rfl, rfl, h1, h2⟩ := h
    exact ⟨a, c, rfl, rfl, ⟨(k a (by simp)).trans h1.1, h1.2⟩, HdR.frame0 e T c z (fun a ha => k a (by simp [ha])) (fun a ha => n a (by simp [ha])) h2⟩
  | (.tbs, x) :: T, B, z, k, n, h => by
    obtain ⟨b, c, rfl, h1, h2⟩ := h
    exact ⟨b, c, rfl, h1.frame e (fun a ha => k a (by simp [ha])), HdR.frame0 e T c z (fun a ha => k a (by simp [ha])) (fun a ha => n a (by simp [ha])) h2⟩
theorem HdR.trk {A : List Addr} : ∀ (T : List (Hd × V)) (B : List Addr), HdR K G H A T B → ∀ a ∈ B, ∃ o, H a = some o
  | [], _, h, a, ha => by
    have h : _ = [] := h
    rw [h] at ha; cases ha
  | (.ov v, x) :: T, B, h, a, ha => by
    obtain ⟨b, c, rfl, h1, h2⟩ := h
    rcases List.mem_append.mp ha with ha | ha
    · exact OR.trk v x b h1 a ha
    · exact HdR.trk T c h2 a ha
  | (.od d, x) :: T, B, h, a, ha => HdR.trk T B h.2 a ha
  | (.raw o, x) :: T, B, h, a, ha => by
    obtain ⟨a', c, rfl, rfl, h1, h2⟩ := h
    rcases List.mem_cons.mp ha with rfl | ha
    · exact ⟨_, h1.1⟩
    · exact HdR.trk T c h2 a ha
  | (.tbs, x) :: T, B, h, a, ha => by
    obtain ⟨b, c, rfl, h1, h2⟩ := h
    rcases List.mem_append.mp ha with ha | ha
    · obtain ⟨_, ps, z⟩ := h1.1 a ha
      exact ⟨_, z⟩
    · exact HdR.trk T c h2 a ha
theorem HdR.app {A : List Addr} : ∀ {T U : List (Hd × V)} {B C : List Addr}, HdR K G H A T B → HdR K G H A U C → HdR K G H A (T ++ U) (B ++ C)
  | [], U, B, C, h, g => by
    have h : B = [] := h
    rw [h]; exact g
  | (.ov v, x) :: T, U, B, C, h, g => by
    obtain ⟨b, c, rfl, h1, h2⟩ := h
    exact ⟨b, c ++ C, by rw [List.append_assoc], h1, HdR.app h2 g⟩
  | (.od d, x) :: T, U, B, C, h, g => ⟨h.1, HdR.app h.2 g⟩
  | (.raw o, x) :: T, U, B, C, h, g => by
    obtain ⟨a', c, rfl, rfl, h1, h2⟩ := h
    exact ⟨a', c ++ C, rfl, rfl, h1, HdR.app h2 g⟩
  | (.tbs, x) :: T, U, B, C, h, g => by
    obtain ⟨b, c, rfl, h1, h2⟩ := h
    exact ⟨b, c ++ C, by rw [List.append_assoc], h1, HdR.app h2 g⟩
theorem HdR.split {A : List Addr} : ∀ {T U : List (Hd × V)} {B : List Addr}, HdR K G H A (T ++ U) B → ∃ b c, B = b ++ c ∧ HdR K G H A T b ∧ HdR K G H A U c
  | [], U, B, h => ⟨[], B, rfl, rfl, h⟩
  | (.ov v, x) :: T, U, B, h => by
    obtain ⟨b, c, rfl, h1, h2⟩ := h
    obtain ⟨b', c', rfl, h3, h4⟩ := HdR.split h2
    exact ⟨b ++ b', c', by rw [List.append_assoc], ⟨b, b', rfl, h1, h3⟩, h4⟩
  | (.od d, x) :: T, U, B, h => by
    obtain ⟨b', c', rfl, h3, h4⟩ := HdR.split h.2
    exact ⟨b', c', rfl, ⟨h.1, h3⟩, h4⟩
  | (.raw o, x) :: T, U, B, h => by
    obtain ⟨a', c, rfl, rfl, h1, h2⟩ := h
    obtain ⟨b', c', rfl, h3, h4⟩ := HdR.split h2
    exact ⟨a' :: b', c', rfl, ⟨a', b', rfl, rfl, h1, h3⟩, h4⟩
  | (.tbs, x) :: T, U, B, h => by
    obtain ⟨b, c, rfl, h1, h2⟩ := h
    obtain ⟨b', c', rfl, h3, h4⟩ := HdR.split h2
    exact ⟨b ++ b', c', by rw [List.append_assoc], ⟨b, b', rfl, h1, h3⟩, h4⟩
theorem HdR.perm {A : List Addr} {T U : List (Hd × V)} (p : T.Perm U) : ∀ {B : List Addr}, HdR K G H A T B → ∃ C, B.Perm C ∧ HdR K G H A U C := by
  induction p with
  | nil => exact fun {B} h => ⟨B, .refl _, h⟩
  | cons x q ih =>
    intro B h
    obtain ⟨hd, v⟩ := x
    cases hd with
    | ov w =>
      obtain ⟨b, c, rfl, h1, h2⟩ := h
      obtain ⟨C, p1, h3⟩ := ih h2
      exact ⟨b ++ C, p1.append_left b, b, C, rfl, h1, h3⟩
    | od d =>
      obtain ⟨C, p1, h3⟩ := ih h.2
      exact ⟨C, p1, h.1, h3⟩
    | raw o =>
      obtain ⟨a', c, rfl, rfl, h1, h2⟩ := h
      obtain ⟨C, p1, h3⟩ := ih h2
      exact ⟨a' :: C, p1.cons a', a', C, rfl, rfl, h1, h3⟩
    | tbs =>
      obtain ⟨b, c, rfl, h1, h2⟩ := h
      obtain ⟨C, p1, h3⟩ := ih h2
      exact ⟨b ++ C, p1.append_left b, b, C, rfl, h1, h3⟩
  | swap x y l =>
    intro B h
    have h : HdR K G H A ([y] ++ ([x] ++ l)) B := h
    obtain ⟨b, c, rfl, h1, h2⟩ := HdR.split h
    obtain ⟨b', c', rfl, h3, h4⟩ := HdR.split h2
    refine ⟨b' ++ (b ++ c'), ?_, HdR.app (T := [x]) h3 (HdR.app (T := [y]) h1 h4)⟩
    rw [← List.append_assoc, ← List.append_assoc]
    exact List.perm_append_comm.append_right c'
  | trans p q ih1 ih2 =>
    intro B h
    obtain ⟨C, p1, h3⟩ := ih1 h
    obtain ⟨C', p2, h4⟩ := ih2 h3
    exact ⟨C', p1.trans p2, h4⟩
end
end PV
end
section
set_option Elab.async false
set_option linter.all false
set_option maxRecDepth 100000
/-! PvC: the steps on what is held. -/
namespace PV
open PySem PySem.Spec PyProof.Rows L2
section
variable {K : PySem.W.Frag} {G H G' H' : Hp} {s : Sl} {T U : List (Hd × V)} {σ : L2.St}

def zipH (vs : List OV) (xs : List V) : List (Hd × V) := List.zipWith (fun v x => (Hd.ov v, x)) vs xs
theorem noPk0_app : ∀ {T U : List (Hd × V)}, noPk0 (T ++ U) ↔ noPk0 T ∧ noPk0 U
  | [], _ => ⟨fun h => ⟨trivial, h⟩, fun h => h.2⟩
  | (.ov _, _) :: T, _ => noPk0_app (T := T)
  | (.od _, _) :: _, _ => ⟨fun h => h.elim, fun h => h.1.elim⟩
  | (.raw _, _) :: T, _ => noPk0_app (T := T)
  | (.tbs, _) :: T, _ => noPk0_app (T := T)
theorem np_app : ∀ {T U : List (Hd × V)}, noPk0 T → noPk U → noPk (T ++ U)
  | [], _, _, h => h
  | (.ov _, _) :: T, _, g, h => np_app (T := T) g h
  | (.od _, _) :: _, _, g, _ => g.elim
  | (.raw _, _) :: T, _, g, h => np_app (T := T) g h
  | (.tbs, _) :: T, _, g, h => noPk0_app.mpr ⟨g, h.to0⟩
theorem noPk_zip : ∀ (vs : List OV) (xs : List V), noPk0 (zipH vs xs)
  | [], _ => trivial
  | _ :: _, [] => trivial
  | _ :: vs, _ :: xs => noPk_zip vs xs
theorem noPk0_perm {T U : List (Hd × V)} (p : T.Perm U) : noPk0 T → noPk0 U := by
  induction p with
  | nil => exact id
  | cons x q ih =>
    obtain ⟨h, v⟩ := x
    cases h with
    | ov w => exact ih
    | od d => exact fun z => z.elim
    | raw o => exact ih
    | tbs => exact ih
  | swap x y l =>
    obtain ⟨h, v⟩ := x
    obtain ⟨h', v'⟩ := y
    cases h <;> cases h' <;> exact fun z => z
  | trans p q i1 i2 => exact fun h => i2 (i1 h)
/-- the tables are among what is held -/
def hasTb : List (Hd × V) → Prop
  | [] => False
  | (.tbs, _) :: _ => True
  | _ :: T => hasTb T
theorem noPk_iff : ∀ {T : List (Hd × V)}, noPk T ↔ noPk0 T ∧ hasTb T
  | [] => ⟨fun h => h.elim, fun h => h.2⟩
  | (.ov _, _) :: T => noPk_iff (T := T)
  | (.od _, _) :: _ => ⟨fun h => h.elim, fun h => h.1⟩
  | (.raw _, _) :: T => noPk_iff (T := T)
  | (.tbs, _) :: T => ⟨fun h => ⟨h, trivial⟩, fun h => h.1⟩
theorem hasTb_mem : ∀ {T : List (Hd × V)}, hasTb T ↔ ∃ x, (Hd.tbs, x) ∈ T
  | [] => ⟨fun h => h.elim, fun ⟨_, h⟩ => by cases h⟩
  | (.tbs, x) :: T => ⟨fun _ => ⟨x, by simp⟩, fun _ => trivial⟩
  | (.ov _, _) :: T => by rw [show hasTb ((.ov _, _) :: T) = hasTb T from rfl, hasTb_mem (T := T)]; simp
  | (.od _, _) :: T => by rw [show hasTb ((.od _, _) :: T) = hasTb T from rfl, hasTb_mem (T := T)]; simp
  | (.raw _, _) :: T => by rw [show hasTb ((.raw _, _) :: T) = hasTb T from rfl, hasTb_mem (T := T)]; simp
theorem noPk_perm {T U : List (Hd × V)} (p : T.Perm U) : noPk T → noPk U := fun h => by
  have h := noPk_iff.mp h
  refine noPk_iff.mpr ⟨noPk0_perm p h.1, ?_⟩
  obtain ⟨x, hx⟩ := hasTb_mem.mp h.2
  exact hasTb_mem.mpr ⟨x, p.mem_iff.mp hx⟩

theorem WI.perm (p : T.Perm U) (w : WI K s T σ H) : WI K s U σ H := by
  obtain ⟨G, A, B, e, hs, hd, nd, n⟩ := w
  obtain ⟨C, q, hd'⟩ := HdR.perm p hd
  have q2 : (A ++ B).Perm (A ++ C) := q.append_left A
  exact ⟨G, A, C, e, hs, hd', q2.nodup nd, fun a ha => n a (q2.mem_iff.mpr ha)⟩
theorem WI.len (w : WI K s T σ H) : σ.length = s.length := by
  obtain ⟨G, A, B, e, hs, hd, nd, n⟩ := w
  exact hs.len
theorem WI.drops (w : WI K s (T ++ U) σ H) : WI K s U σ H := by
  obtain ⟨G, A, B, e, hs, hd, nd, n⟩ := w
  obtain ⟨b, c, rfl, h1, h2⟩ := HdR.split hd
  refine ⟨G, A, c, e, hs, h2, ?_, fun a ha => n a ?_⟩
  · refine List.Nodup.sublist ?_ nd
    exact (List.sublist_append_right b c).append_left A
  · rcases List.mem_append.mp ha with ha | ha
    · simp [ha]
    · simp [ha]
theorem WI.drop {x : Hd × V} (w : WI K s (x :: U) σ H) : WI K s U σ H := WI.drops (T := [x]) w
theorem WI.settle {v : OV} {x : V} (w : WI K s ((.ov v, x) :: T) σ H) : WI K s ((.ov (.imm v.toD), x) :: T) σ H := by
  obtain ⟨G, A, B, e, hs, ⟨b, c, rfl, h1, h2⟩, nd, n⟩ := w
  have q : ∀ a, a ∈ b → a ∉ A ∧ a ∉ c := fun a ha => by
    have z := List.nodup_append.mp nd
    have z2 := List.nodup_append.mp z.2.1
    exact ⟨fun hA => z.2.2 a hA a (by simp [ha]) rfl, fun hc => z2.2.2 a ha a hc rfl⟩
  have eG : Ext G (fun a => if a ∈ b then H a else G a) := fun a o g => by
    by_cases ha : a ∈ b
    · rw [n a (by simp [ha])] at g; cases g
    · simp [ha, g]
  refine ⟨fun a => if a ∈ b then H a else G a, A, c, fun a o g => ?_, ?_, ?_, ?_, fun a ha => ?_⟩
  · by_cases ha : a ∈ b
    · simpa [ha] using g
    · simp [ha] at g; exact e a o g
  · refine SlR.frame eG s σ A (fun _ _ => rfl) (fun a ha => ?_) hs
    have : a ∉ b := fun hb => (q a hb).1 ha
    simp [this, n a (by simp [ha])]
  · refine ⟨[], c, rfl, ⟨rfl, OR.settle eG v x b (fun a ha => by simp [ha]) h1⟩, ?_⟩
    refine HdR.frame eG (fun a ha => ⟨rfl, .inl ha⟩) T c (fun _ _ => rfl) (fun a ha => ?_) h2
    have : a ∉ b := fun hb => (q a hb).2 ha
    simp [this, n a (by simp [ha])]
  · exact List.Nodup.sublist ((List.sublist_append_right b c).append_left A) nd
  · have ha' : a ∈ A ++ (b ++ c) := by
      rcases List.mem_append.mp ha with ha | ha
      · simp [ha]
      · simp [ha]
    have : a ∉ b := fun hb => by
      rcases List.mem_append.mp ha with ha | ha
      · exact (q a hb).1 ha
      · exact (q a hb).2 ha
    simp [this, n a ha']

theorem ORs.hd {A : List Addr} : ∀ {vs : List OV} {xs : List V} {B : List Addr}, vs.length = xs.length → HdR K G H A (zipH vs xs) B → ORs K G H vs xs B
  | [], [], B, _, h => ⟨rfl, h⟩
  | [], _ :: _, _, h, _ => by cases h
  | _ :: _, [], _, h, _ => by cases h
  | v :: vs, x :: xs, B, hl, h => by
    obtain ⟨b, c, rfl, h1, h2⟩ := h
    exact ⟨x, xs, b, c, rfl, rfl, h1, ORs.hd (by simpa using hl) h2⟩
theorem ORs.toHd {A : List Addr} : ∀ {vs : List OV} {xs : List V} {B : List Addr}, ORs K G H vs xs B → HdR K G H A (zipH vs xs) B
  | [], _, _, h => by rw [h.1, h.2]; rfl
  | v :: vs, _, _, h => by
    obtain ⟨x, xr, B, C, rfl, rfl, h1, h2⟩ := h
    exact ⟨B, C, rfl, h1, ORs.toHd h2⟩
theorem ORs.dps : ∀ {ds : List D} {xs : List V} {B : List Addr}, ORs K G H (ds.map .imm) xs B → B = [] ∧ DqAll K G xs ds
  | [], _, _, h => by rw [h.1, h.2]; exact ⟨rfl, .nil⟩
  | d :: ds, _, _, h => by
    obtain ⟨x, xr, B, C, rfl, rfl, h1, h2⟩ := h
    obtain ⟨e, r⟩ := ORs.dps h2
    exact ⟨by rw [h1.1, e]; rfl, .cons h1.2 r⟩
theorem SlR.none_at {p : Addr} {A : List Addr} (h : SlR K G H s σ A) (hp : H p = none) : p ∉ A := fun ha => by
  obtain ⟨o, e⟩ := SlR.trk s σ A h p ha
  rw [hp] at e; cases e
theorem HdR.none_at {p : Addr} {A B : List Addr} (h : HdR K G H A T B) (hp : H p = none) : p ∉ B := fun ha => by
  obtain ⟨o, e⟩ := HdR.trk T B h p ha
  rw [hp] at e; cases e
/-- a new object that no one will change -/
theorem WI.newG {p : Addr} {o : HO} {R : List (Hd × V)} {C : List Addr} (w : WI K s (U ++ T) σ H) (hp : H p = none)
    (h : ∀ G A B, Ext G H → HdR K G H A U B → Ext G (upd G p o) → HdR K (upd G p o) (upd H p o) A R []) : WI K s (R ++ T) σ (upd H p o) := by
  obtain ⟨G, A, B, e, hs, hd, nd, n⟩ := w
  obtain ⟨b, c, rfl, h1, h2⟩ := HdR.split hd
  have gp : G p = none := by
    cases q : G p with
    | none => rfl
    | some u => rw [e p u q] at hp; cases hp
  have eG : Ext G (upd G p o) := fun a u g => by rw [upd_ne (ne_of_none g gp)]; exact g
  have nA := hs.none_at hp
  have nB := HdR.none_at h2 hp
  have kA : ∀ a, a ∈ A → upd H p o a = H a := fun a ha => upd_ne fun z => nA (z ▸ ha)
  have kB : ∀ a, a ∈ c → upd H p o a = H a := fun a ha => upd_ne fun z => nB (z ▸ ha)
  refine ⟨upd G p o, A, [] ++ c, fun a u g => ?_, ?_, HdR.app (h G A b e h1 eG) ?_, ?_, fun a ha => ?_⟩
  · by_cases z : a = p
    · subst z; rw [upd_same] at g ⊢; exact g
    · rw [upd_ne z] at g ⊢; exact e a u g
  · exact SlR.frame eG s σ A kA (fun a ha => (upd_ne (a := p) (fun z : a = p => nA (z ▸ ha))).trans (n a (by simp [ha]))) hs
  · exact HdR.frame eG (fun a ha => ⟨kA a ha, .inl ha⟩) T c kB (fun a ha => (upd_ne (a := p) (fun z : a = p => nB (z ▸ ha))).trans (n a (by simp [ha]))) h2
  · exact List.Nodup.sublist ((List.sublist_append_right b c).append_left A) nd
  · have ha : a ∈ A ∨ a ∈ c := by simpa using ha
    rw [upd_ne]
    · rcases ha with ha | ha
      · exact n a (by simp [ha])
      · exact n a (by simp [ha])
    · rintro rfl
      rcases ha with ha | ha
      · exact nA ha
      · exact nB ha
/-- a new object of ours -/
theorem WI.newO {p : Addr} {o : HO} {R : List (Hd × V)} (w : WI K s (U ++ T) σ H) (hp : H p = none)
    (h : ∀ G A B, Ext G H → HdR K G H A U B → G p = none → (∀ a ∈ B, a ≠ p) → (∀ a ∈ B, G a = none) → HdR K G (upd H p o) A R (p :: B)) : WI K s (R ++ T) σ (upd H p o) := by
  obtain ⟨G, A, B, e, hs, hd, nd, n⟩ := w
  obtain ⟨b, c, rfl, h1, h2⟩ := HdR.split hd
  have gp : G p = none := by
    cases q : G p with
    | none => rfl
    | some u => rw [e p u q] at hp; cases hp
  have nA := hs.none_at hp
  have nb := HdR.none_at h1 hp
  have nB := HdR.none_at h2 hp
  have kA : ∀ a, a ∈ A → upd H p o a = H a := fun a ha => upd_ne fun z => nA (z ▸ ha)
  have kB : ∀ a, a ∈ c → upd H p o a = H a := fun a ha => upd_ne fun z => nB (z ▸ ha)
  refine ⟨G, A, (p :: b) ++ c, fun a u g => ?_, ?_, HdR.app (h G A b e h1 gp (fun a ha z => nb (z ▸ ha)) fun a ha => n a (by simp [ha])) ?_, ?_, fun a ha => ?_⟩
  · rw [upd_ne (ne_of_none g gp)]; exact e a u g
  · exact SlR.frame (Ext.refl G) s σ A kA (fun a ha => n a (by simp [ha])) hs
  · exact HdR.frame (Ext.refl G) (fun a ha => ⟨kA a ha, .inl ha⟩) T c kB (fun a ha => n a (by simp [ha])) h2
  · have q : (p :: (A ++ (b ++ c))).Perm (A ++ (p :: b ++ c)) := (List.perm_middle (a := p) (l₁ := A) (l₂ := b ++ c)).symm
    refine q.nodup ?_
    refine List.nodup_cons.mpr ⟨?_, nd⟩
    intro hm
    rcases List.mem_append.mp hm with hm | hm
    · exact nA hm
    · rcases List.mem_append.mp hm with hm | hm
      · exact nb hm
      · exact nB hm
  · have ha : a ∈ A ∨ a = p ∨ a ∈ b ∨ a ∈ c := by simpa [or_assoc] using ha
    rcases ha with ha | rfl | ha | ha
    · exact n a (by simp [ha])
    · exact gp
    · exact n a (by simp [ha])
    · exact n a (by simp [ha])
/-- a new tuple of settled things -/
theorem WI.newTup {p : Addr} {o : Obj} {ds : List D} {xs : List V} (ho : TOk o) (w : WI K s (zipH (ds.map .imm) xs ++ T) σ H) (hp : H p = none) (hl : ds.length = xs.length) :
    WI K s ((.ov (.imm (.tuple ds)), .ref p) :: T) σ (upd H p (.frz o (.tup xs))) := by
  refine WI.newG (C := []) (R := [(.ov (.imm (.tuple ds)), .ref p)]) w hp fun G A B e h eG => ?_
  have q := ORs.dps (ORs.hd (by simpa using hl) h)
  exact ⟨[], [], rfl, ⟨rfl, .tup (.inl ⟨o, upd_same, ho⟩) (Dq.extAll eG _ _ q.2)⟩, rfl⟩
/-- a new list -/
theorem WI.newLst {p : Addr} {vs : List OV} {xs : List V} (w : WI K s (zipH vs xs ++ T) σ H) (hp : H p = none) (hl : vs.length = xs.length) :
    WI K s ((.ov (.ol vs), .ref p) :: T) σ (upd H p (.lst xs)) := by
  refine WI.newO (R := [(.ov (.ol vs), .ref p)]) w hp fun G A B e h gp nb nG => ?_
  have q := ORs.hd hl h
  refine ⟨p :: B, [], by simp, ⟨p, xs, B, rfl, rfl, gp, upd_same, ?_⟩, rfl⟩
  exact ORs.frame (Ext.refl G) vs xs B (fun a ha => upd_ne (nb a ha)) nG q
/-- a raw object of ours -/
theorem WI.newRaw {p : Addr} {o : HO} (w : WI K s T σ H) (hp : H p = none) (ho : Ob o := by exact ⟨nofun, nofun⟩) : WI K s ((.raw o, .ref p) :: T) σ (upd H p o) :=
  WI.newO (U := []) (R := [(.raw o, .ref p)]) w hp fun G A B e h gp nb nG => ⟨p, B, rfl, rfl, ⟨upd_same, ho⟩, h⟩
/-- .. changed -/
theorem WI.write {p : Addr} {o o' : HO} (w : WI K s ((.raw o, .ref p) :: T) σ H) (ho : Ob o' := by exact ⟨nofun, nofun⟩) : WI K s ((.raw o', .ref p) :: T) σ (upd H p o') := by
  obtain ⟨G, A, B, e, hs, ⟨a, c, ea, rfl, h1, h2⟩, nd, n⟩ := w
  cases ea
  have gp : G p = none := n p (by simp)
  have q := List.nodup_append.mp nd
  have nA : p ∉ A := fun hA => q.2.2 p hA p (by simp) rfl
  have nc : p ∉ c := (List.nodup_cons.mp q.2.1).1
  have kA : ∀ a, a ∈ A → upd H p o' a = H a := fun a ha => upd_ne fun z => nA (z ▸ ha)
  refine ⟨G, A, p :: c, fun a u g => ?_, SlR.frame (Ext.refl G) s σ A kA (fun a ha => n a (by simp [ha])) hs, ⟨p, c, rfl, rfl, ⟨upd_same, ho⟩, ?_⟩, nd, n⟩
  · rw [upd_ne (ne_of_none g gp)]; exact e a u g
  · exact HdR.frame (Ext.refl G) (fun a ha => ⟨kA a ha, .inl ha⟩) T c (fun a ha => upd_ne fun z => nc (z ▸ ha)) (fun a ha => n a (by simp [ha])) h2
theorem WI.rawAt {p : Addr} {o : HO} (w : WI K s ((.raw o, .ref p) :: T) σ H) : H p = some o := by
  obtain ⟨G, A, B, e, hs, ⟨a, c, ea, rfl, h1, h2⟩, nd, n⟩ := w
  cases ea
  exact h1.1
/-- a list of ours is opened: its object, its items -/
theorem WI.opn {vs : List OV} {x : V} (w : WI K s ((.ov (.ol vs), x) :: T) σ H) : ∃ p xs, x = .ref p ∧ vs.length = xs.length ∧ H p = some (.lst xs) ∧ WI K s ((.raw (.lst xs), .ref p) :: (zipH vs xs ++ T)) σ H := by
  obtain ⟨G, A, B, e, hs, ⟨b, c, rfl, ⟨p, xs, b', rfl, rfl, g, hp, r⟩, h2⟩, nd, n⟩ := w
  refine ⟨p, xs, rfl, r.len.symm, hp, G, A, p :: b' ++ c, e, hs, ⟨p, b' ++ c, rfl, by simp, ⟨hp, nofun, nofun⟩, HdR.app (ORs.toHd r) h2⟩, nd, n⟩
theorem WI.cls {vs : List OV} {xs : List V} {p : Addr} (hl : vs.length = xs.length) (w : WI K s ((.raw (.lst xs), .ref p) :: (zipH vs xs ++ T)) σ H) : WI K s ((.ov (.ol vs), .ref p) :: T) σ H := by
  obtain ⟨G, A, B, e, hs, ⟨a, c, ea, rfl, h1, h2⟩, nd, n⟩ := w
  cases ea
  obtain ⟨b, c', rfl, h3, h4⟩ := HdR.split h2
  exact ⟨G, A, p :: (b ++ c'), e, hs, ⟨p :: b, c', rfl, ⟨p, xs, b, rfl, rfl, n p (by simp), h1.1, ORs.hd hl h3⟩, h4⟩, nd, n⟩
/-- what is settled may be held twice -/
theorem WI.dup {d : D} {x : V} (w : WI K s ((.ov (.imm d), x) :: T) σ H) : WI K s ((.ov (.imm d), x) :: (.ov (.imm d), x) :: T) σ H := by
  obtain ⟨G, A, B, e, hs, ⟨b, c, rfl, h1, h2⟩, nd, n⟩ := w
  have hb : b = [] := h1.1
  subst hb
  exact ⟨G, A, c, e, hs, ⟨[], c, rfl, h1, [], c, rfl, h1, h2⟩, nd, n⟩
theorem WI.toOd {d : D} {x : V} (w : WI K s ((.ov (.imm d), x) :: T) σ H) : WI K s ((.od d, x) :: T) σ H := by
  obtain ⟨G, A, B, e, hs, ⟨b, c, rfl, h1, h2⟩, nd, n⟩ := w
  have hb : b = [] := h1.1
  subst hb
  exact ⟨G, A, c, e, hs, ⟨.inl h1.2, h2⟩, nd, n⟩
theorem WI.dp {d : D} {x : V} (w : WI K s ((.ov (.imm d), x) :: T) σ H) : Dq K H x d := by
  obtain ⟨G, A, B, e, hs, ⟨b, c, rfl, h1, h2⟩, nd, n⟩ := w
  exact Dq.ext e _ _ h1.2
theorem Od.dq {A : List Addr} {d : D} {x : V} (e : Ext G H) (h : Od K G H A d x) : Dq K H x d := by
  rcases h with h | ⟨p, vs, ds, rfl, rfl, hp, hd, _⟩
  · exact Dq.ext e _ _ h
  · exact .lst (.inl hp) (Dq.extAll e _ _ hd)
theorem WI.rd {d : D} {x : V} (w : WI K s ((.od d, x) :: T) σ H) : Dq K H x d := by
  obtain ⟨G, A, B, e, hs, ⟨h1, h2⟩, nd, n⟩ := w
  exact h1.dq e
/-- the items of what is read are settled -/
theorem WI.its {d : D} {ds : List D} {x : V} (hq : seqOf d = some ds) (w : WI K s ((.od d, x) :: T) σ H) :
    ∃ p xs, x = .ref p ∧ ds.length = xs.length ∧ ((d = .list ds ∧ Rd H p (.lst xs)) ∨ (d = .tuple ds ∧ TupR K H p xs)) ∧ WI K s (zipH (ds.map .imm) xs ++ (.od d, x) :: T) σ H := by
  obtain ⟨G, A, B, e, hs, ⟨h1, h2⟩, nd, n⟩ := w
  cases d with
  | list es =>
    simp only [seqOf, Option.some.injEq] at hq
    subst hq
    rcases h1 with h1 | ⟨p, vs, ds, rfl, ed, hp, hd, hA⟩
    · cases id h1 with
      | @lst p xs _ a b => exact ⟨p, xs, rfl, (DqAll.len b).symm, .inl ⟨rfl, e.rd a⟩, G, A, B, e, hs, HdR.app (B := []) (ORs.toHd (ORs.imms b)) ⟨.inl h1, h2⟩, nd, n⟩
    · cases ed
      exact ⟨p, vs, rfl, (DqAll.len hd).symm, .inl ⟨rfl, .inl hp⟩, G, A, B, e, hs, HdR.app (B := []) (ORs.toHd (ORs.imms hd)) ⟨.inr ⟨p, vs, _, rfl, rfl, hp, hd, hA⟩, h2⟩, nd, n⟩
  | tuple es =>
    simp only [seqOf, Option.some.injEq] at hq
    subst hq
    rcases h1 with h1 | ⟨p, vs, ds, rfl, ed, hp, hd, hA⟩
    · cases id h1 with
      | @tup p xs _ a b => exact ⟨p, xs, rfl, (DqAll.len b).symm, .inr ⟨rfl, e.tupr a⟩, G, A, B, e, hs, HdR.app (B := []) (ORs.toHd (ORs.imms b)) ⟨.inl h1, h2⟩, nd, n⟩
    · cases ed
  | _ => simp [seqOf] at hq
/-- a scalar is settled anyway -/
theorem WI.scal {d : D} {x : V} (hd : ∀ H, Dq K H x d) (w : WI K s T σ H) : WI K s ((.ov (.imm d), x) :: T) σ H := by
  obtain ⟨G, A, B, e, hs, h2, nd, n⟩ := w
  exact ⟨G, A, B, e, hs, ⟨[], B, rfl, ⟨rfl, hd G⟩, h2⟩, nd, n⟩
/-- an item of what is held so -/
theorem WI.item {ds : List D} {xs : List V} {i : Nat} {d : D} {x : V} (hl : ds.length = xs.length) (hd : ds[i]? = some d) (hx : xs[i]? = some x) (w : WI K s (zipH (ds.map .imm) xs ++ T) σ H) : WI K s ((.ov (.imm d), x) :: T) σ H := by
  obtain ⟨G, A, B, e, hs, h, nd, n⟩ := w
  obtain ⟨b, c, rfl, h1, h2⟩ := HdR.split h
  obtain ⟨rfl, q⟩ := ORs.dps (ORs.hd (by simpa using hl) h1)
  obtain ⟨y, hy, r⟩ := DqAll.get q hd
  rw [hx] at hy
  cases hy
  exact ⟨G, A, c, e, hs, ⟨[], c, rfl, ⟨rfl, r⟩, h2⟩, nd, n⟩
end
end PV
end
section
set_option Elab.async false
set_option linter.all false
set_option maxRecDepth 100000
/-! PvD: slots. -/
namespace PV
open PySem PySem.Spec PyProof.Rows L2
section
variable {K : PySem.W.Frag} {G H G' H' : Hp} {s : Sl} {T U : List (Hd × V)} {σ : L2.St}

theorem at_cons {o : Option OV} {i : Nat} : at_ (o :: s) (i + 1) = at_ s i := rfl
theorem at_lt {i : Nat} {ov : OV} (h : at_ s i = some ov) : i < s.length := by
  unfold at_ at h
  rcases Nat.lt_or_ge i s.length with q | q
  · exact q
  · rw [List.getElem?_eq_none q] at h; cases h
theorem SlR.at : ∀ {s : Sl} {σ : L2.St} {A : List Addr} {i : Nat} {ov : OV}, SlR K G H s σ A → at_ s i = some ov →
    ∃ x A1 b A2, A = A1 ++ (b ++ A2) ∧ σ[i]? = some (some x) ∧ OR K G H ov x b ∧ SlR K G H (s.set i none) σ (A1 ++ A2)
  | [], _, _, _, _, _, e => by cases e
  | o :: s, σ, A, 0, ov, h, e => by
    have e : o = some ov := e
    subst e
    obtain ⟨v, r, B, C, rfl, rfl, h1, h2⟩ := h
    exact ⟨v, [], B, C, rfl, rfl, h1, some v, r, rfl, h2⟩
  | none :: s, σ, A, i + 1, ov, h, e => by
    obtain ⟨y, r, rfl, h⟩ := h
    obtain ⟨x, A1, b, A2, rfl, h1, h2, h3⟩ := SlR.at h (at_cons ▸ e)
    exact ⟨x, A1, b, A2, rfl, by simpa using h1, h2, y, r, rfl, h3⟩
  | some o :: s, σ, A, i + 1, ov, h, e => by
    obtain ⟨v, r, B, C, rfl, rfl, g1, g2⟩ := h
    obtain ⟨x, A1, b, A2, rfl, h1, h2, h3⟩ := SlR.at g2 (at_cons ▸ e)
    exact ⟨x, B ++ A1, b, A2, by simp, by simpa using h1, h2, v, r, B, A1 ++ A2, rfl, by simp, g1, h3⟩
theorem SlR.clr : ∀ {s : Sl} {σ : L2.St} {A : List Addr} (i : Nat) (y : Option V), SlR K G H s σ A → ∃ A', A'.Sublist A ∧ SlR K G H (s.set i none) (σ.set i y) A'
  | [], σ, A, _, _, h => by
    obtain ⟨rfl, rfl⟩ := h
    exact ⟨[], .refl _, rfl, rfl⟩
  | none :: s, σ, A, 0, y, h => by
    obtain ⟨z, r, rfl, h⟩ := h
    exact ⟨A, .refl _, y, r, rfl, h⟩
  | some o :: s, σ, A, 0, y, h => by
    obtain ⟨v, r, B, C, rfl, rfl, g1, g2⟩ := h
    exact ⟨C, List.sublist_append_right B C, y, r, rfl, g2⟩
  | none :: s, σ, A, i + 1, y, h => by
    obtain ⟨z, r, rfl, h⟩ := h
    obtain ⟨A', q, h'⟩ := SlR.clr i y h
    exact ⟨A', q, z, r.set i y, rfl, h'⟩
  | some o :: s, σ, A, i + 1, y, h => by
    obtain ⟨v, r, B, C, rfl, rfl, g1, g2⟩ := h
    obtain ⟨A', q, h'⟩ := SlR.clr i y g2
    exact ⟨B ++ A', q.append_left B, v, r.set i y, B, A', rfl, rfl, g1, h'⟩
theorem SlR.put : ∀ {s : Sl} {σ : L2.St} {A b : List Addr} {i : Nat} {ov : OV} {x : V}, SlR K G H s σ A → s[i]? = some none → OR K G H ov x b → ∃ A', (b ++ A).Perm A' ∧ SlR K G H (s.set i (some ov)) (σ.set i (some x)) A'
  | [], _, _, _, _, _, _, _, e, _ => by simp at e
  | o :: s, σ, A, b, 0, ov, x, h, e, r => by
    have e : o = none := by simpa using e
    subst e
    obtain ⟨z, t, rfl, h⟩ := h
    exact ⟨b ++ A, .refl _, x, t, b, A, rfl, rfl, r, h⟩
  | none :: s, σ, A, b, i + 1, ov, x, h, e, r => by
    obtain ⟨z, t, rfl, h⟩ := h
    obtain ⟨A', q, h'⟩ := SlR.put h (i := i) (by simpa using e) r
    exact ⟨A', q, z, t.set i (some x), rfl, h'⟩
  | some o :: s, σ, A, b, i + 1, ov, x, h, e, r => by
    obtain ⟨v, t, B, C, rfl, rfl, g1, g2⟩ := h
    obtain ⟨A', q, h'⟩ := SlR.put g2 (i := i) (by simpa using e) r
    refine ⟨B ++ A', ?_, v, t.set i (some x), B, A', rfl, rfl, g1, h'⟩
    refine List.Perm.trans ?_ (q.append_left B)
    rw [← List.append_assoc, ← List.append_assoc]
    exact List.perm_append_comm.append_right C
theorem setSome {α : Type} {l : List (Option α)} {i : Nat} {x : α} (h : l[i]? = some (some x)) : l.set i (some x) = l := by
  apply List.ext_getElem?
  intro j
  rw [List.getElem?_set]
  by_cases e : i = j
  · subst e
    obtain ⟨q, _⟩ := List.getElem?_eq_some_iff.mp h
    simp only [q, if_true, and_self, if_pos]
    exact h.symm
  · simp [e]
/-- a slot's value is taken into the hand -/
theorem WI.mvOut {i : Nat} {ov : OV} (np : noPk T) (w : WI K s T σ H) (h : at_ s i = some ov) : ∃ x, σ[i]? = some (some x) ∧ WI K (s.set i none) ((.ov ov, x) :: T) σ H := by
  obtain ⟨G, A, B, e, hs, hd, nd, n⟩ := w
  obtain ⟨x, A1, b, A2, rfl, h1, h2, h3⟩ := hs.at h
  have q : (A1 ++ (b ++ A2) ++ B).Perm (A1 ++ A2 ++ (b ++ B)) := by
    have z : (b ++ A2).Perm (A2 ++ b) := List.perm_append_comm
    have z2 := (z.append_left A1).append_right B
    simpa using z2
  exact ⟨x, h1, G, A1 ++ A2, b ++ B, e, h3, ⟨b, B, rfl, h2, HdR.frame0 (Ext.refl G) T B np.to0 (fun _ _ => rfl) (fun a ha => n a (by simp [ha])) hd⟩, q.nodup nd, fun a ha => n a (q.mem_iff.mpr ha)⟩
/-- a slot is forgotten -/
theorem WI.clr {i : Nat} (np : noPk T) (w : WI K s T σ H) (y : Option V) : WI K (s.set i none) T (σ.set i y) H := by
  obtain ⟨G, A, B, e, hs, hd, nd, n⟩ := w
  obtain ⟨A', q, h'⟩ := SlR.clr i y hs
  have q2 := q.append_right B
  exact ⟨G, A', B, e, h', HdR.frame0 (Ext.refl G) T B np.to0 (fun _ _ => rfl) (fun a ha => n a (by simp [ha])) hd, List.Nodup.sublist q2 nd, fun a ha => n a (q2.subset ha)⟩
/-- what is held goes into an empty slot -/
theorem WI.put {i : Nat} {v : OV} {x : V} (np : noPk T) (w : WI K s ((.ov v, x) :: T) σ H) (hi : s[i]? = some none) : WI K (s.set i (some v)) T (σ.set i (some x)) H := by
  obtain ⟨G, A, B, e, hs, ⟨b, c, rfl, h1, h2⟩, nd, n⟩ := w
  obtain ⟨A', q, h'⟩ := SlR.put hs hi h1
  have q2 : (A ++ (b ++ c)).Perm (A' ++ c) := by
    have z : (A ++ b).Perm (b ++ A) := List.perm_append_comm
    have z2 := (z.trans q).append_right c
    simpa using z2
  exact ⟨G, A', c, e, h', HdR.frame0 (Ext.refl G) T c np.to0 (fun _ _ => rfl) (fun a ha => n a (by simp [ha])) h2, q2.nodup nd, fun a ha => n a (q2.mem_iff.mpr ha)⟩
/-- what is held is stored -/
theorem WI.set {i : Nat} {v : OV} {x : V} (np : noPk T) (w : WI K s ((.ov v, x) :: T) σ H) (hi : i < s.length) : WI K (s.set i (some v)) T (σ.set i (some x)) H := by
  have w2 := WI.put np (WI.clr (i := i) (T := (.ov v, x) :: T) np w (some x)) (i := i) (by simp [hi])
  simpa using w2
theorem WI.setSame {i : Nat} {v : OV} {x : V} (np : noPk T) (w : WI K s ((.ov v, x) :: T) σ H) (hx : σ[i]? = some (some x)) : WI K (s.set i (some v)) T σ H := by
  have hl := w.len
  obtain ⟨hi, _⟩ := List.getElem?_eq_some_iff.mp hx
  have := WI.set np w (i := i) (by omega)
  rwa [setSome hx] at this
theorem WI.clear (np : noPk T) : ∀ (ks : List Nat) {s : Sl}, WI K s T σ H → WI K (clear ks s) T σ H
  | [], _, w => w
  | i :: ks, s, w => by
    have w2 := WI.clr (i := i) np w (σ[i]?.join)
    have e : σ.set i (σ[i]?.join) = σ := by
      apply List.ext_getElem?
      intro j
      rw [List.getElem?_set]
      by_cases e : i = j
      · subst e
        by_cases q : i < σ.length
        · simp [q]
        · simp [q, List.getElem?_eq_none (Nat.le_of_not_lt q)]
      · simp [e]
    rw [e] at w2
    exact WI.clear np ks w2
/-- a slot's value is settled and taken -/
theorem WI.var {i : Nat} {ov : OV} (w : WI K s T σ H) (h : at_ s i = some ov) : ∃ x, σ[i]? = some (some x) ∧ WI K (s.set i (some (.imm ov.toD))) ((.ov (.imm ov.toD), x) :: T) σ H := by
  obtain ⟨G, A, B, e, hs, hd, nd, n⟩ := w
  obtain ⟨x, A1, b, A2, rfl, h1, h2, h3⟩ := hs.at h
  have hl := at_lt h
  have q : (A1 ++ (b ++ A2) ++ B).Perm (b ++ (A1 ++ A2 ++ B)) := by
    have z : (A1 ++ (b ++ A2)).Perm (b ++ (A1 ++ A2)) := by
      rw [← List.append_assoc, ← List.append_assoc]
      exact List.perm_append_comm.append_right A2
    simpa using z.append_right B
  have nd' := List.nodup_append.mp (q.nodup nd)
  have nb : ∀ a, a ∈ A1 ++ A2 ++ B → a ∉ b := fun a ha hb => nd'.2.2 a hb a ha rfl
  have eG : Ext G (fun a => if a ∈ b then H a else G a) := fun a o g => by
    by_cases ha : a ∈ b
    · rw [n a (by simp [ha])] at g; cases g
    · simp [ha, g]
  have nG : ∀ a, a ∈ A1 ++ A2 ++ B → (if a ∈ b then H a else G a) = none := fun a ha => by
    have := nb a ha
    simp [this, n a (q.mem_iff.mpr (List.mem_append_right b ha))]
  have r := OR.settle eG ov x b (fun a ha => by simp [ha]) h2
  have s3 := SlR.frame (H' := H) eG _ _ _ (fun _ _ => rfl) (fun a ha => nG a (List.mem_append_left B ha)) h3
  obtain ⟨A', qA, s4⟩ := SlR.put (ov := .imm ov.toD) (b := []) (x := x) (i := i) s3 (by simp [hl]) ⟨rfl, r⟩
  rw [List.nil_append] at qA
  rw [setSome h1] at s4
  have s5 : (s.set i none).set i (some (.imm ov.toD)) = s.set i (some (.imm ov.toD)) := by simp
  rw [s5] at s4
  refine ⟨x, h1, fun a => if a ∈ b then H a else G a, A', B, fun a o g => ?_, s4, ⟨[], B, rfl, ⟨rfl, r⟩, ?_⟩, ?_, fun a ha => ?_⟩
  · by_cases ha : a ∈ b
    · simpa [ha] using g
    · simp [ha] at g; exact e a o g
  · refine HdR.frame eG (fun a ha => ⟨rfl, ?_⟩) T B (fun _ _ => rfl) (fun a ha => nG a (by simp [ha])) hd
    by_cases hb : a ∈ b
    · exact .inr (by simp [hb])
    · refine .inl (qA.mem_iff.mp ?_)
      rcases List.mem_append.mp ha with ha | ha
      · exact List.mem_append_left _ ha
      · rcases List.mem_append.mp ha with ha | ha
        · exact absurd ha hb
        · exact List.mem_append_right _ ha
  · exact (qA.append_right B).nodup nd'.2.1
  · exact nG a ((qA.append_right B).mem_iff.mpr ha)
theorem shal_od {ov : OV} {d : D} {x : V} {b A : List Addr} (e : ov.shal = some d) (h : OR K G H ov x b) (hb : ∀ a ∈ b, a ∈ A) : Od K G H A d x := by
  cases ov with
  | imm d' =>
    rw [OV.shal] at e
    cases e
    exact .inl h.2
  | ol xs =>
    rw [OV.shal] at e
    cases q : OV.immAll xs with
    | none => rw [q] at e; cases e
    | some ds =>
      rw [q] at e
      cases e
      obtain ⟨p, vs, B, rfl, rfl, g, hp, r⟩ := h
      obtain ⟨_, r2⟩ := ORs.immAll q r
      exact .inr ⟨p, vs, ds, rfl, rfl, hp, r2, hb p (by simp)⟩
/-- a look at a slot -/
theorem WI.pk {i : Nat} {ov : OV} {d : D} (w : WI K s T σ H) (h : at_ s i = some ov) (e : ov.shal = some d) : ∃ x, σ[i]? = some (some x) ∧ WI K s ((.od d, x) :: T) σ H := by
  obtain ⟨G, A, B, eG, hs, hd, nd, n⟩ := w
  obtain ⟨x, A1, b, A2, rfl, h1, h2, h3⟩ := hs.at h
  exact ⟨x, h1, G, _, B, eG, hs, ⟨shal_od e h2 (fun a ha => by simp [ha]), hd⟩, nd, n⟩
theorem ORs.at : ∀ {xs : List OV} {vs : List V} {B : List Addr} {j : Nat} {v : OV}, ORs K G H xs vs B → xs[j]? = some v → ∃ x b, vs[j]? = some x ∧ OR K G H v x b ∧ ∀ a ∈ b, a ∈ B
  | [], _, _, _, _, _, e => by simp at e
  | x :: xs, _, _, 0, v, h, e => by
    obtain ⟨y, vr, B, C, rfl, rfl, h1, h2⟩ := h
    simp at e
    subst e
    exact ⟨y, B, rfl, h1, fun a ha => by simp [ha]⟩
  | x :: xs, _, _, j + 1, v, h, e => by
    obtain ⟨y, vr, B, C, rfl, rfl, h1, h2⟩ := h
    obtain ⟨z, b, q1, q2, q3⟩ := ORs.at h2 (by simpa using e)
    exact ⟨z, b, by simpa using q1, q2, fun a ha => by simp [q3 a ha]⟩
/-- a look at an item of a slot's list -/
theorem WI.pkAt {i j : Nat} {xs : List OV} {v : OV} {d : D} (w : WI K s T σ H) (h : at_ s i = some (.ol xs)) (hj : xs[j]? = some v) (e : v.shal = some d) :
    ∃ p vs x, σ[i]? = some (some (.ref p)) ∧ H p = some (.lst vs) ∧ vs.length = xs.length ∧ vs[j]? = some x ∧ WI K s ((.od d, x) :: T) σ H := by
  obtain ⟨G, A, B, eG, hs, hd, nd, n⟩ := w
  obtain ⟨x, A1, b, A2, rfl, h1, h2, h3⟩ := hs.at h
  obtain ⟨p, vs, B', rfl, rfl, g, hp, r⟩ := h2
  obtain ⟨y, b', q1, q2, q3⟩ := ORs.at r hj
  exact ⟨p, vs, y, h1, hp, r.len, q1, G, _, B, eG, hs, ⟨shal_od e q2 (fun a ha => by simp [q3 a ha]), hd⟩, nd, n⟩

theorem WI.atS {i : Nat} {ov : OV} (w : WI K s T σ H) (h : at_ s i = some ov) : ∃ x, σ[i]? = some (some x) := by
  obtain ⟨G, A, B, e, hs, hd, nd, n⟩ := w
  obtain ⟨x, A1, b, A2, _, h1, _, _⟩ := hs.at h
  exact ⟨x, h1⟩
/-- no list of ours is there -/
def noOl (s : Sl) (i : Nat) : Prop := ∀ xs, at_ s i ≠ some (.ol xs)
theorem SlR.clrI : ∀ {s : Sl} {σ : L2.St} {A : List Addr} (i : Nat) (y : Option V), noOl s i → SlR K G H s σ A → SlR K G H (s.set i none) (σ.set i y) A
  | [], σ, A, _, _, _, h => by
    obtain ⟨rfl, rfl⟩ := h
    exact ⟨rfl, rfl⟩
  | none :: s, σ, A, 0, y, _, h => by
    obtain ⟨z, r, rfl, h⟩ := h
    exact ⟨y, r, rfl, h⟩
  | some o :: s, σ, A, 0, y, n, h => by
    obtain ⟨v, r, B, C, rfl, rfl, g1, g2⟩ := h
    cases o with
    | ol xs => exact absurd rfl (n xs)
    | imm d =>
      have : B = [] := g1.1
      subst this
      exact ⟨y, r, rfl, g2⟩
  | none :: s, σ, A, i + 1, y, n, h => by
    obtain ⟨z, r, rfl, h⟩ := h
    exact ⟨z, r.set i y, rfl, SlR.clrI i y (fun xs => n xs) h⟩
  | some o :: s, σ, A, i + 1, y, n, h => by
    obtain ⟨v, r, B, C, rfl, rfl, g1, g2⟩ := h
    exact ⟨v, r.set i y, B, C, rfl, rfl, g1, SlR.clrI i y (fun xs => n xs) g2⟩
theorem WI.setI {i : Nat} {v : OV} {x : V} (n : noOl s i) (w : WI K s ((.ov v, x) :: T) σ H) (hi : i < s.length) : WI K (s.set i (some v)) T (σ.set i (some x)) H := by
  obtain ⟨G, A, B, e, hs, ⟨b, c, rfl, h1, h2⟩, nd, nn⟩ := w
  obtain ⟨A', q, h'⟩ := SlR.put (SlR.clrI i (some x) n hs) (i := i) (by simp [hi]) h1
  have q2 : (A ++ (b ++ c)).Perm (A' ++ c) := by
    have z : (A ++ b).Perm (b ++ A) := List.perm_append_comm
    have z2 := (z.trans q).append_right c
    simpa using z2
  rw [List.set_set, List.set_set] at h'
  exact ⟨G, A', c, e, h', HdR.frame (Ext.refl G) (fun a ha => ⟨rfl, .inl (q.mem_iff.mp (by simp [ha]))⟩) T c (fun _ _ => rfl) (fun a ha => nn a (by simp [ha])) h2, q2.nodup nd, fun a ha => nn a (q2.mem_iff.mpr ha)⟩
theorem SlR.sig : ∀ {s : Sl} {σ σ' : L2.St} {A : List Addr}, SlR K G H s σ A → σ'.length = σ.length → (∀ i ov, at_ s i = some ov → σ'[i]? = σ[i]?) → SlR K G H s σ' A
  | [], σ, σ', A, h, l, k => by
    obtain ⟨rfl, rfl⟩ := h
    exact ⟨List.length_eq_zero_iff.mp l, rfl⟩
  | none :: s, σ, σ', A, h, l, k => by
    obtain ⟨y, r, rfl, h⟩ := h
    cases σ' with
    | nil => cases l
    | cons y' r' => exact ⟨y', r', rfl, SlR.sig h (by simpa using l) fun i ov e => by simpa using k (i + 1) ov e⟩
  | some o :: s, σ, σ', A, h, l, k => by
    obtain ⟨v, r, B, C, rfl, rfl, g1, g2⟩ := h
    cases σ' with
    | nil => cases l
    | cons y' r' =>
      have e0 : y' = some v := by simpa using k 0 o rfl
      subst e0
      exact ⟨v, r', B, C, rfl, rfl, g1, SlR.sig g2 (by simpa using l) fun i ov e => by simpa using k (i + 1) ov e⟩
theorem WI.clrI {i : Nat} (n : noOl s i) (w : WI K s T σ H) (y : Option V) : WI K (s.set i none) T (σ.set i y) H := by
  obtain ⟨G, A, B, e, hs, h2, nd, nn⟩ := w
  exact ⟨G, A, B, e, SlR.clrI i y n hs, h2, nd, nn⟩
theorem noOl_set {i : Nat} {d : D} : noOl (s.set i (some (.imm d))) i := fun xs e => by
  unfold at_ at e
  rw [List.getElem?_set] at e
  simp only [if_true] at e
  split at e <;> cases e
/-- whatever is held -/
theorem WI.clrA {i : Nat} (w : WI K s T σ H) (y : Option V) : WI K (s.set i none) T (σ.set i y) H := by
  cases e : at_ s i with
  | none => exact w.clrI (fun xs h => by rw [e] at h; cases h) y
  | some ov =>
    obtain ⟨x, _, w2⟩ := w.var e
    have := w2.drop.clrI noOl_set y
    rwa [List.set_set] at this
theorem WI.setA {i : Nat} {v : OV} {x : V} (w : WI K s ((.ov v, x) :: T) σ H) : WI K (s.set i (some v)) T (σ.set i (some x)) H := by
  by_cases hi : i < s.length
  · have w1 := w.clrA (i := i) (some x)
    have w2 := WI.setI (i := i) (fun xs h => by
      unfold at_ at h
      rw [List.getElem?_set] at h
      simp only [if_true] at h
      split at h <;> cases h) w1 (by simpa using hi)
    rwa [List.set_set, List.set_set] at w2
  · have hl := w.len
    rw [List.set_eq_of_length_le (by omega), List.set_eq_of_length_le (by omega)]
    exact w.drop
theorem WI.clearA : ∀ (ks : List Nat) {s : Sl}, WI K s T σ H → WI K (PV.clear ks s) T σ H
  | [], _, w => w
  | i :: ks, s, w => by
    have w2 := w.clrA (i := i) (σ[i]?.join)
    have e : σ.set i (σ[i]?.join) = σ := by
      apply List.ext_getElem?
      intro j
      rw [List.getElem?_set]
      by_cases e : i = j
      · subst e
        by_cases q : i < σ.length
        · simp [q]
        · simp [q, List.getElem?_eq_none (Nat.le_of_not_lt q)]
      · simp [e]
    rw [e] at w2
    exact WI.clearA ks w2
/-- only the slots that are told count -/
theorem WI.sig {σ' : L2.St} (w : WI K s T σ H) (l : σ'.length = σ.length) (k : ∀ i ov, at_ s i = some ov → σ'[i]? = σ[i]?) : WI K s T σ' H := by
  obtain ⟨G, A, B, e, hs, h2, nd, n⟩ := w
  exact ⟨G, A, B, e, hs.sig l k, h2, nd, n⟩
theorem at_set {s : Sl} {i j : Nat} {o : Option OV} : at_ (s.set i o) j = if i = j then (if i < s.length then o else none) else at_ s j := by
  unfold at_
  rw [List.getElem?_set]
  split
  · split <;> rfl
  · rfl
theorem at_clear : ∀ {ks : List Nat} {s : Sl} {j : Nat}, at_ (clear ks s) j = if j ∈ ks then none else at_ s j
  | [], _, _ => by simp [clear]
  | i :: ks, s, j => by
    rw [clear, at_clear, at_set]
    by_cases h : j ∈ ks
    · simp [h]
    · by_cases e : i = j
      · subst e; simp
      · have : ¬ j = i := fun z => e z.symm
        simp [h, e, this]
theorem clear_len : ∀ {ks : List Nat} {s : Sl}, (clear ks s).length = s.length
  | [], _ => rfl
  | i :: ks, s => by rw [clear, clear_len, List.length_set]
/-! ### the slots in hand, for a call -/
def slH : Sl → L2.St → List (Hd × V)
  | some ov :: s, some x :: σ => (.ov ov, x) :: slH s σ
  | _ :: s, _ :: σ => slH s σ
  | _, _ => []
def fits : Sl → L2.St → Prop
  | [], [] => True
  | none :: s, _ :: σ => fits s σ
  | some _ :: s, some _ :: σ => fits s σ
  | _, _ => False
theorem SlR.fits : ∀ {s : Sl} {σ : L2.St} {A : List Addr}, SlR K G H s σ A → fits s σ
  | [], _, _, h => by rw [h.1]; trivial
  | none :: s, σ, A, h => by
    obtain ⟨y, r, rfl, h⟩ := h
    exact SlR.fits (s := s) (σ := r) h
  | some ov :: s, σ, A, h => by
    obtain ⟨v, r, B, C, rfl, rfl, h1, h2⟩ := h
    exact SlR.fits (s := s) (σ := r) h2
theorem WI.fits (w : WI K s T σ H) : fits s σ := by
  obtain ⟨G, A, B, e, hs, hd, nd, n⟩ := w
  exact hs.fits
theorem noPk_slH : ∀ (s : Sl) (σ : L2.St), noPk0 (slH s σ)
  | some _ :: s, some _ :: σ => noPk_slH s σ
  | some _ :: s, none :: σ => noPk_slH s σ
  | none :: s, some _ :: σ => noPk_slH s σ
  | none :: s, none :: σ => noPk_slH s σ
  | [], _ => trivial
  | some _ :: _, [] => trivial
  | none :: _, [] => trivial
theorem SlR.toHd {A0 : List Addr} : ∀ {s : Sl} {σ : L2.St} {A : List Addr}, SlR K G H s σ A → HdR K G H A0 (slH s σ) A
  | [], σ, A, h => by rw [h.1, h.2]; rfl
  | none :: s, σ, A, h => by
    obtain ⟨y, r, rfl, h⟩ := h
    cases y <;> exact SlR.toHd (s := s) (σ := r) h
  | some ov :: s, σ, A, h => by
    obtain ⟨v, r, B, C, rfl, rfl, h1, h2⟩ := h
    exact ⟨B, C, rfl, h1, SlR.toHd (s := s) (σ := r) h2⟩
theorem SlR.ofHd {A0 : List Addr} : ∀ {s : Sl} {σ : L2.St} {A : List Addr}, PV.fits s σ → HdR K G H A0 (slH s σ) A → SlR K G H s σ A
  | [], [], A, _, h => ⟨rfl, h⟩
  | [], _ :: _, _, f, _ => f.elim
  | none :: s, y :: σ, A, f, h => by
    refine ⟨y, σ, rfl, SlR.ofHd (A0 := A0) (s := s) (σ := σ) f ?_⟩
    cases y <;> exact h
  | none :: _, [], _, f, _ => f.elim
  | some ov :: s, some x :: σ, A, f, h => by
    obtain ⟨b, c, rfl, h1, h2⟩ := h
    exact ⟨x, σ, b, c, rfl, rfl, h1, SlR.ofHd (A0 := A0) (s := s) (σ := σ) f h2⟩
  | some _ :: _, none :: _, _, f, _ => f.elim
  | some _ :: _, [], _, f, _ => f.elim
theorem WI.toHeld (np : noPk T) (w : WI K s T σ H) : WI K [] (slH s σ ++ T) [] H := by
  obtain ⟨G, A, B, e, hs, hd, nd, n⟩ := w
  exact ⟨G, [], A ++ B, e, ⟨rfl, rfl⟩, HdR.app hs.toHd (HdR.frame0 (Ext.refl G) T B np.to0 (fun _ _ => rfl) (fun a ha => n a (by simp [ha])) hd), nd, n⟩
theorem WI.ofHeld (np : noPk T) (f : PV.fits s σ) (w : WI K [] (slH s σ ++ T) [] H) : WI K s T σ H := by
  obtain ⟨G, A, B, e, ⟨_, rfl⟩, hd, nd, n⟩ := w
  obtain ⟨b, c, rfl, h1, h2⟩ := HdR.split hd
  exact ⟨G, b, c, e, SlR.ofHd f h1, HdR.frame0 (Ext.refl G) T c np.to0 (fun _ _ => rfl) (fun a ha => n a (by simp [ha])) h2, nd, n⟩
end
end PV
end
section
set_option Elab.async false
set_option linter.all false
set_option maxRecDepth 100000
set_option maxHeartbeats 4000000
/-! PvD2: rows by a number; sums, greatest and least of tuples. -/
namespace PV
open PySem PySem.Spec PyProof.Rows L2
theorem tup_mul1 (a : Addr) (xs : Array Value) (m : Nat) (sl : Array (Option Value)) (dd : Option Addr) (u : Tok) :
    Meets (Builtin.«tuple.__mul__» ⟨[.ref a, .int 1 u], []⟩) (fun _ R s => s.heap.get? a = some { cls := .type "tuple", dict := dd, data := .seq xs m, slots := sl } ∧ R (.ok (.ret (.ref a))) s) :=
  .of_wp fun prog w A R s h => by
    obtain ⟨hp, g, d, tk, os⟩ := s
    obtain ⟨ha, h⟩ := h
    have f := AutoSeq1.idx_int
    have c0 : (decide ((1 : Int) < -(2 ^ 63)) || decide ((1 : Int) ≥ 2 ^ 63)) = false := by decide
    have c1 : (xs.isEmpty || (1 : Int) == 1) = true := by simp
    wp_walk using wpAny_loadPart' ha
    repeat (first
      | (refine wpAny_ite_false (decide_eq_false (by rw [c0]; simp)) ?_; wp_walk using wpAny_loadPart' ha)
      | (refine wpAny_ite_true (decide_eq_true c1) ?_; wp_walk using wpAny_loadPart' ha))
    exact ⟨_, rfl, h⟩
end PV
end
section
set_option Elab.async false
set_option linter.all false
set_option maxRecDepth 100000
set_option maxHeartbeats 2000000
/-! PvE: the operations by values. -/
namespace PV
open PySem PySem.Spec PyProof.Rows L2
section
variable {X : Cx} {s : Sl} {T : List (Hd × V)} {σ : L2.St} {H : Hp} {K : PySem.W.Frag}

/-- held so or so, it reads as d -/
def Is (h : Hd) (d : D) : Prop := h = .od d ∨ h = .ov (.imm d)
theorem WI.is1 {h : Hd} {d : D} {x : V} (i : Is h d) (w : WI K s ((h, x) :: T) σ H) : WI K s ((.od d, x) :: T) σ H := by
  rcases i with rfl | rfl
  · exact w
  · exact w.toOd
theorem WI.swap {a b : Hd × V} (w : WI K s (a :: b :: T) σ H) : WI K s (b :: a :: T) σ H := w.perm (.swap _ _ _)
theorem WI.is2 {h k : Hd} {d e : D} {x y : V} (i : Is h d) (j : Is k e) (w : WI K s ((k, y) :: (h, x) :: T) σ H) : WI K s ((.od e, y) :: (.od d, x) :: T) σ H :=
  ((w.is1 j).swap.is1 i).swap
theorem WI.odTup {ds : List D} {x : V} (w : WI K s ((.od (.tuple ds), x) :: T) σ H) : WI K s ((.ov (.imm (.tuple ds)), x) :: T) σ H := by
  obtain ⟨G, A, B, e, hs, ⟨h1, h2⟩, nd, n⟩ := w
  rcases h1 with h1 | ⟨p, vs, ds, rfl, ed, _⟩
  · exact ⟨G, A, B, e, hs, ⟨[], B, rfl, ⟨rfl, h1⟩, h2⟩, nd, n⟩
  · cases ed
theorem Dq.int' {i : Int} {x : V} (h : Dq K H x (.int i)) : x = .int i := by cases h; rfl
theorem Dq.bl' {i : Bool} {x : V} (h : Dq K H x (.bool i)) : x = .bl i := by cases h; rfl
theorem Dq.str' {i : Str} {x : V} (h : Dq K H x (.str i)) : x = .str i := by cases h; rfl
theorem Dq.non' {x : V} (h : Dq K H x .none) : x = .non := by cases h; rfl
/-- an end: the result is held in front -/
abbrev Fin1 (K : PySem.W.Frag) (s : Sl) (T : List (Hd × V)) (σ : L2.St) (v : OV) (Q : VK) : Prop := ∀ z H', WI K s ((.ov v, z) :: T) σ H' → Q z H'
theorem Fin1.int {i : Int} {Q : VK} (w : WI K s T σ H) (q : Fin1 K s T σ (.imm (.int i)) Q) : Q (.int i) H := q _ _ (w.scal fun _ => .int i)
theorem Fin1.bl {i : Bool} {Q : VK} (w : WI K s T σ H) (q : Fin1 K s T σ (.imm (.bool i)) Q) : Q (.bl i) H := q _ _ (w.scal fun _ => .bl i)
theorem Fin1.str {i : Str} {Q : VK} (w : WI K s T σ H) (q : Fin1 K s T σ (.imm (.str i)) Q) : Q (.str i) H := q _ _ (w.scal fun _ => .str i)
theorem lim_eq : lim = sizeLine := by rw [sizeLine_eq]; rfl

/-! ### two operands -/
def rO2 (K : PySem.W.Frag) (o : O2) : R2 := fun x y H Q => ∃ s T σ d e, WI K s ((.od e, y) :: (.od d, x) :: T) σ H ∧ ∃ v, o.sem d e = some v ∧ Fin1 K s T σ v Q
def O2.op : O2 → Operator
  | .add => .Add | .sub => .Sub | .mul => .Mult | .fdiv => .FloorDiv | .mod => .Mod | .pow => .Pow
theorem Rd.obj {p : Addr} {xs : List V} {s₁ : Shared} {pins : List (Addr × Obj)} {σ : L2.St} (I : Inv X pins σ H s₁) (h : Rd H p (.lst xs)) :
    xs.length ≤ sizeLine ∧ ∃ (its : List Value) (n : Nat), Vals xs its ∧ xs.length = its.length ∧ s₁.heap.get? p = some { cls := .type "list", data := .seq its.toArray n } := by
  obtain ⟨z, its, n, r, e⟩ := h.ok I.hok
  exact ⟨z, its, n, r, r.length, e⟩
theorem its_ints : ∀ {ds : List D} {xs : List V} {ns : List Int}, intsOf ds = some ns → DqAll K H xs ds → xs = ns.map V.int
  | [], _, ns, e, h => by
    cases h
    rw [intsOf] at e
    cases e
    rfl
  | d :: ds, _, ns, e, h => by
    cases h with
    | cons a b =>
      cases d <;> simp only [intsOf] at e <;> try contradiction
      rename_i i
      cases q : intsOf ds with
      | none => rw [q] at e; cases e
      | some ms =>
        rw [q] at e
        cases e
        rw [its_ints q b, a.int', List.map_cons]
theorem its_bools : ∀ {ds : List D} {xs : List V} {ns : List Bool}, boolsOf ds = some ns → DqAll K H xs ds → xs = ns.map V.bl
  | [], _, ns, e, h => by
    cases h
    rw [boolsOf] at e
    cases e
    rfl
  | d :: ds, _, ns, e, h => by
    cases h with
    | cons a b =>
      cases d <;> simp only [boolsOf] at e <;> try contradiction
      rename_i i
      cases q : boolsOf ds with
      | none => rw [q] at e; cases e
      | some ms =>
        rw [q] at e
        cases e
        rw [its_bools q b, a.bl', List.map_cons]
theorem WI.dpAll {ds : List D} {xs : List V} (hl : ds.length = xs.length) (w : WI K s (zipH (ds.map .imm) xs ++ T) σ H) : DqAll K H xs ds := by
  obtain ⟨G, A, B, e, hs, h, nd, n⟩ := w
  obtain ⟨b, c, rfl, h1, h2⟩ := HdR.split h
  exact Dq.extAll e _ _ (ORs.dps (ORs.hd (by simpa using hl) h1)).2
theorem WI.mid {A B C : List (Hd × V)} (w : WI K s (A ++ (B ++ C)) σ H) : WI K s (B ++ (A ++ C)) σ H := by
  refine w.perm ?_
  rw [← List.append_assoc, ← List.append_assoc]
  exact List.perm_append_comm.append_right C
theorem zipH_app : ∀ {vs ws : List OV} {xs ys : List V}, vs.length = xs.length → zipH (vs ++ ws) (xs ++ ys) = zipH vs xs ++ zipH ws ys
  | [], _, [], _, _ => rfl
  | [], _, _ :: _, _, h => by cases h
  | _ :: _, _, [], _, h => by cases h
  | v :: vs, ws, x :: xs, ys, h => by
    show _ :: zipH (vs ++ ws) (xs ++ ys) = _ :: (zipH vs xs ++ zipH ws ys)
    rw [zipH_app (by simpa using h)]
/-- any sublist of settled items -/
theorem WI.sub {ds es : List D} {xs ys : List V} (hl : ds.length = xs.length) (w : WI K s (zipH (ds.map .imm) xs ++ T) σ H) (h : ∀ G, DqAll K G xs ds → DqAll K G ys es) : WI K s (zipH (es.map .imm) ys ++ T) σ H := by
  obtain ⟨G, A, B, e, hs, hd, nd, n⟩ := w
  obtain ⟨b, c, rfl, h1, h2⟩ := HdR.split hd
  obtain ⟨rfl, q⟩ := ORs.dps (ORs.hd (by simpa using hl) h1)
  exact ⟨G, A, c, e, hs, HdR.app (B := []) (ORs.toHd (ORs.imms (h G q))) h2, nd, n⟩
theorem len_of {G : Hp} {xs : List V} {ds : List D} (h : DqAll K G xs ds) : ds.length = xs.length := (DqAll.len h).symm
/-- a new list of settled items -/
theorem Fin1.nl {p : Addr} {ds : List D} {xs : List V} {Q : VK} (hl : ds.length = xs.length) (w : WI K s (zipH (ds.map .imm) xs ++ T) σ H) (hp : H p = none) (q : Fin1 K s T σ (nl ds) Q) : Q (.ref p) (upd H p (.lst xs)) :=
  q _ _ (w.newLst hp (by simpa using hl))
theorem Fin1.nt {p : Addr} {o : Obj} {ds : List D} {xs : List V} {Q : VK} (ho : TOk o) (hl : ds.length = xs.length) (w : WI K s (zipH (ds.map .imm) xs ++ T) σ H) (hp : H p = none) (q : Fin1 K s T σ (.imm (.tuple ds)) Q) : Q (.ref p) (upd H p (.frz o (.tup xs))) :=
  q _ _ (w.newTup ho hp hl)
theorem rep_dq {G : Hp} {xs : List V} {ds : List D} (h : DqAll K G xs ds) : ∀ n, DqAll K G (List.replicate n xs).flatten (List.replicate n ds).flatten
  | 0 => .nil
  | n + 1 => by
    rw [List.replicate_succ, List.replicate_succ, List.flatten_cons, List.flatten_cons]
    exact DqAll.app h (rep_dq h n)

/-- where a row of settled things stands -/
def Pl (K : PySem.W.Frag) (H : Hp) (d : D) (ds : List D) (p : Addr) (xs : List V) : Prop := (d = .list ds ∧ Rd H p (.lst xs)) ∨ (d = .tuple ds ∧ TupR K H p xs)
theorem WI.its2 {d e : D} {ds es : List D} {x y : V} (h1 : seqOf d = some ds) (h2 : seqOf e = some es) (w : WI K s ((.od e, y) :: (.od d, x) :: T) σ H) :
    ∃ p xs q ys, x = .ref p ∧ y = .ref q ∧ ds.length = xs.length ∧ es.length = ys.length ∧ Pl K H d ds p xs ∧ Pl K H e es q ys ∧ WI K s (zipH ((ds ++ es).map .imm) (xs ++ ys) ++ T) σ H := by
  obtain ⟨q, ys, rfl, l2, p2, w1⟩ := w.its h2
  have w2 : WI K s ((.od d, x) :: (zipH (es.map .imm) ys ++ T)) σ H := by
    have := WI.mid (A := zipH (es.map .imm) ys) (B := [(.od e, .ref q), (.od d, x)]) (C := T) w1
    exact this.drop
  obtain ⟨p, xs, rfl, l1, p1, w3⟩ := w2.its h1
  have w4 : WI K s (zipH (ds.map .imm) xs ++ (zipH (es.map .imm) ys ++ T)) σ H := by
    have := WI.mid (A := zipH (ds.map .imm) xs) (B := [(.od d, .ref p)]) (C := zipH (es.map .imm) ys ++ T) w3
    exact this.drop
  refine ⟨p, xs, q, ys, rfl, rfl, l1, l2, p1, p2, ?_⟩
  rw [List.map_append, zipH_app (by simpa using l1), List.append_assoc]
  exact w4
theorem WI.its1 {d : D} {ds : List D} {x : V} (h1 : seqOf d = some ds) (w : WI K s ((.od d, x) :: T) σ H) :
    ∃ p xs, x = .ref p ∧ ds.length = xs.length ∧ Pl K H d ds p xs ∧ WI K s (zipH (ds.map .imm) xs ++ T) σ H := by
  obtain ⟨p, xs, rfl, l1, p1, w1⟩ := w.its h1
  refine ⟨p, xs, rfl, l1, p1, ?_⟩
  have := WI.mid (A := zipH (ds.map .imm) xs) (B := [(.od d, .ref p)]) (C := T) w1
  exact this.drop
theorem Pl.sql {d : D} {ds : List D} {p : Addr} {xs : List V} (h : Pl K H d ds p xs) : SqL K H p xs ∨ SqT K H p xs := by
  rcases h with ⟨_, h⟩ | ⟨_, h⟩
  · exact .inl (.inl h)
  · exact .inr h.sqt

/-- a tuple was just laid -/
theorem laidT {pins : List (Addr × Obj)} {s₁ : Shared} {σ₁ : L2.St} {h' : Heap} {xs : List V} {its : List Value} {Q : VK} (I : Inv X pins σ₁ H s₁) (kp : ∀ b o, s₁.heap.get? b = some o → h'.get? b = some o) (hz : xs.length ≤ sizeLine) (r : Vals xs its)
    (q : ∀ p o, TOk o → H p = none → Q (.ref p) (upd H p (.frz o (.tup xs)))) : EP X pins σ₁ Q (.ref h'.objs.size) { s₁ with heap := h'.push { cls := .type "tuple", data := .seq its.toArray } } := by
  have I1 : Inv X pins σ₁ H { s₁ with heap := h' } := I.kept (t' := s₁.toks) kp
  refine ⟨.ref h'.objs.size, _, I1.laid (t' := s₁.toks) (o := .frz { cls := .type "tuple", data := .seq its.toArray } (.tup xs)) (fun b ob q => Heap.get?_push_of_some _ q) (Nat.le_refl _) ?_, rfl, q _ _ ⟨rfl, rfl⟩ (I1.hok.fresh (Nat.le_refl _))⟩
  exact ⟨Heap.get?_push_size _ rfl, hz, its, r, IsTup.new _ _⟩
/-- t + u -/
def rCatO (K : PySem.W.Frag) : R2 := fun x y H Q => ∃ a b xs ys, x = .ref a ∧ y = .ref b ∧ SqT K H a xs ∧ SqT K H b ys ∧ xs.length + ys.length ≤ sizeLine ∧
  (xs = [] → Q (.ref b) H) ∧ (xs ≠ [] → ys = [] → Q (.ref a) H) ∧ (xs ≠ [] → ys ≠ [] → ∀ p o, TOk o → H p = none → Q (.ref p) (upd H p (.frz o (.tup (xs ++ ys)))))
theorem op_catO : OpR X (binaryOp .Add) (rCatO X.K) := by
  intro pins s σ H x y v u Q I rx ry h
  obtain ⟨a, b, xs, ys, rfl, rfl, ha, hb, hz, q0, q1, q2⟩ := h
  cases rx
  cases ry
  obtain ⟨its, r1, p1, _⟩ := I.tuple ha
  obtain ⟨its2, r2, p2, _⟩ := I.tuple hb
  by_cases hx : xs = []
  · subst hx
    cases r1
    exact cat_tup0 p1 p2 ⟨.ref b, H, I, rfl, q0 rfl⟩
  · refine HT.cat_tup p1 p2 (fun z => hx (r1.nil_iff.mp z)) (fun z => ⟨.ref a, H, I, rfl, q1 hx (r2.nil_iff.mp z)⟩) (fun z => ?_) (by rw [← r1.length, ← r2.length]; exact hz)
    exact laidT I (fun _ _ e => e) (by rw [List.length_append]; exact hz) (r1.append r2) (q2 hx fun w => z (r2.nil_iff.mpr w))
theorem flat_rep (its : List Value) (m : Nat) : (List.foldl (fun a b => a ++ b) #[] (List.replicate m its.toArray)) = (List.replicate m its).flatten.toArray := size_rep its m
/-- a tuple, so often -/
theorem op_repO {pins : List (Addr × Obj)} {s₁ : Shared} {σ₁ : L2.St} {H : Hp} {a : Addr} {xs : List V} {k : Int} {t : Tok} {Q : VK} (I : Inv X pins σ₁ H s₁) (ha : SqT X.K H a xs) (hne : xs ≠ []) (h1 : 1 ≤ k) (h2 : k ≤ 1000) (hz : xs.length ≤ 1000)
    (q1 : k = 1 → Q (.ref a) H) (q2 : ∀ p o, TOk o → H p = none → Q (.ref p) (upd H p (.frz o (.tup (List.replicate k.toNat xs).flatten)))) :
    wpAny (model X.prog X.w) X.A (binaryOp .Mult (.ref a) (.int k t)) (EP X pins σ₁ Q) X.xe s₁ := by
  obtain ⟨its, r, ⟨ob, ho, hc, m, hd⟩, _⟩ := I.tuple ha
  obtain ⟨cls, dd, data, sl⟩ := ob
  simp only at hc hd
  subst hc
  subst hd
  have el := r.length
  have len : its.toArray.size = xs.length := by simp [el]
  have pos : 0 < xs.length := List.length_pos_iff.mpr hne
  have em : its.toArray.isEmpty = false := by
    cases its with
    | nil => rw [el] at pos; simp at pos
    | cons => rfl
  have go : ∀ {Q' : Value → Shared → Prop}, wpAny (model X.prog X.w) X.A (call (.builtin "tuple.__mul__") [.ref a, .int k t]) Q' X.xe s₁ → wpAny (model X.prog X.w) X.A (binaryOp .Mult (.ref a) (.int k t)) Q' X.xe s₁ := fun h =>
    wpAny_binaryOp_repeat_ref (U := "int") (T := "tuple") (by decide) ⟨_, ho, rfl⟩ (fun s' => typeIs_int s' k t) noFill_tuple_mul F.fills_int_mul F.slot_int_rmul repeat_tuple F.slot_int_index.lookup
      (call_meets F.slot_int_rmul (typeIs_int s₁ k t) F.entry_int_rmul (F.args_int_rmul_2 _ _) (int_rmul_tuple k t a _ m dd sl) ⟨ho, rfl, ⟨_, ho, rfl⟩, h⟩)
  refine go ?_
  by_cases e1 : k = 1
  · subst e1
    exact call_meets F.slot_tuple_mul ⟨_, ho, rfl⟩ F.entry_tuple_mul (F.args_tuple_mul_2 _ _) (tup_mul1 a _ m sl dd t) ⟨ho, .ref a, H, I, rfl, q1 rfl⟩
  · have bound : ((its.toArray.size : Nat) : Int) * k ≤ 1000000 := by
      rw [len]
      have z : ((xs.length : Nat) : Int) * k ≤ 1000 * 1000 := Int.mul_le_mul (by omega) h2 (by omega) (by omega)
      omega
    have fl : (List.replicate k.toNat its).flatten.length ≤ sizeLine := by
      rw [PyProof.Rows.lm_len_rep_flat, ← el, sizeLine_eq]
      exact Nat.le_trans (Nat.mul_le_mul (show k.toNat ≤ 1000 by omega) hz) (by decide)
    refine call_meets F.slot_tuple_mul ⟨_, ho, rfl⟩ F.entry_tuple_mul (F.args_tuple_mul_2 _ _) (tuple_mulW a _ m dd sl k t ?_ ?_ ?_ ?_ ?_ ?_) ⟨ho, ?_⟩
    · simp only [Bool.or_eq_false_iff, decide_eq_false_iff_not]
      omega
    · rw [em]
      simpa using e1
    · rw [em, Bool.or_false, decide_eq_false_iff_not]
      omega
    · omega
    · unfold Builtin.Tuple.tupleTooMany
      rw [sizeLine_eq, decide_eq_false_iff_not]
      omega
    · rw [flat_rep, List.size_toArray]
      exact fl
    · rw [flat_rep]
      exact laidT I (fun _ _ e => e) (by rw [(r.rep k.toNat).length]; exact fl) (r.rep k.toNat) q2
/-- a list, so often -/
theorem op_repL {pins : List (Addr × Obj)} {s₁ : Shared} {σ₁ : L2.St} {H : Hp} {a : Addr} {xs : List V} {k : Int} {t : Tok} {Q : VK} (I : Inv X pins σ₁ H s₁) (ha : Rd H a (.lst xs)) (h1 : 0 ≤ k) (h2 : k ≤ 1000000) (hz : xs.length * k.toNat ≤ sizeLine)
    (q : ∀ p, H p = none → Q (.ref p) (upd H p (.lst (List.replicate k.toNat xs).flatten))) :
    wpAny (model X.prog X.w) X.A (binaryOp .Mult (.ref a) (.int k t)) (EP X pins σ₁ Q) X.xe s₁ := by
  obtain ⟨_, its, m, r, el, eo⟩ := Rd.obj I ha
  have len : its.toArray.size * k.toNat ≤ sizeLine := by rw [List.size_toArray, ← el]; exact hz
  have b1 : ¬ (!Builtin.List.listFitsIndex k) = true := by
    rw [fitsIndex_both (by omega) (by omega)]
    simp
  have b2 : ¬ its.toArray.size * k.toNat > (2 ^ 63 - 1) / 8 := by
    rw [sizeLine_eq] at len
    omega
  have b3 : ¬ Builtin.List.listTooLong (its.toArray.size * k.toNat) = true := by
    rw [notLongL len]
    simp
  have made : List.foldl (fun a b => a ++ b) #[] (List.replicate (if its.toArray.isEmpty = true then 0 else k.toNat) its.toArray) = (List.replicate k.toNat its).flatten.toArray := by
    rw [flat_rep]
    cases its with
    | nil => simp
    | cons => rfl
  refine wpAny_binaryOp_repeat_ref (U := "int") (T := "list") (by decide) ⟨_, eo, rfl⟩ (fun s' => typeIs_int s' k t) noFill_list_mul F.fills_int_mul F.slot_int_rmul repeat_list F.slot_int_index.lookup ?_
  refine call_meets F.slot_int_rmul (typeIs_int s₁ k t) F.entry_int_rmul (F.args_int_rmul_2 _ _) (int___rmul___int_list k t a _ m) ⟨eo, rfl, ⟨_, eo, rfl⟩, ?_⟩
  refine call_meets F.slot_list_mul ⟨_, eo, rfl⟩ F.entry_list_mul (F.args_list_mul_2 _ _) (AutoListH.list___mul___list_int_3 a _ m k t b1 b2 b3) ⟨eo, ?_⟩
  rw [made]
  exact ⟨.ref _, _, I.lnew (t' := s₁.toks) (r.rep k.toNat) (by rw [PyProof.Rows.lm_len_rep_flat, Nat.mul_comm]; exact hz), rfl, q _ I.fresh⟩
theorem op_o2 (o : O2) : OpR X (binaryOp o.op) (rO2 X.K o) := by
  intro pins s₁ σ₁ H x y v u Q I rx ry h
  obtain ⟨s, T, σ, d, e, w, r, hr, q⟩ := h
  have hx := w.swap.rd
  have hy := w.rd
  have w0 : WI X.K s T σ H := w.drop.drop
  cases o with
  | add =>
    cases d <;> cases e <;> simp only [O2.sem] at hr <;> try contradiction
    · cases hr
      exact op_add pins s₁ σ₁ H x y v u Q I rx ry ⟨_, _, hx.int', hy.int', Fin1.int w0 q⟩
    · split at hr
      · rename_i hz
        cases hr
        exact op_add_str pins s₁ σ₁ H x y v u Q I rx ry ⟨_, _, hx.str', hy.str', by rw [← lim_eq]; exact hz, Fin1.str w0 q⟩
      · cases hr
    · rename_i ds es
      split at hr
      · rename_i hz
        cases hr
        obtain ⟨p, xs, p', ys, rfl, rfl, l1, l2, h1, h2, w1⟩ := w.its2 (ds := ds) (es := es) rfl rfl
        have h1 : Rd H p (.lst xs) := by rcases h1 with ⟨_, h⟩ | ⟨e, _⟩; exact h; cases e
        have h2 : Rd H p' (.lst ys) := by rcases h2 with ⟨_, h⟩ | ⟨e, _⟩; exact h; cases e
        cases rx
        cases ry
        obtain ⟨z1, its, n, r1, le1, e1⟩ := Rd.obj I h1
        obtain ⟨z2, its2, n2, r2, le2, e2⟩ := Rd.obj I h2
        rw [lim_eq] at hz
        refine PySem.P.add_list e1 e2 ?_ (by rw [List.size_toArray, List.size_toArray]; omega)
        rw [show its.toArray ++ its2.toArray = (its ++ its2).toArray by simp]
        exact ⟨.ref _, _, I.lnew (t' := s₁.toks) (r1.append r2) (by rw [List.length_append]; omega), rfl, Fin1.nl (by rw [List.length_append, List.length_append, l1, l2]) w1 I.fresh q⟩
      · cases hr
    · rename_i ds es
      split at hr
      · rename_i hz
        cases hr
        obtain ⟨p, xs, p', ys, rfl, rfl, l1, l2, h1, h2, w1⟩ := w.its2 (ds := ds) (es := es) rfl rfl
        have h1 : SqT X.K H p xs := by rcases h1 with ⟨e, _⟩ | ⟨_, h⟩; cases e; exact h.sqt
        have h2 : SqT X.K H p' ys := by rcases h2 with ⟨e, _⟩ | ⟨_, h⟩; cases e; exact h.sqt
        rw [lim_eq] at hz
        refine op_catO pins s₁ σ₁ H _ _ v u Q I rx ry ⟨p, p', xs, ys, rfl, rfl, h1, h2, by omega, fun e => ?_, fun _ e => ?_, fun _ _ a o ho ha => ?_⟩
        · subst e
          have e0 : ds = [] := List.length_eq_zero_iff.mp (by simpa using l1)
          subst e0
          exact q _ _ (WI.odTup (w.swap.drop.is1 (.inl rfl)))
        · subst e
          have e0 : es = [] := List.length_eq_zero_iff.mp (by simpa using l2)
          subst e0
          rw [List.append_nil] at q
          exact q _ _ (WI.odTup w.drop)
        · exact Fin1.nt ho (by rw [List.length_append, List.length_append, l1, l2]) w1 ha q
      · cases hr
  | sub =>
    cases d <;> cases e <;> simp only [O2.sem] at hr <;> try contradiction
    cases hr
    exact op_sub pins s₁ σ₁ H x y v u Q I rx ry ⟨_, _, hx.int', hy.int', Fin1.int w0 q⟩
  | mul =>
    cases d <;> cases e <;> simp only [O2.sem] at hr <;> try contradiction
    split at hr
    · rename_i hz
      cases hr
      simp only [okMul, Bool.and_eq_true, decide_eq_true_eq] at hz
      exact op_mulW pins s₁ σ₁ H x y v u Q I rx ry ⟨_, _, hx.int', hy.int', by show _ + _ < 1000000; omega, Fin1.int w0 q⟩
    · cases hr
    · rename_i ds k
      split at hr
      · rename_i hz
        cases hr
        have ey := hy.int'
        subst ey
        obtain ⟨t, rfl⟩ := ry
        obtain ⟨p, xs, rfl, l1, pl, w1⟩ := WI.its1 (ds := ds) rfl (w.swap.is1 (.inl rfl))
        cases rx
        have h1 : Rd H p (.lst xs) := by rcases pl with ⟨_, h⟩ | ⟨e, _⟩; exact h; cases e
        refine op_repL I h1 hz.1 hz.2.1 (by rw [← lim_eq, ← l1]; exact hz.2.2) fun b hb => ?_
        exact Fin1.nl (by rw [PyProof.Rows.lm_len_rep_flat, PyProof.Rows.lm_len_rep_flat, l1]) (WI.sub l1 (WI.drop (w1.perm List.perm_middle)) fun G h => rep_dq h _) hb q
      · cases hr
    · rename_i ds k
      split at hr
      · rename_i hz
        cases hr
        have ey := hy.int'
        subst ey
        obtain ⟨t, rfl⟩ := ry
        have w2 := w.swap
        obtain ⟨p, xs, rfl, l1, pl, w1⟩ := WI.its1 (ds := ds) rfl (w.swap.is1 (.inl rfl))
        cases rx
        have h1 : SqT X.K H p xs := by rcases pl with ⟨e, _⟩ | ⟨_, h⟩; cases e; exact h.sqt
        refine op_repO I h1 (fun e => hz.2.2.2 (List.length_eq_zero_iff.mp (by rw [l1, e]; rfl))) hz.1 hz.2.1 (by rw [← l1]; exact hz.2.2.1) (fun e => ?_) fun b o ho hb => ?_
        · subst e
          have e1 : (List.replicate (1 : Int).toNat ds).flatten = ds := by simp
          rw [e1] at q
          exact q _ _ (WI.odTup (w2.swap.drop.is1 (.inl rfl)))
        · exact Fin1.nt ho (by rw [PyProof.Rows.lm_len_rep_flat, PyProof.Rows.lm_len_rep_flat, l1]) (WI.sub l1 (WI.drop (w1.perm List.perm_middle)) fun G h => rep_dq h _) hb q
      · cases hr
  | fdiv =>
    cases d <;> cases e <;> simp only [O2.sem] at hr <;> try contradiction
    split at hr
    · rename_i hz
      cases hr
      exact op_fdiv pins s₁ σ₁ H x y v u Q I rx ry ⟨_, _, hx.int', hy.int', hz, Fin1.int w0 q⟩
    · cases hr
  | mod =>
    cases d <;> cases e <;> simp only [O2.sem] at hr <;> try contradiction
    split at hr
    · rename_i hz
      cases hr
      exact op_mod pins s₁ σ₁ H x y v u Q I rx ry ⟨_, _, hx.int', hy.int', hz, Fin1.int w0 q⟩
    · cases hr
  | pow =>
    cases d <;> cases e <;> simp only [O2.sem] at hr <;> try contradiction
    split at hr
    · rename_i hz
      cases hr
      exact op_pow pins s₁ σ₁ H x y v u Q I rx ry ⟨_, _, hx.int', hy.int', ⟨hz.1, by omega, by omega⟩, Fin1.int w0 q⟩
    · cases hr

theorem shaped_ndT {ds : List D} (h : SeqAt.shaped (.list ds) = true) : (PyData.tuple ds).hasDict = false := by
  have := shaped_nd h
  simpa [PyData.hasDict] using this
/-! ### comparisons -/
def rC2 (K : PySem.W.Frag) (o : C2) : R2 := fun x y H Q => ∃ s T σ d e, WI K s ((.od e, y) :: (.od d, x) :: T) σ H ∧ ∃ k, o.sem d e = some k ∧ (∀ H', WI K s T σ H' → Q (.bl k) H')
def C2.op : C2 → CmpOp
  | .eq => .Eq | .ne => .NotEq | .lt => .Lt | .le => .LtE | .gt => .Gt | .ge => .GtE | .is => .Is | .isnt => .IsNot | .in_ => .In | .nin => .NotIn
theorem op_inT (hu : X.A.units + 65 < cLine) (neg : Bool) {pins : List (Addr × Obj)} {s₁ : Shared} {σ₁ : L2.St} {H : Hp} {x y : V} {v u : Value} {Q : VK} {d : D} {ds : List D} (I : Inv X pins σ₁ H s₁) (rx : RelV x v) (ry : RelV y u) (hx : Dp X.K H x d) (hy : Dp X.K H y (.tuple ds))
    (h1 : SeqAt.shaped (.list ds) = true) (h2 : SeqAt.shaped d = true) (q : Q (.bl (if neg then !memD d ds else memD d ds)) H) : wpAny (model X.prog X.w) X.A (compareOp (if neg then .NotIn else .In) v u) (EP X pins σ₁ Q) X.xe s₁ := by
  obtain ⟨as, r1⟩ := Dp.reads I d x v hx rx
  obtain ⟨bs, r2⟩ := Dp.reads I (.tuple ds) y u hy ry
  have c1 := SeqAt.canLay_of_shaped h1
  have c2 := SeqAt.canLay_of_shaped h2
  have rm : X.A.units + 1 + min (PyData.depthAll ds) d.depth < cLine := room_in_shaped h2 hu
  cases neg
  · exact SeqAt.in_tuple_reads r2 r1 c1 c2 rm ⟨.bl _, H, I, rfl, q⟩
  · exact SeqAt.notIn_tuple_reads r2 r1 c1 c2 rm ⟨.bl _, H, I, rfl, q⟩
theorem op_c2 (hr : X.A.units + 65 < cLine) (o : C2) : OpR X (compareOp o.op) (rC2 X.K o) := by
  intro pins s₁ σ₁ H x y v u Q I rx ry h
  obtain ⟨s, T, σ, d, e, w, k, hk, q⟩ := h
  have hx := w.swap.rd
  have hy := w.rd
  have w0 : WI X.K s T σ H := w.drop.drop
  have hxd := fun n => Dq.dp _ _ n hx
  have hyd := fun n => Dq.dp _ _ n hy
  have cut : ∀ {b : Bool}, b = k → Q (.bl b) H := fun {b} e => by rw [e]; exact q _ w0
  cases o with
  | eq =>
    simp only [C2.sem] at hk
    split at hk
    · rename_i hz
      cases hk
      simp only [eqOk, Bool.and_eq_true] at hz
      exact op_eqD (by omega) pins s₁ σ₁ H x y v u Q I rx ry ⟨d, e, hxd (shaped_nd hz.1), hyd (shaped_nd hz.2), hz.1, hz.2, cut rfl⟩
    · cases hk
  | ne =>
    simp only [C2.sem] at hk
    split at hk
    · rename_i hz
      cases hk
      simp only [eqOk, Bool.and_eq_true] at hz
      exact op_neD (by omega) pins s₁ σ₁ H x y v u Q I rx ry ⟨d, e, hxd (shaped_nd hz.1), hyd (shaped_nd hz.2), hz.1, hz.2, cut rfl⟩
    · cases hk
  | lt =>
    cases d <;> cases e <;> simp only [C2.sem] at hk <;> try contradiction
    cases hk
    exact op_lt pins s₁ σ₁ H x y v u Q I rx ry ⟨_, _, hx.int', hy.int', cut rfl⟩
  | le =>
    cases d <;> cases e <;> simp only [C2.sem] at hk <;> try contradiction
    cases hk
    exact op_le pins s₁ σ₁ H x y v u Q I rx ry ⟨_, _, hx.int', hy.int', cut rfl⟩
  | gt =>
    cases d <;> cases e <;> simp only [C2.sem] at hk <;> try contradiction
    cases hk
    exact op_gt pins s₁ σ₁ H x y v u Q I rx ry ⟨_, _, hx.int', hy.int', cut rfl⟩
  | ge =>
    cases d <;> cases e <;> simp only [C2.sem] at hk <;> try contradiction
    cases hk
    exact op_ge pins s₁ σ₁ H x y v u Q I rx ry ⟨_, _, hx.int', hy.int', cut rfl⟩
  | is =>
    cases e <;> simp only [C2.sem] at hk <;> try contradiction
    cases hk
    have ey := hy.non'
    refine op_isN pins s₁ σ₁ H x y v u Q I rx ry ⟨ey, cut ?_⟩
    cases hx <;> rfl
  | isnt =>
    cases e <;> simp only [C2.sem] at hk <;> try contradiction
    cases hk
    have ey := hy.non'
    refine op_notN pins s₁ σ₁ H x y v u Q I rx ry ⟨ey, cut ?_⟩
    cases hx <;> rfl
  | in_ =>
    cases e <;> simp only [C2.sem, seqOf, Option.bind_none, Option.bind_some] at hk <;> try contradiction
    · split at hk
      · rename_i hz
        cases hk
        simp only [inOk, Bool.and_eq_true] at hz
        exact op_inD hr pins s₁ σ₁ H x y v u Q I rx ry ⟨d, _, hxd (shaped_nd hz.2), hyd (shaped_nd hz.1), hz.2, hz.1, cut rfl⟩
      · cases hk
    · split at hk
      · rename_i hz
        cases hk
        simp only [inOk, Bool.and_eq_true] at hz
        exact op_inT hr false I rx ry (hxd (shaped_nd hz.2)) (hyd (shaped_ndT hz.1)) hz.1 hz.2 (cut rfl)
      · cases hk
  | nin =>
    cases e <;> simp only [C2.sem, seqOf, Option.bind_none, Option.bind_some] at hk <;> try contradiction
    · split at hk
      · rename_i hz
        cases hk
        simp only [inOk, Bool.and_eq_true] at hz
        exact op_notInD hr pins s₁ σ₁ H x y v u Q I rx ry ⟨d, _, hxd (shaped_nd hz.2), hyd (shaped_nd hz.1), hz.2, hz.1, cut rfl⟩
      · cases hk
    · split at hk
      · rename_i hz
        cases hk
        simp only [inOk, Bool.and_eq_true] at hz
        exact op_inT hr true I rx ry (hxd (shaped_nd hz.2)) (hyd (shaped_ndT hz.1)) hz.1 hz.2 (cut rfl)
      · cases hk
end
end PV
end
section
set_option Elab.async false
set_option linter.all false
set_option maxRecDepth 100000
set_option maxHeartbeats 2000000
/-! PvF: places, cuts, built-ins. -/
namespace PV
open PySem PySem.Spec PyProof.Rows L2
/-! ### collecting a tuple, sorting it -/
section
variable {prog : Program} {w : World} {A : Around} {E : Value → Shared → Prop} {s : Shared}
theorem collect_tup {t : Addr} {vs : List Value} {Q : List Value → Shared → Prop} (ht : IsTup s.heap t vs.toArray) (hz : vs.length ≤ sizeLine)
    (h : ∀ s', (∀ b o, s.heap.get? b = some o → s'.heap.get? b = some o) → s'.gens = s.gens → s'.os = s.os → s'.drawn = s.drawn → s.heap.objs.size ≤ s'.heap.objs.size → Q vs s') : wpAny (model prog w) A (collect (.ref t)) Q E s := by
  obtain ⟨o, ho, hc, n, hd⟩ := id ht
  unfold collect
  refine wpAny_bind (wpAny_runValue (codeAny_builtin entry_proto_collect' ?_))
  show wpAny _ _ (do again (.builtin "list.__iadd__" ⟨[← newList [], .ref t], []⟩)) _ _ s
  refine wpAny_bind (wpAny_newList (wpAny_pure ⟨Code.quiet_builtin _ (by decide +kernel), codeAny_builtin entry_list_iadd' ?_⟩))
  show wpAny _ _ (Builtin.List.listExtendWith (.ref s.heap.objs.size) (.ref t) (.ref s.heap.objs.size)) _ _ { s with heap := s.heap.push (seqObj "list" #[] 0) }
  unfold Builtin.List.listExtendWith
  have ho2 : (s.heap.push (seqObj "list" #[] 0)).get? t = some o := Heap.get?_push_of_some _ ho
  refine wpAny_bind (wpAny_typeOf (T := "tuple") ⟨o, ho2, hc⟩ ?_)
  rw [if_pos (by rw [show (Value.type "tuple" == Value.type "tuple") = true from rfl]; simp)]
  refine wpAny_bind (listItems_at ho2 hd ?_)
  refine wpAny_bind (listItems_at (xs := #[]) (n := 0) (Heap.get?_push_size _ rfl) rfl ?_)
  rw [if_neg (by simp)]
  refine wpAny_bind (listUpdate_at (xs := #[]) (n := 0) (Heap.get?_push_size _ rfl) rfl ?_ (Nat.zero_le _) ?_)
  · refine wpAny_pure ?_
    show wpAny (model prog w) A (do
        let ob ← load s.heap.objs.size
        match ob.data with
        | .seq ys _ => pure ys.toList
        | _ => unsupported "internal:collect") Q E { s with heap := (s.heap.push (seqObj "list" #[] 0)).update s.heap.objs.size (Obj.mapSeq (· ++ vs.toArray)) }
    have e2 := get?_update_seq (Heap.get?_push_size s.heap (o := seqObj "list" #[] 0) rfl) (fun z : Array Value => z ++ vs.toArray)
    refine wpAny_bind (wpAny_load e2 ?_)
    have e3 : ((#[] : Array Value) ++ vs.toArray).toList = vs := by simp
    show wpAny (model prog w) A (pure ((#[] : Array Value) ++ vs.toArray).toList) Q E _
    rw [e3]
    refine wpAny_pure (h _ (fun b ob e => ?_) rfl rfl rfl (by show _ ≤ ((s.heap.push (seqObj "list" #[] 0)).update s.heap.objs.size _).objs.size; rw [Heap.size_update, size_push']; exact Nat.le_succ _))
    have hb : s.heap.objs.size ≠ b := Nat.ne_of_gt (Heap.lt_size e)
    show ((s.heap.push (seqObj "list" #[] 0)).update s.heap.objs.size _).get? b = some ob
    rw [Heap.get?_update_other _ _ hb]
    exact Heap.get?_push_of_some _ e
  · show (#[] ++ vs.toArray).size ≤ sizeLine + 1
    simp only [Array.size_append, List.size_toArray, List.length_nil]
    omega
theorem sorted_tup {t : Addr} {vs : List Value} {β : Type} {bs : List β} {enc : β → PyData} {RR : Value → β → Prop} {Q : Value → Shared → Prop} (ht : IsTup s.heap t vs.toArray) (hz : vs.length ≤ sizeLine)
    (e : PySem.W.EachIs RR vs bs) (er : PySem.W.EachIs (fun v b => ∃ as, Reads s.heap v (enc b) as) vs bs) (hal : PySem.W.AllAlike (bs.map enc)) (hk : PySem.W.Sortable (bs.map enc)) (hu : ∀ b, b ∈ bs → A.units + 2 + (enc b).depth < cLine)
    (h : ∀ s' p out c, (∀ b o, s.heap.get? b = some o → s'.heap.get? b = some o) → s'.gens = s.gens → s'.os = s.os → s'.drawn = s.drawn → s.heap.objs.size ≤ p → s'.heap.get? p = some (seqObj "list" (List.toArray out) c) →
      out.length = bs.length → PySem.W.EachIs RR out (bs.mergeSort (PySem.W.dataLe false enc)) → Q (.ref p) s') : wpAny (model prog w) A (call (.builtin "sorted") [.ref t]) Q E s := by
  refine Calls.call_function_entry kind_sorted plain_sorted entry_sorted (args_sorted1 _) ?_
  unfold Builtin.«sorted»
  refine wpAny_bind (m := checkCount "sorted" 1 1 _) (wpAny_pure ?_)
  refine wpAny_bind (collect_tup (A := A.in1) ht hz fun s1 k1 g1 o1 d1 z1 => ?_)
  refine wpAny_bind (wpAny_newList ?_ hz)
  have at1 : (s1.heap.push (seqObj "list" vs.toArray 0)).get? s1.heap.objs.size = some (seqObj "list" vs.toArray 0) := Heap.get?_push_size _ rfl
  have hlen := e.length
  have er1 : PySem.W.EachIs (fun v b => ∃ as, Reads (s1.heap.push (seqObj "list" vs.toArray 0)) v (enc b) as ∧ s1.heap.objs.size ∉ as) vs bs := er.mono fun v b ⟨as, r⟩ => by
    refine ⟨as, PyProof.Rows.Reads.keeps (fun c o q => Heap.get?_push_of_some _ (k1 c o q)) r, fun hm => ?_⟩
    obtain ⟨o, q⟩ := PyProof.On.reads_mem_get r _ hm
    exact absurd (Heap.lt_size (k1 _ _ q)) (Nat.lt_irrefl _)
  refine wpAny_bind (wpAny_holding (PySem.W.list_sort_data (A := A.in1) (R := RR) (s := { s1 with heap := s1.heap.push (seqObj "list" vs.toArray 0) }) at1 e er1 hal hk (by omega) (fun b hb => hu b hb) fun out ho he => ?_))
  obtain ⟨c, hc⟩ := sortedHeap_at (vs := vs) (out := out.toArray) at1
  refine wpAny_pure ⟨_, rfl, h _ s1.heap.objs.size out c (fun b o q => ?_) g1 o1 d1 z1 hc ho he⟩
  · have q1 := k1 b o q
    have hlt := Heap.lt_size q1
    show (sortedHeap (s1.heap.push (seqObj "list" vs.toArray 0)) s1.heap.objs.size vs out.toArray).get? b = some o
    rw [sortedHeap_old (Nat.ne_of_lt hlt) (by rw [size_push']; exact Nat.lt_succ_of_lt hlt)]
    exact Heap.get?_push_of_some _ q1
end
/-! ### places and cuts -/
section
variable {X : Cx} {s : Sl} {T : List (Hd × V)} {σ : L2.St} {H : Hp} {K : PySem.W.Frag}
def rIx (K : PySem.W.Frag) : R2 := fun x y H Q => ∃ s T σ d e, WI K s ((.od e, y) :: (.od d, x) :: T) σ H ∧ ∃ v, ixD d e = some v ∧ Fin1 K s T σ (.imm v) Q
theorem ixD_seq {d e v : D} (h : ixD d e = some v) : ∃ ds i, seqOf d = some ds ∧ e = .int i ∧ L2.atI ds i = some v := by
  cases d <;> cases e <;> simp only [ixD] at h <;> try contradiction
  · exact ⟨_, _, rfl, rfl, h⟩
  · exact ⟨_, _, rfl, rfl, h⟩
theorem atI_place {ds : List D} {xs : List V} {i : Int} {v : D} (hl : ds.length = xs.length) (h : L2.atI ds i = some v) : ∃ (j : Nat) (y : V), ds[j]? = some v ∧ xs[j]? = some y ∧ L2.atI xs i = some y := by
  unfold L2.atI at h ⊢
  cases q : L2.ixN ds.length i with
  | none => rw [q] at h; cases h
  | some j =>
    rw [q] at h
    rw [← hl, q]
    have h : ds[j]? = some v := h
    obtain ⟨hj, _⟩ := List.getElem?_eq_some_iff.mp h
    refine ⟨j, xs[j]'(by omega), h, List.getElem?_eq_getElem (by omega), ?_⟩
    exact List.getElem?_eq_getElem (by omega)
theorem ix_pv : IxR X (rIx X.K) := by
  intro ev es' pins s₁ σ₁ H x y v u Q I rx ry h hsub
  obtain ⟨s, T, σ, d, e, w, r, hr, q⟩ := h
  obtain ⟨ds, i, h1, rfl, h3⟩ := ixD_seq hr
  have hy := w.rd
  obtain ⟨p, xs, rfl, hl, pl, w1⟩ := WI.its1 h1 w.drop
  obtain ⟨j, z, hd, hx, ha⟩ := atI_place hl h3
  have fin : Q z H := q _ _ (WI.item hl hd hx w1)
  rcases pl.sql with k | k
  · exact ix_list ev es' pins s₁ σ₁ H _ y v u Q I rx ry ⟨p, xs, i, z, rfl, hy.int', k, ha, fin⟩ hsub
  · exact ix_tup ev es' pins s₁ σ₁ H _ y v u Q I rx ry ⟨p, xs, i, z, rfl, hy.int', k, ha, fin⟩ hsub
def rSl (K : PySem.W.Frag) : V → Option Int → Option Int → Hp → VK → Prop := fun x lo hi H Q => ∃ s T σ d, WI K s ((.od d, x) :: T) σ H ∧ ∃ v, slcD d lo hi = some v ∧ Fin1 K s T σ v Q
theorem cut_dq {G : Hp} {xs : List V} {ds : List D} (lo hi : Option Int) (h : DqAll K G xs ds) : DqAll K G (L2.cutV xs lo hi) (cut ds lo hi) := by
  unfold L2.cutV cut
  rw [DqAll.len h]
  exact DqAll.tk _ (DqAll.dr _ h)
theorem cut_whole {α : Type} {xs : List α} {lo hi : Option Int} (h : HT.sIx xs.length 0 lo = 0 ∧ HT.sIx xs.length xs.length hi = xs.length) : cut xs lo hi = xs := by
  unfold cut
  rw [h.1, h.2]
  simp
theorem cut_len {xs : List V} {ds : List D} (lo hi : Option Int) (hl : ds.length = xs.length) : (cut ds lo hi).length = (L2.cutV xs lo hi).length := by
  unfold L2.cutV cut
  rw [hl]
  simp [hl]
/-- t[lo:hi]: the whole of it is t itself -/
def rSlO (K : PySem.W.Frag) : V → Option Int → Option Int → Hp → VK → Prop := fun x lo hi H Q => ∃ a xs, x = .ref a ∧ SqT K H a xs ∧
  (HT.sIx xs.length 0 lo = 0 ∧ HT.sIx xs.length xs.length hi = xs.length → Q (.ref a) H) ∧ (¬ (HT.sIx xs.length 0 lo = 0 ∧ HT.sIx xs.length xs.length hi = xs.length) → ∀ p o, TOk o → H p = none → Q (.ref p) (upd H p (.frz o (.tup (cutV xs lo hi)))))
theorem sl_tupO : L2.SlR X (rSlO X.K) := by
  intro pins s σ H x v vl vu lo hi sl Q I rx hs pl pu h
  obtain ⟨a, xs, rfl, hx, q1, q2⟩ := h
  cases rx
  obtain ⟨its, r, ht, hz⟩ := I.tuple hx
  have hlen : its.toArray.size = xs.length := by rw [List.size_toArray]; exact r.length.symm
  refine ⟨"tuple", _, PyProof.Rows.slot_tuple_getitem.lookup, ht.typeIs, ?_⟩
  by_cases hw : HT.sIx xs.length 0 lo = 0 ∧ HT.sIx xs.length xs.length hi = xs.length
  · exact getItem_tuple_whole ht hs pl pu (by rw [hlen]; exact hw) ⟨.ref a, H, I, rfl, q1 hw⟩
  · refine HT.getItem_tuple_cut ht hs pl pu (by rw [hlen]; exact hw) ?_ (by rw [hlen]; exact hz)
    rw [hlen]
    exact laidT I (fun _ _ e => e) (Nat.le_trans (cutV_length xs lo hi) hz) ((r.drop (HT.sIx xs.length 0 lo)).take (HT.sIx xs.length xs.length hi - HT.sIx xs.length 0 lo)) (q2 hw)
theorem sl_pv : L2.SlR X (rSl X.K) := by
  intro pins s₁ σ₁ H x v vl vu lo hi sl Q I rx hs pl pu h
  obtain ⟨s, T, σ, d, w, r, hr, q⟩ := h
  cases d <;> simp only [slcD] at hr <;> try contradiction
  · rename_i ds
    cases hr
    obtain ⟨p, xs, rfl, hl, hp, w1⟩ := WI.its1 (ds := ds) rfl w
    have hp : Rd H p (.lst xs) := by rcases hp with ⟨_, h⟩ | ⟨e, _⟩; exact h; cases e
    exact sl_list pins s₁ σ₁ H _ v vl vu lo hi sl Q I rx hs pl pu ⟨p, xs, rfl, .inl hp, fun a ha => Fin1.nl (cut_len lo hi hl) (w1.sub hl fun G h => cut_dq lo hi h) ha q⟩
  · rename_i ds
    cases hr
    obtain ⟨p, xs, rfl, hl, hp, w1⟩ := WI.its1 (ds := ds) rfl w
    have hp : SqT X.K H p xs := by rcases hp with ⟨e, _⟩ | ⟨_, h⟩; cases e; exact h.sqt
    refine sl_tupO pins s₁ σ₁ H _ v vl vu lo hi sl Q I rx hs pl pu ⟨p, xs, rfl, hp, fun e => ?_, fun e a o ho ha => Fin1.nt ho (cut_len lo hi hl) (w1.sub hl fun G h => cut_dq lo hi h) ha q⟩
    rw [← hl] at e
    rw [cut_whole e] at q
    exact q _ _ (WI.odTup w)
/-! ### the place of a thing -/
theorem idxD_spec {d : D} : ∀ {ds : List D} {k j : Nat}, idxD d ds k = some j → k ≤ j ∧ (∃ z, ds[j - k]? = some z ∧ PyData.eqv z d = true) ∧ ∀ m z, m < j - k → ds[m]? = some z → PyData.eqv z d = false
  | [], _, _, h => by cases h
  | x :: xs, k, j, h => by
    rw [idxD] at h
    split at h
    · rename_i e
      cases h
      exact ⟨Nat.le_refl _, ⟨x, by simp, e⟩, fun m z hm => by omega⟩
    · rename_i e
      obtain ⟨h1, ⟨z, h2, h3⟩, h4⟩ := idxD_spec h
      have hj : j - k = (j - (k + 1)) + 1 := by omega
      refine ⟨by omega, ⟨z, by rw [hj]; exact h2, h3⟩, fun m z' hm hz => ?_⟩
      cases m with
      | zero =>
        have : z' = x := by simpa using hz.symm
        subst this
        simpa using e
      | succ m => exact h4 m z' (by omega) (by simpa using hz)
theorem idxOf_true {bs : List Bool} {j : Nat} (h1 : bs[j]? = some true) (h2 : ∀ m, m < j → bs[m]? = some false) : bs.idxOf true = j ∧ true ∈ bs := by
  induction bs generalizing j with
  | nil => simp at h1
  | cons b bs ih =>
    cases j with
    | zero =>
      have : b = true := by simpa using h1
      subst this
      exact ⟨by simp, by simp⟩
    | succ j =>
      have e : b = false := by simpa using h2 0 (by omega)
      subst e
      have := ih (j := j) (by simpa using h1) (fun m hm => by simpa using h2 (m + 1) (by omega))
      exact ⟨by rw [List.idxOf_cons, this.1]; rfl, by simp [this.2]⟩
def rME (K : PySem.W.Frag) (m : ME) : V → List V → Hp → VK → Prop := fun x xs H Q => ∃ s T σ d e y, xs = [y] ∧ WI K s ((.od e, y) :: (.od d, x) :: T) σ H ∧ ∃ v, m.sem d [e] = some v ∧ Fin1 K s T σ v Q
theorem mt_indexL (hu : X.A.units + 65 < cLine) : MtR X "list.index" (fun x xs H Q => (∃ ds p, x = .ref p ∧ Dq X.K H x (.list ds)) ∧ rME X.K .index x xs H Q) := by
  intro pins s₁ σ₁ H x xs v us Q I rx rxs h
  obtain ⟨⟨ds, p, rfl, hq⟩, s, T, σ, d, e, y, rfl, w, r, hr, q⟩ := h
  have hx := w.swap.rd
  have hy := w.rd
  cases hx with
  | @lst _ zs es a b =>
    simp only [ME.sem] at hr
    split at hr
    · rename_i hz
      simp only [inOk, Bool.and_eq_true] at hz
      cases hj : idxD e es 0 with
      | none => rw [hj] at hr; cases hr
      | some j =>
        rw [hj] at hr
        cases hr
        obtain ⟨_, ⟨z, h2, h3⟩, h4⟩ := idxD_spec hj
        exact mt_indexD hu pins s₁ σ₁ H _ [y] v us Q I rx rxs ⟨p, y, e, es, j, z, rfl, rfl, Dq.dp _ _ (shaped_nd hz.1) (.lst a b), Dq.dp _ _ (shaped_nd hz.2) hy, hz.1, hz.2, h2, h3, fun m z' hm hz' => h4 m z' hm hz', Fin1.int w.drop.drop q⟩
    · cases hr
  | @tup _ zs es a b =>
    exfalso
    cases hq with
    | lst a' b' =>
      cases rx
      obtain ⟨its, r1, ⟨o, e1, c1, _⟩, _⟩ := I.tuple a.sqt
      obtain ⟨z, its2, n, r2, e2, e3⟩ := Rd.obj I a'
      rw [e3] at e1
      cases e1
      injection (show Value.type "list" = Value.type "tuple" from c1) with z
      exact absurd z (by decide)
  | _ => simp only [ME.sem] at hr; cases hr
theorem mt_indexT (hu : X.A.units + 65 < cLine) : MtR X "tuple.index" (fun x xs H Q => (∃ ds p, x = .ref p ∧ Dq X.K H x (.tuple ds)) ∧ rME X.K .index x xs H Q) := by
  intro pins s₁ σ₁ H x xs v us Q I rx rxs h
  obtain ⟨⟨ds, p, rfl, hq⟩, s, T, σ, d, e, y, rfl, w, r, hr, q⟩ := h
  have hx := w.swap.rd
  have hy := w.rd
  cases hx with
  | @tup _ zs es a b =>
    simp only [ME.sem] at hr
    split at hr
    · rename_i hz
      simp only [inOk, Bool.and_eq_true] at hz
      cases hj : idxD e es 0 with
      | none => rw [hj] at hr; cases hr
      | some j =>
        rw [hj] at hr
        cases hr
        obtain ⟨_, ⟨z, h2, h3⟩, h4⟩ := idxD_spec hj
        cases rx
        obtain ⟨uy, rfl, ry⟩ := vals1 rxs
        obtain ⟨its, rv, ht, hlen⟩ := I.tuple a.sqt
        obtain ⟨as, rr⟩ := Dp.readsAll I es zs its (Dq.dpAll _ _ (by simpa [PyData.hasDict] using shaped_nd hz.1) b) rv
        obtain ⟨bs, r1⟩ := Dp.reads I e y uy (Dq.dp _ _ (shaped_nd hz.2) hy) ry
        have c1 : PyData.canLayAll0 es = true := SeqAt.canLay_of_shaped hz.1
        have c2 := SeqAt.canLay_of_shaped hz.2
        have rm : X.A.units + 1 + min (PyData.depthAll es) e.depth < cLine := room_in_shaped hz.2 hu
        have h2 : es[j]? = some z := h2
        have hjl : j < es.length := (List.getElem?_eq_some_iff.mp h2).1
        have it := idxOf_true (bs := es.map fun z => PyData.eqv z e) (j := j) (by rw [List.getElem?_map, h2]; show some (PyData.eqv z e) = some true; rw [h3]) (fun m hm => by
          have hml : m < es.length := by omega
          rw [List.getElem?_map, List.getElem?_eq_getElem hml]
          show some (PyData.eqv es[m] e) = some false
          rw [h4 m es[m] hm (List.getElem?_eq_getElem hml)])
        have hn : its.length = es.length := SeqAt.ReadsAll.length es its as rr
        have hmap : its.map (SeqAt.readOf s₁.heap) = es := SeqAt.readsAll_map es its as c1 rr
        have eqs := SeqAt.items_eqAt (A := X.A) (vs := its.toArray) (show ReadsAll s₁.heap its.toArray.toList es as from rr) r1 c1 c2 rm
        refine SeqAt.call_tuple_index (k := true) (ks := es.map fun z => PyData.eqv z e) (show s₁.heap.IsTuple p its.toArray from ht) ⟨by rw [List.length_map]; exact hn, fun m h1 h2 => ?_⟩ it.2 ?_
        · have hm : m < es.length := by omega
          have q1 := eqs its[m] (by simp)
          have e1 : SeqAt.readOf s₁.heap its[m] = es[m] := by
            have z1 : (its.map (SeqAt.readOf s₁.heap))[m]? = es[m]? := by rw [hmap]
            rw [List.getElem?_map, List.getElem?_eq_getElem h1, List.getElem?_eq_getElem hm] at z1
            exact Option.some.inj z1
          rw [e1] at q1
          have e2 : decide ((es.map fun z => PyData.eqv z e)[m] = true) = PyData.eqv es[m] e := by simp
          rw [e2]
          exact q1
        · rw [it.1]
          exact ⟨.int _, H, I.tok _, ⟨_, rfl⟩, Fin1.int w.drop.drop q⟩
    · cases hr
  | @lst _ zs es a b =>
    exfalso
    cases hq with
    | tup a' b' =>
      cases rx
      obtain ⟨its, r1, ⟨o, e1, c1, _⟩, _⟩ := I.tuple a'.sqt
      obtain ⟨z, its2, n, r2, e2, e3⟩ := Rd.obj I a
      rw [e3] at e1
      cases e1
      injection (show Value.type "list" = Value.type "tuple" from c1) with z
      exact absurd z (by decide)
  | _ => simp only [ME.sem] at hr; cases hr
end
end PV
end
section
set_option Elab.async false
set_option linter.all false
set_option maxRecDepth 100000
set_option maxHeartbeats 2000000
/-! PvG: calls of built-ins by values. -/
namespace PV
open PySem PySem.Spec PyProof.Rows L2
section
variable {X : Cx} {s : Sl} {T : List (Hd × V)} {σ : L2.St} {H : Hp} {K : PySem.W.Frag}
def rB1 (K : PySem.W.Frag) (b : BI) : List V → Hp → VK → Prop := fun xs H Q => ∃ s T σ d x, xs = [x] ∧ WI K s ((.od d, x) :: T) σ H ∧ ∃ v, b.sem [d] = some v ∧ Fin1 K s T σ v Q
def rB2 (K : PySem.W.Frag) (b : BI) : List V → Hp → VK → Prop := fun xs H Q => ∃ s T σ d e x y, xs = [x, y] ∧ WI K s ((.od e, y) :: (.od d, x) :: T) σ H ∧ ∃ v, b.sem [d, e] = some v ∧ Fin1 K s T σ v Q
theorem b_len : CallR X (.builtin "len") (rB1 X.K .len) := by
  intro pins s₁ σ₁ H xs us Q I r h
  obtain ⟨s, T, σ, d, x, rfl, w, v, hv, q⟩ := h
  have hx := w.rd
  cases d <;> simp only [BI.sem] at hv <;> try contradiction
  · split at hv
    · rename_i hz
      cases hv
      exact call_len_str pins s₁ σ₁ H [x] us Q I r ⟨_, by rw [hx.str'], by rw [← lim_eq]; exact hz, Fin1.int w.drop q⟩
    · cases hv
  · rename_i ds
    cases hv
    obtain ⟨p, ys, rfl, hl, pl, w1⟩ := WI.its1 (ds := ds) rfl w
    refine call_len_seq pins s₁ σ₁ H _ us Q I r ⟨p, ys, rfl, pl.sql, ?_⟩
    rw [← hl]
    exact Fin1.int w.drop q
  · rename_i ds
    cases hv
    obtain ⟨p, ys, rfl, hl, pl, w1⟩ := WI.its1 (ds := ds) rfl w
    refine call_len_seq pins s₁ σ₁ H _ us Q I r ⟨p, ys, rfl, pl.sql, ?_⟩
    rw [← hl]
    exact Fin1.int w.drop q
theorem b_int : CallR X (.type "int") (rB1 X.K .int) := by
  intro pins s₁ σ₁ H xs us Q I r h
  obtain ⟨s, T, σ, d, x, rfl, w, v, hv, q⟩ := h
  have hx := w.rd
  cases d <;> simp only [BI.sem] at hv <;> try contradiction
  · cases hv
    exact call_int1 pins s₁ σ₁ H [x] us Q I r (.inr ⟨_, by rw [hx.bl'], Fin1.int w.drop q⟩)
  · cases hv
    exact call_int1 pins s₁ σ₁ H [x] us Q I r (.inl ⟨_, by rw [hx.int'], Fin1.int w.drop q⟩)
theorem b_abs : CallR X (.builtin "abs") (rB1 X.K .abs) := by
  intro pins s₁ σ₁ H xs us Q I r h
  obtain ⟨s, T, σ, d, x, rfl, w, v, hv, q⟩ := h
  have hx := w.rd
  cases d <;> simp only [BI.sem] at hv <;> try contradiction
  cases hv
  exact call_abs pins s₁ σ₁ H [x] us Q I r ⟨_, by rw [hx.int'], Fin1.int w.drop q⟩
theorem b_min2 (hc : X.calm = true) : CallR X (.builtin "min") (rB2 X.K .min) := by
  intro pins s₁ σ₁ H xs us Q I r h
  obtain ⟨s, T, σ, d, e, x, y, rfl, w, v, hv, q⟩ := h
  have hx := w.swap.rd
  have hy := w.rd
  cases d <;> cases e <;> simp only [BI.sem] at hv <;> try contradiction
  cases hv
  exact call_min2 hc pins s₁ σ₁ H [x, y] us Q I r ⟨_, _, by rw [hx.int', hy.int'], Fin1.int w.drop.drop q⟩
theorem b_max2 (hc : X.calm = true) : CallR X (.builtin "max") (rB2 X.K .max) := by
  intro pins s₁ σ₁ H xs us Q I r h
  obtain ⟨s, T, σ, d, e, x, y, rfl, w, v, hv, q⟩ := h
  have hx := w.swap.rd
  have hy := w.rd
  cases d <;> cases e <;> simp only [BI.sem] at hv <;> try contradiction
  cases hv
  exact call_max2 hc pins s₁ σ₁ H [x, y] us Q I r ⟨_, _, by rw [hx.int', hy.int'], Fin1.int w.drop.drop q⟩
theorem foldl_min (m : Int) : ∀ (n : Int) (ns : List Int), m ∈ n :: ns → (∀ y, y ∈ n :: ns → m ≤ y) → ns.foldl Min.min n = m
  | n, [], h, _ => by
    have : m = n := by simpa using h
    rw [this]; rfl
  | n, k :: ns, h, l => by
    rw [List.foldl_cons]
    refine foldl_min m (Min.min n k) ns ?_ fun y hy => ?_
    · have h1 := l n (by simp)
      have h2 := l k (by simp)
      have h3 : m = n ∨ m = k ∨ m ∈ ns := by simpa using h
      rcases h3 with rfl | rfl | h3
      · rw [Int.min_eq_left h2]; simp
      · rw [Int.min_eq_right h1]; simp
      · simp [h3]
    · rcases List.mem_cons.mp hy with rfl | hy
      · exact Int.le_min.mpr ⟨l n (by simp), l k (by simp)⟩
      · exact l y (by simp [hy])
theorem foldl_max (m : Int) : ∀ (n : Int) (ns : List Int), m ∈ n :: ns → (∀ y, y ∈ n :: ns → y ≤ m) → ns.foldl Max.max n = m
  | n, [], h, _ => by
    have : m = n := by simpa using h
    rw [this]; rfl
  | n, k :: ns, h, l => by
    rw [List.foldl_cons]
    refine foldl_max m (Max.max n k) ns ?_ fun y hy => ?_
    · have h1 := l n (by simp)
      have h2 := l k (by simp)
      have h3 : m = n ∨ m = k ∨ m ∈ ns := by simpa using h
      rcases h3 with rfl | rfl | h3
      · rw [Int.max_eq_left h2]; simp
      · rw [Int.max_eq_right h1]; simp
      · simp [h3]
    · rcases List.mem_cons.mp hy with rfl | hy
      · exact Int.max_le.mpr ⟨l n (by simp), l k (by simp)⟩
      · exact l y (by simp [hy])
theorem lst_ints {ds : List D} {ns : List Int} {x : V} (e : intsOf ds = some ns) (w : WI K s ((.od (.list ds), x) :: T) σ H) : ∃ p, x = .ref p ∧ SqL K H p (ns.map V.int) := by
  have hx := w.rd
  cases hx with
  | lst a b => exact ⟨_, rfl, by rw [← its_ints e b]; exact .inl a⟩
theorem ints_eq : ∀ {ds : List D} {ns : List Int}, intsOf ds = some ns → ds = ns.map .int
  | [], ns, e => by
    rw [intsOf] at e
    cases e
    rfl
  | d :: ds, ns, e => by
    cases d <;> simp only [intsOf] at e <;> try contradiction
    cases q : intsOf ds with
    | none => rw [q] at e; cases e
    | some ms =>
      rw [q] at e
      cases e
      rw [List.map_cons, ints_eq q]
theorem ints_nd : ∀ ns : List Int, PyData.hasDictAll (ns.map .int) = false
  | [] => by simp [PyData.hasDictAll]
  | n :: ns => by rw [List.map_cons, PyData.hasDictAll, ints_nd ns]; simp [PyData.hasDict]
theorem ints_alike (ns : List Int) : PySem.W.AlikeAll (ns.map PyData.int) := by
  refine ⟨fun x hx y hy => ?_, fun x hx => ?_⟩
  · obtain ⟨i, _, rfl⟩ := List.mem_map.mp hx
    obtain ⟨j, _, rfl⟩ := List.mem_map.mp hy
    simp [PySem.W.alike]
  · obtain ⟨i, _, rfl⟩ := List.mem_map.mp hx
    simp
theorem ints_depth : ∀ ns : List Int, PyData.depthAll (ns.map .int) = 0
  | [] => by simp [PyData.depthAll]
  | n :: ns => by rw [List.map_cons, PyData.depthAll, ints_depth ns]; simp [PyData.depth]
/-- a tuple of ints, read -/
theorem tup_ints {pins : List (Addr × Obj)} {s₁ : Shared} {σ₁ : L2.St} (I : Inv X pins σ₁ H s₁) {ds : List D} {ns : List Int} {x : V} (e : intsOf ds = some ns) (w : WI X.K s ((.od (.tuple ds), x) :: T) σ H) :
    ∃ p its as, x = .ref p ∧ Vals (ns.map V.int) its ∧ s₁.heap.IsTuple p its.toArray ∧ ReadsAll s₁.heap its (ns.map .int) as := by
  have hx := w.rd
  cases hx with
  | @tup p xs _ a b =>
    obtain ⟨its, rv, ht, _⟩ := I.tuple a.sqt
    rw [its_ints e b] at rv
    rw [ints_eq e] at b
    obtain ⟨as, rr⟩ := Dp.readsAll I _ _ its (Dq.dpAll _ _ (ints_nd ns) b) (by rw [its_ints (ns := ns) (by rw [← ints_eq e]; exact e) b]; exact rv)
    exact ⟨p, its, as, rfl, rv, ht, rr⟩
theorem reads_int {h : Heap} {v : Value} {i : Int} {as : List Addr} (r : Reads h v (.int i) as) : ∃ t, v = .int i t := by
  cases r
  exact ⟨_, rfl⟩
theorem b_min1 (hc : X.calm = true) (hu : X.A.units + 70 < cLine) : CallR X (.builtin "min") (rB1 X.K .min) := by
  intro pins s₁ σ₁ H xs us Q I r h
  obtain ⟨s, T, σ, d, x, rfl, w, v, hv, q⟩ := h
  cases d <;> simp only [BI.sem] at hv <;> try contradiction
  rotate_left
  · rename_i ds
    cases e : intsOf ds with
    | none => rw [e] at hv; cases hv
    | some ns =>
      rw [e] at hv
      cases ns with
      | nil => cases hv
      | cons n ns =>
        cases hv
        obtain ⟨p, its, as, rfl, rv, ht, rr⟩ := tup_ints I e w
        rw [Vals.ref1 r]
        refine PySem.W.min_tuple_data (x := .int n) (xs := ns.map .int) (I.ok.hd hc) ht rr (ints_alike (n :: ns)) (by rw [show PyData.depthAll (.int n :: ns.map PyData.int) = 0 from ints_depth (n :: ns)]; omega) fun i v h' tk bs _ rd k => ?_
        rw [PySem.W.minD_ints] at rd
        obtain ⟨t, rfl⟩ := reads_int rd
        exact ⟨.int _, H, I.kept (t' := tk) k, ⟨t, rfl⟩, Fin1.int w.drop q⟩
  rename_i ds
  cases e : intsOf ds with
  | none => rw [e] at hv; cases hv
  | some ns =>
    rw [e] at hv
    cases ns with
    | nil => cases hv
    | cons n ns =>
      cases hv
      obtain ⟨p, rfl, hp⟩ := lst_ints e w
      refine cr_min hc pins s₁ σ₁ H _ us Q I r ⟨p, _, rfl, hp, by simp, fun m h1 h2 => ?_⟩
      rw [← foldl_min m n ns h1 h2]
      exact Fin1.int w.drop q
theorem b_max1 (hc : X.calm = true) (hu : X.A.units + 70 < cLine) : CallR X (.builtin "max") (rB1 X.K .max) := by
  intro pins s₁ σ₁ H xs us Q I r h
  obtain ⟨s, T, σ, d, x, rfl, w, v, hv, q⟩ := h
  cases d <;> simp only [BI.sem] at hv <;> try contradiction
  rotate_left
  · rename_i ds
    cases e : intsOf ds with
    | none => rw [e] at hv; cases hv
    | some ns =>
      rw [e] at hv
      cases ns with
      | nil => cases hv
      | cons n ns =>
        cases hv
        obtain ⟨p, its, as, rfl, rv, ht, rr⟩ := tup_ints I e w
        rw [Vals.ref1 r]
        refine PySem.W.max_tuple_data (x := .int n) (xs := ns.map .int) (I.ok.hd hc) ht rr (ints_alike (n :: ns)) (by rw [show PyData.depthAll (.int n :: ns.map PyData.int) = 0 from ints_depth (n :: ns)]; omega) fun i v h' tk bs _ rd k => ?_
        rw [PySem.W.maxD_ints] at rd
        obtain ⟨t, rfl⟩ := reads_int rd
        exact ⟨.int _, H, I.kept (t' := tk) k, ⟨t, rfl⟩, Fin1.int w.drop q⟩
  rename_i ds
  cases e : intsOf ds with
  | none => rw [e] at hv; cases hv
  | some ns =>
    rw [e] at hv
    cases ns with
    | nil => cases hv
    | cons n ns =>
      cases hv
      obtain ⟨p, rfl, hp⟩ := lst_ints e w
      refine cr_max hc pins s₁ σ₁ H _ us Q I r ⟨p, _, rfl, hp, by simp, fun m h1 h2 => ?_⟩
      rw [← foldl_max m n ns h1 h2]
      exact Fin1.int w.drop q
theorem b_sum (hc : X.calm = true) : CallR X (.builtin "sum") (rB1 X.K .sum) := by
  intro pins s₁ σ₁ H xs us Q I r h
  obtain ⟨s, T, σ, d, x, rfl, w, v, hv, q⟩ := h
  cases d <;> simp only [BI.sem] at hv <;> try contradiction
  rotate_left
  · rename_i ds
    cases e : intsOf ds with
    | none => rw [e] at hv; cases hv
    | some ns =>
      rw [e] at hv
      cases hv
      obtain ⟨p, its, as, rfl, rv, ht, rr⟩ := tup_ints I e w
      rw [Vals.ref1 r]
      have ia := intsAre_of rv
      obtain ⟨ys, hy⟩ := ia.allInts.items
      have hn : numsOf its.toArray.toList = ns := ia.numsOf
      rw [hy] at hn ht
      rw [nums_intItems] at hn
      refine PySem.W.ktm_sumG (I.ok.hd hc) ht fun h' tk t' k => ?_
      rw [preSum_eq, List.take_of_length_le (by simp), hn]
      exact ⟨.int _, H, I.kept (t' := tk) k, ⟨t', rfl⟩, Fin1.int w.drop q⟩
  rename_i ds
  cases e : intsOf ds with
  | none => rw [e] at hv; cases hv
  | some ns =>
    rw [e] at hv
    cases hv
    obtain ⟨p, rfl, hp⟩ := lst_ints e w
    exact cr_sum hc pins s₁ σ₁ H _ us Q I r ⟨p, _, rfl, hp, Fin1.int w.drop q⟩
theorem lst_bools {ds : List D} {ns : List Bool} {x : V} (e : boolsOf ds = some ns) (w : WI K s ((.od (.list ds), x) :: T) σ H) : ∃ p, x = .ref p ∧ SqL K H p (ns.map V.bl) := by
  have hx := w.rd
  cases hx with
  | lst a b => exact ⟨_, rfl, by rw [← its_bools e b]; exact .inl a⟩
theorem b_all (hc : X.calm = true) : CallR X (.builtin "all") (rB1 X.K .all) := by
  intro pins s₁ σ₁ H xs us Q I r h
  obtain ⟨s, T, σ, d, x, rfl, w, v, hv, q⟩ := h
  cases d <;> simp only [BI.sem] at hv <;> try contradiction
  rename_i ds
  cases e : boolsOf ds with
  | none => rw [e] at hv; cases hv
  | some ns =>
    rw [e] at hv
    cases hv
    obtain ⟨p, rfl, hp⟩ := lst_bools e w
    exact cr_all hc pins s₁ σ₁ H _ us Q I r ⟨p, _, rfl, hp, Fin1.bl w.drop q⟩
theorem b_any (hc : X.calm = true) : CallR X (.builtin "any") (rB1 X.K .any) := by
  intro pins s₁ σ₁ H xs us Q I r h
  obtain ⟨s, T, σ, d, x, rfl, w, v, hv, q⟩ := h
  cases d <;> simp only [BI.sem] at hv <;> try contradiction
  rename_i ds
  cases e : boolsOf ds with
  | none => rw [e] at hv; cases hv
  | some ns =>
    rw [e] at hv
    cases hv
    obtain ⟨p, rfl, hp⟩ := lst_bools e w
    exact cr_any hc pins s₁ σ₁ H _ us Q I r ⟨p, _, rfl, hp, Fin1.bl w.drop q⟩
theorem b_tuple : CallR X (.type "tuple") (rB1 X.K .tuple) := by
  intro pins s₁ σ₁ H xs us Q I r h
  obtain ⟨s, T, σ, d, x, rfl, w, v, hv, q⟩ := h
  cases d <;> simp only [BI.sem] at hv <;> try contradiction
  · rename_i ds
    cases hv
    obtain ⟨p, ys, rfl, hl, pl, w1⟩ := WI.its1 (ds := ds) rfl w
    have hp : Rd H p (.lst ys) := by rcases pl with ⟨_, h⟩ | ⟨e, _⟩; exact h; cases e
    rw [Vals.ref1 r]
    obtain ⟨its, r', pl, hz⟩ := I.list (.inl hp)
    have hlen := r'.length
    exact call_tuple_list pl.isList (fun h' kp => laidT I kp hz r' fun a o ho ha => Fin1.nt ho hl w1 ha q) (by simp only [List.size_toArray] <;> omega)
  · rename_i ds
    cases hv
    obtain ⟨p, ys, rfl, hl, pl, w1⟩ := WI.its1 (ds := ds) rfl w
    have hp : SqT X.K H p ys := by rcases pl with ⟨e, _⟩ | ⟨_, h⟩; cases e; exact h.sqt
    exact call_tuple_of pins s₁ σ₁ H _ us Q I r ⟨p, ys, rfl, .inr ⟨hp, q _ _ (WI.odTup w)⟩⟩
theorem b_list : CallR X (.type "list") (rB1 X.K .list) := by
  intro pins s₁ σ₁ H xs us Q I r h
  obtain ⟨s, T, σ, d, x, rfl, w, v, hv, q⟩ := h
  cases d <;> simp only [BI.sem] at hv <;> try contradiction
  · rename_i ds
    cases hv
    obtain ⟨p, ys, rfl, hl, pl, w1⟩ := WI.its1 (ds := ds) rfl w
    exact call_list_of pins s₁ σ₁ H _ us Q I r ⟨p, ys, rfl, pl.sql, fun a ha => Fin1.nl hl w1 ha q⟩
  · rename_i ds
    cases hv
    obtain ⟨p, ys, rfl, hl, pl, w1⟩ := WI.its1 (ds := ds) rfl w
    exact call_list_of pins s₁ σ₁ H _ us Q I r ⟨p, ys, rfl, pl.sql, fun a ha => Fin1.nl hl w1 ha q⟩

/-! ### sorted -/
/-- a value and its item, held together -/
def VD (K : PySem.W.Frag) (G : Hp) (u : Value) (d : D) : Prop := ∃ x, RelV x u ∧ Dq K G x d
theorem vd_each {G : Hp} : ∀ {us : List Value} {xs : List V} {ds : List D}, Vals xs us → DqAll K G xs ds → PySem.W.EachIs (VD K G) us ds
  | [], _, [], r, h => .nil
  | [], _, _ :: _, r, h => by cases r; cases h
  | _ :: _, _, [], r, h => by cases h; cases r
  | u :: us, x :: xs, d :: ds, r, h => by
    cases r with
    | cons r1 r2 =>
      cases h with
      | cons h1 h2 => exact .cons ⟨x, r1, h1⟩ (vd_each r2 h2)
  | _ :: _, [], _ :: _, r, h => by cases h
theorem vd_back {G : Hp} : ∀ {us : List Value} {ds : List D}, PySem.W.EachIs (VD K G) us ds → ∃ xs, Vals xs us ∧ DqAll K G xs ds
  | [], [], _ => ⟨[], .nil, .nil⟩
  | [], _ :: _, h => by cases h
  | _ :: _, [], h => by cases h
  | u :: us, d :: ds, h => by
    cases h with
    | cons h1 h2 =>
      obtain ⟨x, r1, d1⟩ := h1
      obtain ⟨xs, r2, d2⟩ := vd_back h2
      exact ⟨x :: xs, .cons r1 r2, .cons d1 d2⟩
theorem depthAll_mem : ∀ {ds : List D} {d : D}, d ∈ ds → d.depth ≤ PyData.depthAll ds
  | [], _, h => by cases h
  | x :: xs, d, h => by
    rw [PyData.depthAll]
    rcases List.mem_cons.mp h with rfl | h
    · exact Nat.le_max_left _ _
    · exact Nat.le_trans (depthAll_mem h) (Nat.le_max_right _ _)
theorem sortOk_spec {ds : List D} (h : sortOk ds = true) : PySem.W.AllAlike ds ∧ PySem.W.Sortable ds ∧ PyData.depthAll ds ≤ 64 := by
  simp only [sortOk, Bool.and_eq_true, Bool.or_eq_true, List.all_eq_true, decide_eq_true_eq] at h
  obtain ⟨⟨h1, h2⟩, h3⟩ := h
  refine ⟨fun d hd d' hd' => h1 d hd d' hd', ?_, h3⟩
  rcases h2 with h2 | h2
  · refine .inl fun d hd => ?_
    have := h2 d hd
    split at this
    · exact ⟨_, _, rfl⟩
    · cases this
  · refine .inr fun d hd => ?_
    have := h2 d hd
    split at this
    · cases this
    · cases this
    · rename_i n1 n2
      exact ⟨fun e => n1 e, fun xs e => n2 xs e⟩
theorem map_id' (ds : List D) : ds.map (fun d => d) = ds := by simp
theorem each_mem {R : Value → D → Prop} {P : D → Prop} : ∀ {us : List Value} {ds : List D}, PySem.W.EachIs R us ds → (∀ d ∈ ds, P d) → PySem.W.EachIs (fun v d => R v d ∧ P d) us ds
  | _, _, .nil, _ => .nil
  | _, _, .cons a b, h => .cons ⟨a, h _ (by simp)⟩ (each_mem b fun d hd => h d (by simp [hd]))
theorem dq_reads {pins : List (Addr × Obj)} {s₁ : Shared} {σ₁ : L2.St} (I : Inv X pins σ₁ H s₁) {u : Value} {d : D} (n : d.hasDict = false) (h : VD X.K H u d) : ∃ as, Reads s₁.heap u d as := by
  obtain ⟨x, r, q⟩ := h
  exact Dp.reads I d x u (Dq.dp _ _ n q) r
theorem b_sorted (hu : X.A.units + 70 < cLine) : CallR X (.builtin "sorted") (rB1 X.K .sorted) := by
  intro pins s₁ σ₁ H xs us Q I r h
  obtain ⟨s, T, σ, d, x, rfl, w, v, hv, q⟩ := h
  have key : ∀ (ds : List D), seqOf d = some ds → sortOk ds = true → ds.length ≤ lim → Fin1 X.K s T σ (nl (sortD ds)) Q → wpAny (model X.prog X.w) X.A (call (.builtin "sorted") us) (EP X pins σ₁ Q) X.xe s₁ := by
    intro ds hd hs hz q
    obtain ⟨al, so, dep⟩ := sortOk_spec hs
    have hun : ∀ b, b ∈ ds → X.A.units + 2 + b.depth < cLine := fun b hb => by have := depthAll_mem hb; omega
    obtain ⟨G, A, B, eG, hS, ⟨h1, h2⟩, nd, n⟩ := id w
    obtain ⟨p, ys, rfl, hl, pl, w1⟩ := WI.its1 hd w
    rw [Vals.ref1 r]
    rw [lim_eq] at hz
    -- the items, over what is settled
    obtain ⟨G', A', B', eG', hS', hd', nd', n'⟩ := id w1
    obtain ⟨b, c, rfl, h3, h4⟩ := HdR.split hd'
    obtain ⟨rfl, dq⟩ := ORs.dps (ORs.hd (by simpa using hl) h3)
    have fin : ∀ (s' : Shared) (a : Addr) (out : List Value) (c' : Nat), (∀ b o, s₁.heap.get? b = some o → s'.heap.get? b = some o) → s'.gens = s₁.gens → s'.os = s₁.os → s'.drawn = s₁.drawn → s₁.heap.objs.size ≤ a →
        s'.heap.get? a = some (seqObj "list" out.toArray c') → out.length = ds.length → PySem.W.EachIs (VD X.K G') out (sortD ds) → EP X pins σ₁ Q (.ref a) s' := by
      intro s' a out c' k g o dr hsz ha hlen he
      obtain ⟨zs, r2, d2⟩ := vd_back he
      obtain ⟨hh, gg, dd, tt, oo⟩ := s'
      obtain rfl : gg = s₁.gens := g
      obtain rfl : oo = s₁.os := o
      obtain rfl : dd = s₁.drawn := dr
      have hlz : zs.length ≤ sizeLine := by rw [r2.length, hlen]; exact hz
      refine ⟨.ref a, upd H a (.lst zs), I.laid (t' := tt) k hsz ⟨hlz, out, c', r2, ha⟩, rfl, Fin1.nl (DqAll.len d2).symm ?_ (I.hok.fresh hsz) q⟩
      exact ⟨G', A', c, eG', hS', HdR.app (B := []) (ORs.toHd (ORs.imms d2)) h4, nd', n'⟩
    have each : ∀ its : List Value, Vals ys its → PySem.W.EachIs (VD X.K G') its ds := fun its rv => vd_each rv dq
    have eread : ∀ its : List Value, Vals ys its → PySem.W.EachIs (fun v b => ∃ as, Reads s₁.heap v b as) its ds := fun its rv => (each_mem (each its rv) fun d hd => alike_nd d (al d hd d hd)).mono fun _ _ ⟨⟨x, rx, dx⟩, n⟩ => dq_reads I n ⟨x, rx, Dq.ext eG' _ _ dx⟩
    have e0 : ds.map (fun d => d) = ds := map_id' ds
    rcases pl with ⟨e, hp⟩ | ⟨e, hp⟩
    · obtain ⟨its, rv, hpl, _⟩ := I.list (.inl hp)
      have hlen : its.length ≤ sizeLine := by rw [← rv.length, ← hl]; exact hz
      refine PySem.W.sorted_data (R := VD X.K G') (enc := fun d : D => d) (bs := ds) (vs := its) hpl.isList (each its rv) (eread its rv) (by rw [e0]; exact al) (by rw [e0]; exact so) hz hun fun out ho he => ?_
      obtain ⟨ep, he'⟩ := PyProof.Rows.sortedAll_at s₁.heap its out.toArray
      exact fin _ _ out ep (fun _ _ => PyProof.Rows.sortedAll_old) rfl rfl rfl (Nat.le_succ _) he' ho he
    · obtain ⟨its, rv, hpt, _⟩ := I.tuple hp.sqt
      have hlen : its.length ≤ sizeLine := by rw [← rv.length, ← hl]; exact hz
      refine sorted_tup (RR := VD X.K G') (enc := fun d : D => d) (bs := ds) (vs := its) hpt hlen (each its rv) (eread its rv) (by rw [e0]; exact al) (by rw [e0]; exact so) hun fun s' a out c' k g o dr hsz ha ho he => ?_
      exact fin s' a out c' k g o dr hsz ha ho he
  cases d <;> simp only [BI.sem] at hv <;> try contradiction
  · split at hv
    · rename_i hz
      cases hv
      simp only [Bool.and_eq_true, decide_eq_true_eq] at hz
      exact key _ rfl hz.1 hz.2 q
    · cases hv
  · split at hv
    · rename_i hz
      cases hv
      simp only [Bool.and_eq_true, decide_eq_true_eq] at hz
      exact key _ rfl hz.1 hz.2 q
    · cases hv

/-! ### repr, isinstance -/
theorem b_repr (hu : X.A.units + 70 < cLine) (hg : X.A.guards = some []) : CallR X (.builtin "repr") (rB1 X.K .repr) := by
  intro pins s₁ σ₁ H xs us Q I r h
  obtain ⟨s, T, σ, d, x, rfl, w, v, hv, q⟩ := h
  simp only [BI.sem] at hv
  split at hv
  · rename_i hz
    cases hv
    simp only [reprOk, Bool.and_eq_true, decide_eq_true_eq, Bool.not_eq_true'] at hz
    obtain ⟨⟨⟨h1, h2⟩, h3⟩, h4⟩ := hz
    rw [lim_eq] at h4
    obtain ⟨u, rfl, rx⟩ := vals1 r
    have hx := w.rd
    have fin : ∀ {h' : Heap} {t tk : Nat}, (∀ b o, s₁.heap.get? b = some o → h'.get? b = some o) → EP X pins σ₁ Q (.str d.shown tk) { s₁ with heap := h', toks := t } := fun k => ⟨.str d.shown, H, I.kept k, ⟨_, rfl⟩, Fin1.str w.drop q⟩
    have old : ∀ b o, s₁.heap.get? b = some o → s₁.heap.get? b = some o := fun _ _ e => e
    cases d with
    | none =>
      cases hx.non'
      cases rx
      simp only [PyData.shown] at fin h4
      exact PySem.P.repr_of_none (fin old)
    | bool b =>
      cases hx.bl'
      cases rx
      simp only [PyData.shown] at fin h4
      exact PySem.P.repr_of_bool (fin old)
    | int i =>
      cases hx.int'
      obtain ⟨t, rfl⟩ := rx
      simp only [PyData.shown] at fin h4
      exact PySem.P.repr_of_int (by simpa [PyData.showable] using h1) (fin old)
    | str x =>
      cases hx.str'
      obtain ⟨t, rfl⟩ := rx
      simp only [PyData.shown] at fin h4
      exact PySem.P.repr_of_str (fin old) (by omega)
    | list ds =>
      obtain ⟨as, rd⟩ := Dp.reads I _ x u (Dq.dp _ _ h2 hx) rx
      cases hx
      cases rx
      exact repr_of_reads' rd h1 (fun e => by rw [h2] at e; cases e) hg (by omega) (fun _ _ e => e) (fun h' t tk k => fin k) (by omega)
    | tuple ds =>
      obtain ⟨as, rd⟩ := Dp.reads I _ x u (Dq.dp _ _ h2 hx) rx
      cases hx
      cases rx
      exact repr_of_reads' rd h1 (fun e => by rw [h2] at e; cases e) hg (by omega) (fun _ _ e => e) (fun h' t tk k => fin k) (by omega)
    | dict kvs => simp [PyData.hasDict] at h2
  · cases hv
def Ty.nm : Ty → String
  | .int => "int" | .bool => "bool" | .str => "str" | .list => "list" | .tuple => "tuple"
def tyD : D → String
  | .none => "NoneType" | .bool _ => "bool" | .int _ => "int" | .str _ => "str" | .list _ => "list" | .tuple _ => "tuple" | .dict _ => "dict"
theorem ty_of {d : D} {x : V} (n : noDictB d = true) (h : Dq K H x d) : TyX K H x (.type (tyD d)) := by
  cases h with
  | fn a => simp [noDictB] at n
  | non => exact .base .non
  | bl b => exact .base (.bl b)
  | int i => exact .base (.int i)
  | str x => exact .base (.str x)
  | lst a b =>
    rcases a with a | ⟨o, a⟩
    · exact .base (.lst a)
    · exact .base (.frz a)
  | tup a b =>
    rcases a with ⟨o, a, _⟩ | ⟨o, its, n, h1, h2, _⟩
    · exact .fTuple a
    · exact .kTuple h1 h2.1
theorem kit_has {d : D} (t : Ty) (h : noDictB d = true) : PySem.W.kitOne K (.type (tyD d)) (.type t.nm) = some (t.has d) := by
  refine kit_ty ?_
  cases d <;> cases t <;> simp only [tyD, Ty.nm, Ty.has] <;> first | decide +kernel | (simp [noDictB] at h)
theorem kit_any {d : D} (h : noDictB d = true) : ∀ ts : List Ty, PySem.W.kitAny K (.type (tyD d)) (ts.map fun t => .type t.nm) = some (ts.any fun t => t.has d)
  | [] => kitAny_nil
  | t :: ts => by
    rw [List.map_cons, List.any_cons]
    refine kitAny_cons (kit_has t h) (fun e => ?_) (fun e => ?_)
    · rw [e, Bool.false_or]
      exact kit_any h ts
    · rw [e, Bool.true_or]
end
end PV
end
section
set_option Elab.async false
set_option linter.all false
set_option maxRecDepth 100000
set_option maxHeartbeats 2000000
/-! PvH: which text the steps are of; readings; calls. -/
namespace PV
open PySem PySem.Spec PyProof.Rows L2

/-- a def of the text, as a caller knows it -/
structure FnI where
  name : Str
  N : List Str
  ps : List Str
  fn : Fn
/-- a def that calls what it got and tells what it caught -/
structure TdI where
  name : Str
  N : List Str
  a : Str
  params : Arguments
  body : List Stmt
  scope : Scope
structure Cfg where
  fns : List FnI
  /-- the errors: name, field (none for what is never raised) -/
  cls : List (Str × Str)
  /-- by class: which of those that are raised are of it -/
  sub : List (List Nat)
  ks : List (Str × D)
  /-- gcd is the built-in -/
  gcd : Bool
  /-- how calls are written: def, written values, keywords, order -/
  kws : List (Nat × Nat × List Str × List Nat)
  tds : List TdI
def Cfg.nm (C : Cfg) (c : Nat) : Str := (C.cls.getD c (Str.empty, Str.empty)).1
def Cfg.fl (C : Cfg) (c : Nat) : Str := (C.cls.getD c (Str.empty, Str.empty)).2
def Cfg.prog (C : Cfg) : List Fn := C.fns.map (·.fn)

/-- where a piece of the text stands -/
structure CC where
  N : List Str
  sc : Scope
  fn : Str → Bool
  /-- slots that are lent: never stored -/
  lk : List Nat
  /-- a lambda may stand here -/
  lm : Bool

def visB (sc : Scope) (x : Str) : Bool := match sc.names.lookup x with
  | some .local | some .cell | some .free => true
  | _ => false
theorem vis_of {sc : Scope} {x : Str} (h : visB sc x = true) : Vis sc x := by
  unfold visB at h
  split at h
  · exact .inl (by assumption)
  · exact .inr (.inl (by assumption))
  · exact .inr (.inr (by assumption))
  · cases h
def nameB (c : CC) (i : Nat) (x : Str) : Bool := decide (c.N[i]? = some x) && visB c.sc x && !(x == ("__debug__" : Str)) && !(x == ("__classdict__" : Str))
def glB (c : CC) (x : Str) : Bool := decide (c.sc.names.lookup x = some .globalImplicit) && !(x == ("__debug__" : Str)) && !(x == ("__name__" : Str))
/-- a name that is stored -/
def stB (c : CC) (i : Nat) (x : Str) : Bool := decide (c.N[i]? = some x) && (decide (c.sc.names.lookup x = some .local) || (decide (c.sc.names.lookup x = some .cell) && c.fn x)) && !c.lk.contains i
def scB : D → Const → Bool
  | .none, .none => true
  | .bool a, .bool b => a == b
  | .int i, .int j => decide (i = j)
  | .str x, .str y => decide (x = y)
  | _, _ => false
def scE : D → D → Bool
  | .dict [(.none, .str x)], .dict [(.none, .str y)] => decide (x = y)
  | .none, .none => true
  | .bool a, .bool b => a == b
  | .int i, .int j => decide (i = j)
  | .str x, .str y => decide (x = y)
  | _, _ => false
theorem scE_eq {a b : D} (h : scE a b = true) : a = b := by
  unfold scE at h
  split at h
  · rw [of_decide_eq_true h]
  · rfl
  · rw [eq_of_beq h]
  · rw [of_decide_eq_true h]
  · rw [of_decide_eq_true h]
  · cases h
def E.isPk : E → Bool
  | .pk _ => true
  | .ixk _ _ => true
  | _ => false
mutual
/-- calls no def, changes no slot's list -/
def E.quiet : E → Bool
  | .call _ _ _ => false
  | .pop _ _ => false
  | .mv _ => false
  | .tup es => E.quietA es
  | .lst es => E.quietA es
  | .frz e => e.quiet
  | .op2 _ a b => a.quiet && b.quiet
  | .neg a => a.quiet
  | .cmp _ a b => a.quiet && b.quiet
  | .chn _ _ a b c => a.quiet && b.quiet && c.quiet
  | .and_ a b => a.quiet && b.quiet
  | .or_ a b => a.quiet && b.quiet
  | .not_ a => a.quiet
  | .ite c a b => c.quiet && a.quiet && b.quiet
  | .ix a b => a.quiet && b.quiet
  | .ixk _ b => b.quiet
  | .slc a lo hi => a.quiet && E.quietO lo && E.quietO hi
  | .blt _ es => E.quietA es
  | .isi a _ => a.quiet
  | .meth _ a es => a.quiet && E.quietA es
  | .comp _ _ _ _ _ => false
  | .told _ _ _ _ _ => false
  | .atr _ _ => false
  | .rev a => a.quiet
  | .gcd a b => a.quiet && b.quiet
  | .popk _ _ => false
  | .callv _ _ _ => false
  | .comp2 _ _ _ _ _ _ _ _ => false
  | .bad => false
  | .var _ => true
  | .pk _ => true
  | .io _ => true
  | .lit _ => true
  | .glb _ _ => true
def E.quietA : List E → Bool
  | [] => true
  | e :: es => e.quiet && E.quietA es
def E.quietO : Option E → Bool
  | none => true
  | some e => e.quiet
end
def isSlice : Expr → Bool
  | .Slice _ _ _ _ => true
  | _ => false
def isStar : Expr → Bool
  | .Starred _ _ => true
  | _ => false
def BI.nm : BI → Str
  | .len => "len" | .int => "int" | .abs => "abs" | .min => "min" | .max => "max" | .sum => "sum" | .sorted => "sorted" | .tuple => "tuple" | .list => "list" | .repr => "repr" | .all => "all" | .any => "any"
  | .lrange => "list" | .trange => "tuple"
def ME.nm : ME → Str
  | .index => "index" | .count => "count"
def Ty.x (t : Ty) : Str := Str.ofString t.nm
def lentPos : List E → Nat → List Nat
  | [], _ => []
  | .io _ :: es, k => k :: lentPos es (k + 1)
  | _ :: es, k => lentPos es (k + 1)
def kwNames : List Keyword → List (Option Str)
  | [] => []
  | ⟨n, _, _⟩ :: r => n :: kwNames r
def kwVals : List Keyword → List Expr
  | [] => []
  | ⟨_, v, _⟩ :: r => v :: kwVals r
def E.isIo : E → Bool
  | .io _ => true
  | _ => false
/-- a lent argument -/
def ioB : E → CC → Expr → Bool
  | .io i, c, .Name x _ => nameB c i x
  | _, _, _ => false
/-- it may stand as a test -/
def E.tst : E → Bool
  | .ite _ _ _ => false
  | .frz _ => false
  | _ => true
/-- which built-ins go with how many -/
def bOk : BI → Nat → Bool
  | .lrange, _ => false
  | .trange, _ => false
  | .min, 2 => true
  | .max, 2 => true
  | _, 1 => true
  | _, _ => false
def vRev : Expr → Option Expr
  | .Subscript x (.Slice none none (some (.UnaryOp .USub (.Constant (.int 1) _ _) _)) _) _ => some x
  | _ => none
theorem vRev_of {e x : Expr} (h : vRev e = some x) : ∃ k p1 p2 p3 p4, e = .Subscript x (.Slice none none (some (.UnaryOp .USub (.Constant (.int 1) k p1) p2)) p3) p4 := by unfold vRev at h; split at h <;> cases h; exact ⟨_, _, _, _, _, rfl⟩
def vPopk : Expr → Option (Str × Expr × Bool)
  | .Call (.Attribute (.Subscript (.Name x _) k _) n apos) [] [] pos => if n = "pop" then some (x, k, apos.endLine == pos.line) else none
  | _ => none
theorem vPopk_of {e k : Expr} {x : Str} {l : Bool} (h : vPopk e = some (x, k, l)) : ∃ p p2 apos pos, e = .Call (.Attribute (.Subscript (.Name x p) k p2) "pop" apos) [] [] pos ∧ (apos.endLine == pos.line) = l := by
  unfold vPopk at h
  split at h
  · split at h
    · rename_i hn
      cases h
      subst hn
      exact ⟨_, _, _, _, rfl, rfl⟩
    · cases h
  · cases h
def isCall0 : Expr → Bool
  | .Call (.Name _ _) [] [] _ => true
  | _ => false
def isSet : Expr → Bool
  | .Set _ _ _ => true
  | _ => false
def tgOk : SK → Tgt → Bool
  | .enum, .nm _ => false
  | .zip, .nm _ => false
  | _, _ => true
mutual
def chkT : Tgt → CC → Expr → Bool
  | .nm i, c, .Name x _ => stB c i x
  | .tp ts, c, .Tuple es _ _ => chkTs ts c es
  | _, _, _ => false
def chkTs : List Tgt → CC → List Expr → Bool
  | [], _, [] => true
  | t :: ts, c, e :: es => chkT t c e && chkTs ts c es
  | _, _, _ => false
end
def CC.blk (c : CC) (scope : Scope) : CC := ⟨c.N, relS scope c.sc, fun x => scope.names.lookup x == some .cell, c.lk, c.lm⟩
def CC.lam (c : CC) (scope : Scope) : CC := ⟨c.N, scope, fun _ => false, c.lk, false⟩
def CC.own (c : CC) (t : Tgt) : List (Str × Nat) := t.slots.map fun i => (c.N.getD i Str.empty, i)
def tysB : CC → List Ty → List Expr → Bool
  | _, [], [] => true
  | c, t :: ts, .Name z _ :: as => decide (z = t.x) && glB c z && tysB c ts as
  | _, _, _ => false
/-- a walk's shape, its arguments -/
def srcB : SK → CC → Nat → Expr → Expr → Bool
  | .seq, _, n, _, _ => decide (n = 1)
  | .range, c, n, _, .Call (.Name x _) _ [] _ => decide (x = "range") && glB c x && decide (n = 1 ∨ n = 2 ∨ n = 3)
  | .enum, c, n, .Tuple _ _ _, .Call (.Name x _) _ [] _ => decide (x = "enumerate") && glB c x && decide (n = 1)
  | .zip, c, n, .Tuple _ _ _, .Call (.Name x _) _ [] _ => decide (x = "zip") && glB c x && decide (n = 2)
  | .rev, c, n, _, .Call (.Name x _) _ [] _ => decide (x = "reversed") && glB c x && decide (n = 1)
  | _, _, _, _, _ => false
def srcArgs : SK → Expr → List Expr
  | .seq, i => [i]
  | _, i => match i with
    | .Call _ as _ _ => as
    | _ => []
/-! views of the text -/
def vName : Expr → Option Str
  | .Name x _ => some x
  | _ => none
def vSub : Expr → Option (Expr × Expr)
  | .Subscript x y _ => some (x, y)
  | _ => none
def vConst : Expr → Option Const
  | .Constant k _ _ => some k
  | _ => none
def vTup : Expr → Option (List Expr)
  | .Tuple as _ _ => some as
  | _ => none
def vLst : Expr → Option (List Expr)
  | .List as _ => some as
  | _ => none
def vBin : Expr → Option (Expr × Operator × Expr)
  | .BinOp x op y _ => some (x, op, y)
  | _ => none
def vUn : Expr → Option (UnaryOp × Expr)
  | .UnaryOp op x _ => some (op, x)
  | _ => none
def vCmp1 : Expr → Option (Expr × CmpOp × Expr)
  | .Compare x [op] [y] _ => some (x, op, y)
  | _ => none
def vCmp2 : Expr → Option (Expr × CmpOp × CmpOp × Expr × Expr)
  | .Compare x [op, op'] [y, z] _ => some (x, op, op', y, z)
  | _ => none
def vBool : Expr → Option (BoolOp × List Expr)
  | .BoolOp op es _ => some (op, es)
  | _ => none
def vIf : Expr → Option (Expr × Expr × Expr)
  | .IfExp x y z _ => some (x, y, z)
  | _ => none
def vSlc : Expr → Option (Expr × Option Expr × Option Expr)
  | .Subscript x (.Slice l u none _) _ => some (x, l, u)
  | _ => none
def vCall : Expr → Option (Str × List Expr × List Keyword)
  | .Call (.Name x _) as kws _ => some (x, as, kws)
  | _ => none
def vMeth : Expr → Option (Expr × Str × List Expr × Bool)
  | .Call (.Attribute x n apos) as [] pos => some (x, n, as, apos.endLine == pos.line)
  | _ => none
def vComp : Expr → Option (Expr × Expr × Expr × List Expr × Scope)
  | .ListComp elt [⟨tg, iter, ifs, 0⟩] scope _ => some (elt, tg, iter, ifs, scope)
  | _ => none
section
variable {e : Expr}
theorem vName_of {x} (h : vName e = some x) : ∃ p, e = .Name x p := by unfold vName at h; split at h <;> cases h; exact ⟨_, rfl⟩
theorem vSub_of {x y} (h : vSub e = some (x, y)) : ∃ p, e = .Subscript x y p := by unfold vSub at h; split at h <;> cases h; exact ⟨_, rfl⟩
theorem vConst_of {x} (h : vConst e = some x) : ∃ n p, e = .Constant x n p := by unfold vConst at h; split at h <;> cases h; exact ⟨_, _, rfl⟩
theorem vTup_of {x} (h : vTup e = some x) : ∃ n p, e = .Tuple x n p := by unfold vTup at h; split at h <;> cases h; exact ⟨_, _, rfl⟩
theorem vLst_of {x} (h : vLst e = some x) : ∃ p, e = .List x p := by unfold vLst at h; split at h <;> cases h; exact ⟨_, rfl⟩
theorem vBin_of {x o y} (h : vBin e = some (x, o, y)) : ∃ p, e = .BinOp x o y p := by unfold vBin at h; split at h <;> cases h; exact ⟨_, rfl⟩
theorem vUn_of {x o} (h : vUn e = some (o, x)) : ∃ p, e = .UnaryOp o x p := by unfold vUn at h; split at h <;> cases h; exact ⟨_, rfl⟩
theorem vCmp1_of {x o y} (h : vCmp1 e = some (x, o, y)) : ∃ p, e = .Compare x [o] [y] p := by unfold vCmp1 at h; split at h <;> cases h; exact ⟨_, rfl⟩
theorem vCmp2_of {x o o' y z} (h : vCmp2 e = some (x, o, o', y, z)) : ∃ p, e = .Compare x [o, o'] [y, z] p := by unfold vCmp2 at h; split at h <;> cases h; exact ⟨_, rfl⟩
theorem vBool_of {o es} (h : vBool e = some (o, es)) : ∃ p, e = .BoolOp o es p := by unfold vBool at h; split at h <;> cases h; exact ⟨_, rfl⟩
theorem vIf_of {x y z} (h : vIf e = some (x, y, z)) : ∃ p, e = .IfExp x y z p := by unfold vIf at h; split at h <;> cases h; exact ⟨_, rfl⟩
theorem vSlc_of {x l u} (h : vSlc e = some (x, l, u)) : ∃ p p2, e = .Subscript x (.Slice l u none p) p2 := by unfold vSlc at h; split at h <;> cases h; exact ⟨_, _, rfl⟩
theorem vCall_of {x as kws} (h : vCall e = some (x, as, kws)) : ∃ p p2, e = .Call (.Name x p) as kws p2 := by unfold vCall at h; split at h <;> cases h; exact ⟨_, _, rfl⟩
theorem vMeth_of {x n as l} (h : vMeth e = some (x, n, as, l)) : ∃ apos pos, e = .Call (.Attribute x n apos) as [] pos ∧ (apos.endLine == pos.line) = l := by unfold vMeth at h; split at h <;> cases h; exact ⟨_, _, rfl, rfl⟩
theorem vComp_of {elt tg iter ifs scope} (h : vComp e = some (elt, tg, iter, ifs, scope)) : ∃ p, e = .ListComp elt [⟨tg, iter, ifs, 0⟩] scope p := by unfold vComp at h; split at h <;> cases h; exact ⟨_, rfl⟩
end
/-- f of what is seen -/
def seen {α : Type} (o : Option α) (f : α → Bool) : Bool := match o with
  | some a => f a
  | none => false
theorem seen_of {α : Type} {o : Option α} {f : α → Bool} (h : seen o f = true) : ∃ a, o = some a ∧ f a = true := by
  cases o with
  | none => cases h
  | some a => exact ⟨a, rfl, h⟩
/-! a def that tells -/
def rsB (fl : Str) : Bool := decide (fl = "at") || (decide (fl = "word") || decide (fl = "-"))
/-- the field that all that the clause catches have, else "-" -/
def Cfg.hf (C : Cfg) (h : Cl) : Str := if h.cs.all (fun c => decide (C.fl c = C.fl (h.cs.headD 0))) then C.fl (h.cs.headD 0) else "-"
/-- a caught error's field -/
def vFld : Expr → Option (Str × Str)
  | .Attribute (.Name x _) f _ => some (x, f)
  | _ => none
theorem vFld_of {e : Expr} {x f : Str} (h : vFld e = some (x, f)) : ∃ p p2, e = .Attribute (.Name x p) f p2 := by unfold vFld at h; split at h <;> cases h; exact ⟨_, _, rfl⟩
def vRet : Stmt → Option Expr
  | .Return (some a) _ => some a
  | _ => none
theorem vRet_of {st : Stmt} {a : Expr} (h : vRet st = some a) : ∃ p, st = .Return (some a) p := by unfold vRet at h; split at h <;> cases h; exact ⟨_, rfl⟩
mutual
def chkHT (F : Str) : HE → CC → Option Nat → Expr → Bool
  | .lit d, _, _, x => seen (vConst x) fun k => scB d k
  | .fld, c, i, x => seen (vFld x) fun (n, f) => decide (f = F) && (!decide (F = "-") && seen i fun i => nameB c i n)
  | .var _, _, _, _ => false
  | .tup es, c, i, x => seen (vTup x) fun as => decide (es.length ≤ 1000) && chkHTs F es c i as
def chkHTs (F : Str) : List HE → CC → Option Nat → List Expr → Bool
  | [], _, _, as => as.isEmpty
  | e :: es, c, i, as => (match as with
    | a :: as => chkHT F e c i a && !isStar a && chkHTs F es c i as
    | [] => false)
end
mutual
def chkHC : HE → Expr → Bool
  | .lit d, x => seen (vConst x) fun k => scB d k
  | .fld, _ => false
  | .var _, _ => false
  | .tup es, x => seen (vTup x) fun as => decide (es.length ≤ 1000) && chkHCs es as
def chkHCs : List HE → List Expr → Bool
  | [], as => as.isEmpty
  | e :: es, as => (match as with
    | a :: as => chkHC e a && !isStar a && chkHCs es as
    | [] => false)
end
def chkTc (C : Cfg) : Cl → CC → ExceptHandler → Bool
  | h, c, .ExceptHandler (some (.Name x _)) nm [st] _ => glB c x && seen (C.cls[h.k]?) (fun (n, _) => decide (n = x)) && (match nm with
    | some n => seen h.i fun i => stB c i n && decide (c.sc.names.lookup n = some .local)
    | none => h.i.isNone) && decide (h.cs = C.sub.getD h.k []) && (match h.a with
    | .ret e => seen (vRet st) fun a => chkHT (C.hf h) e c h.i a
    | _ => false)
  | _, _, _ => false
def chkTcs (C : Cfg) : List Cl → CC → List ExceptHandler → Bool
  | [], _, hs => hs.isEmpty
  | h :: r, c, hs => (match hs with
    | x :: hs => chkTc C h c x && chkTcs C r c hs
    | [] => false)
def TdI.cc (td : TdI) : CC := ⟨td.N, td.scope, fun _ => true, [], false⟩
def vTell : List Stmt → Option (Str × ExceptHandler × List ExceptHandler × Expr)
  | [.Try [.Expr (.Call (.Name y _) [] [] _) _] (h0 :: hds) [] [] _, .Return (some r) _] => some (y, h0, hds, r)
  | _ => none
theorem vTell_of {b : List Stmt} {y h0 hds r} (h : vTell b = some (y, h0, hds, r)) : ∃ p1 p2 p3 p4 p5, b = [.Try [.Expr (.Call (.Name y p1) [] [] p2) p3] (h0 :: hds) [] [] p4, .Return (some r) p5] := by unfold vTell at h; split at h <;> cases h; exact ⟨_, _, _, _, _, rfl⟩
def chkTd (C : Cfg) (td : TdI) (fin : HE) (hs : List Cl) (all : List Nat) : Bool := seen (vTell td.body) fun (y, h0, hds, r) => decide (y = td.a) && nameB td.cc 0 y && chkHC fin r && chkTcs C hs td.cc (h0 :: hds) && all.all fun c0 => seen (C.cls[c0]?) fun (_, fl) => rsB fl
def vLam : Expr → Option (Str × Arguments × Expr × Scope)
  | .Call (.Name x _) [.Lambda params body scope _] [] _ => some (x, params, body, scope)
  | _ => none
theorem vLam_of {e : Expr} {x params body scope} (h : vLam e = some (x, params, body, scope)) : ∃ p p2 p3, e = .Call (.Name x p) [.Lambda params body scope p2] [] p3 := by unfold vLam at h; split at h <;> cases h; exact ⟨_, _, _, rfl⟩
def vAtr : Expr → Option (Str × Str × Str × Expr)
  | .Attribute (.Call (.Name nm _) [] [⟨some f, a, _⟩] _) g _ => some (nm, f, g, a)
  | _ => none
theorem vAtr_of {e : Expr} {nm f g a} (h : vAtr e = some (nm, f, g, a)) : ∃ p p2 p3 p4, e = .Attribute (.Call (.Name nm p) [] [⟨some f, a, p4⟩] p2) g p3 := by unfold vAtr at h; split at h <;> cases h; exact ⟨_, _, _, _, rfl⟩
def noPs : Arguments → Bool
  | { posonlyargs := [], args := [], vararg := none, kwonlyargs := [], kw_defaults := [], kwarg := none, defaults := [] } => true
  | _ => false
theorem noPs_of {a : Arguments} (h : noPs a = true) : a = { posonlyargs := [], args := [], vararg := none, kwonlyargs := [], kw_defaults := [], kwarg := none, defaults := [] } := by unfold noPs at h; split at h <;> first | rfl | cases h
section
variable (C : Cfg)
mutual
def chkE : E → CC → Expr → Bool
  | .var i, c, x => seen (vName x) fun x => nameB c i x
  | .mv i, c, x => seen (vName x) fun x => nameB c i x
  | .pk i, c, x => seen (vName x) fun x => nameB c i x
  | .io _, _, _ => false
  | .ixk i b, c, x => seen (vSub x) fun (x, y) => seen (vName x) (fun x => nameB c i x) && chkE b c y && !isSlice y
  | .lit d, c, x => seen (vConst x) fun k => scB d k
  | .glb k d, c, x => seen (vName x) fun x => glB c x && seen (C.ks[k]?) fun (y, e) => decide (x = y) && scE d e
  | .tup es, c, x => seen (vTup x) fun as => decide (es.length ≤ 1000) && chkEs es c as
  | .lst es, c, x => seen (vLst x) fun as => decide (es.length ≤ 1000) && chkEs es c as
  | .frz e, c, a => !e.isPk && chkE e c a
  | .op2 o a b, c, x => seen (vBin x) fun (x, op, y) => decide (o.op = op) && chkE a c x && chkE b c y && (!a.isPk || b.quiet)
  | .neg a, c, x => seen (vUn x) fun (op, x) => decide (op = .USub) && chkE a c x
  | .cmp o a b, c, x => seen (vCmp1 x) fun (x, op, y) => decide (o.op = op) && chkE a c x && chkE b c y && (!a.isPk || b.quiet) && !behindInMarks op y
  | .chn o o' a b d, c, x => seen (vCmp2 x) fun (x, op, op', y, z) => decide (o.op = op) && decide (o'.op = op') && chkE a c x && chkE b c y && chkE d c z && (!a.isPk || (b.quiet && d.quiet)) && (!b.isPk || d.quiet) && !lastMarks [op, op'] [y, z]
  | .and_ a b, c, x => seen (vBool x) fun (op, xs) => decide (op = .And) && (match xs with
    | [x, y] => a.tst && b.tst && !b.isPk && chkE a c x && chkE b c y
    | x :: y :: z :: r => a.tst && chkE a c x && chkAnd b c (y :: z :: r)
    | _ => false)
  | .or_ a b, c, x => seen (vBool x) fun (op, xs) => decide (op = .Or) && (match xs with
    | [x, y] => a.tst && b.tst && !b.isPk && chkE a c x && chkE b c y
    | x :: y :: z :: r => a.tst && chkE a c x && chkOr b c (y :: z :: r)
    | _ => false)
  | .not_ a, c, x => seen (vUn x) fun (op, x) => decide (op = .Not) && a.tst && chkE a c x
  | .ite d a b, c, x => seen (vIf x) fun (x, y, z) => d.tst && !a.isPk && !b.isPk && chkE d c x && chkE a c y && chkE b c z
  | .ix a b, c, x => seen (vSub x) fun (x, y) => chkE a c x && chkE b c y && (!a.isPk || b.quiet) && !isSlice y
  | .slc a lo hi, c, x => seen (vSlc x) fun (x, l, u) => chkE a c x && chkI lo c l && chkI hi c u && (!a.isPk || (E.quietO lo && E.quietO hi))
  | .call f es pm, c, x => seen (vCall x) fun (x, as, kws) => glB c x && seen (C.fns[f]?) (fun fi => decide (x = fi.name) && decide (lentPos es 0 = fi.fn.lent) && (decide (pm = List.range es.length) || decide (fi.fn.lent = [])) && decide (pm.length = fi.ps.length))
      && decide ((f, as.length, (kwNames kws).filterMap id, pm) ∈ C.kws) && (kwNames kws).all (·.isSome) && pm.isPerm (List.range es.length) && decide (es.length = as.length + ((kwNames kws).filterMap id).length) && chkA es c (as ++ kwVals kws) && !as.any isStar
  | .blt b es, c, x => seen (vCall x) fun (x, as, kws) => kws.isEmpty && chkOs es c as && bOk b es.length && decide (x = b.nm) && glB c x
  | .isi a ts, c, x => seen (vCall x) fun (x, as, kws) => kws.isEmpty && decide (x = "isinstance") && glB c x && (match as with
    | [y, t] => chkE a c y && !isStar y && (match ts with
      | [ty] => seen (vName t) fun z => decide (z = ty.x) && glB c z
      | ts => seen (vTup t) fun as => decide (ts.length ≤ 5) && tysB c ts as)
    | _ => false)
  | .meth m a es, c, x => seen (vMeth x) fun (x, n, as, l) => decide (m = .index) && decide (n = "index") && chkE a c x && decide (es.length = 1) && chkOs es c as && (!a.isPk || E.quietA es) && !isCall0 x && l
  | .pop _ _, _, _ => false
  | .comp t k es cs e, c, x => seen (vComp x) fun (elt, tg, iter, ifs, scope) => srcB k c es.length tg iter && chkOs es c (srcArgs k iter) && ((es.all fun e => !e.isPk) || (E.quietA cs && e.quiet)) && chkT t (c.blk scope) tg && tgOk k t && chkCs cs (c.blk scope) ifs && chkE e (c.blk scope) elt && !e.isPk && blkC c.N c.sc scope (c.own t) && !isSet iter
  | .told g e fin hs all, c, x => c.lm && seen (vLam x) fun (nm, params, body, scope) => glB c nm && seen (C.tds[g]?) (fun td => decide (nm = td.name) && chkTd C td fin hs all) && noPs params && LamX.lamSB c.sc scope && !e.isPk && chkE e (c.lam scope) body
  | .rev a, c, x => seen (vRev x) fun x => chkE a c x
  | .gcd a b, c, x => C.gcd && seen (vCall x) fun (x, as, kws) => kws.isEmpty && decide (x = "gcd") && glB c x && (match as with
    | [y, z] => chkE a c y && chkE b c z && !isStar y && !isStar z && (!a.isPk || b.quiet)
    | _ => false)
  | .popk i k, c, x => seen (vPopk x) fun (x, y, l) => nameB c i x && chkE k c y && !isSlice y && l
  | .callv i fs es, c, x => seen (vCall x) fun (x, as, kws) => nameB c i x && kws.isEmpty && fs.all (fun q => seen (C.fns[q.2]?) fun fi => decide (q.1 = fi.name) && decide (fi.fn.lent = []) && decide (es.length = fi.ps.length) && decide ((q.2, as.length, [], List.range es.length) ∈ C.kws)) && decide (lentPos es 0 = []) && decide (es.length = as.length) && chkA es c as && !as.any isStar
  | .comp2 _ _ _ _ _ _ _ _, _, _ => false
  | .bad, _, _ => true
  | .atr cc e, c, x => c.lm && seen (vAtr x) fun (nm, f, g, a) => decide (f = g) && glB c nm && seen (C.cls[cc]?) (fun q => decide (q = (nm, f)) && rsB f && !decide (f = "-")) && !e.isPk && chkE e c a
def chkAnd : E → CC → List Expr → Bool
  | .and_ a b, c, xs => (match xs with
    | [x, y] => a.tst && b.tst && !b.isPk && chkE a c x && chkE b c y
    | x :: y :: z :: r => a.tst && chkE a c x && chkAnd b c (y :: z :: r)
    | _ => false)
  | _, _, _ => false
def chkOr : E → CC → List Expr → Bool
  | .or_ a b, c, xs => (match xs with
    | [x, y] => a.tst && b.tst && !b.isPk && chkE a c x && chkE b c y
    | x :: y :: z :: r => a.tst && chkE a c x && chkOr b c (y :: z :: r)
    | _ => false)
  | _, _, _ => false
def chkI : Option E → CC → Option Expr → Bool
  | none, _, x => x.isNone
  | some e, c, x => seen x fun x => chkE e c x
def chkEs : List E → CC → List Expr → Bool
  | [], _, as => as.isEmpty
  | e :: es, c, as => (match as with
    | a :: as => !e.isPk && chkE e c a && !isStar a && chkEs es c as
    | [] => false)
def chkOs : List E → CC → List Expr → Bool
  | [], _, as => as.isEmpty
  | e :: es, c, as => (match as with
    | a :: as => chkE e c a && !isStar a && (!e.isPk || E.quietA es) && chkOs es c as
    | [] => false)
def chkA : List E → CC → List Expr → Bool
  | [], _, as => as.isEmpty
  | e :: es, c, as => (match as with
    | a :: as => (ioB e c a || (!e.isIo && !e.isPk && chkE e c a && !isStar a)) && chkA es c as
    | [] => false)
def chkCs : List E → CC → List Expr → Bool
  | [], _, as => as.isEmpty
  | e :: es, c, as => (match as with
    | [a] => es.isEmpty && e.tst && chkE e c a
    | _ => false)
end
end
end PV
end
section
set_option Elab.async false
set_option linter.all false
set_option maxRecDepth 100000
set_option maxHeartbeats 2000000
/-! PvI: readings, and what they give, form by form. -/
namespace PV
open PySem PySem.Spec PyProof.Rows L2

/-- the meaning: the defs' table, the errors' classes -/
structure SM where
  C : Cfg
  ca : Nat → Addr
  ft : FT
  wf : Nat
/-- what a raised error holds: its field, its dict; "-": no field -/
def XH (M : SM) (c : Nat) (d : D) (x : V) (dx : Addr) : List (Hd × V) := if M.C.fl c = "-" then [] else [(.ov (.imm d), x), (.raw (.xd [(M.C.fl c, x)]), .ref dx)]
def XD (M : SM) (c : Nat) (dx : Addr) : Option Addr := if M.C.fl c = "-" then none else some dx
theorem noPk_XH {M : SM} {c : Nat} {d : D} {x : V} {dx : Addr} : noPk0 (XH M c d x dx) := by
  unfold XH
  split <;> trivial
def XW (M : SM) (K : PySem.W.Frag) (W : WX) (s : Sl) (T : List (Hd × V)) (σ : L2.St) (c : Nat) (d : D) : Prop :=
  ∀ x dx H', WI K s (XH M c d x dx ++ T) σ H' → W (.ref (M.ca c)) (XD M c dx) σ H'
def Res {α : Type} (M : SM) (K : PySem.W.Frag) (W : WX) (T : List (Hd × V)) (σ : L2.St) (P : α → Sl → Prop) : R α → Prop
  | .ok a s => P a s
  | .exc c d s => XW M K W s T σ c d
  | .bad => False
def hd (e : E) (v : OV) : Hd := if e.isPk then .od v.toD else .ov (.imm v.toD)
/-- a value's reading, an operand's -/
def tE (M : SM) (K : PySem.W.Frag) (W : WX) (e : E) : TE := fun σ H Q => ∃ s T, WI K s T σ H ∧ (noPk T ∨ e.quiet = true) ∧
  Res M K W T σ (fun v s' => ∀ x H', WI K s' ((if e.isPk then .od v.toD else .ov v, x) :: T) σ H' → Q x H') (evE M.ft e s)
def tO (M : SM) (K : PySem.W.Frag) (W : WX) (e : E) : TE := fun σ H Q => ∃ s T, WI K s T σ H ∧ (noPk T ∨ e.quiet = true) ∧
  Res M K W T σ (fun v s' => ∀ x H', WI K s' ((hd e v, x) :: T) σ H' → Q x H') (evE M.ft e s)
section
variable {M : SM} {K : PySem.W.Frag} {W : WX} {T : List (Hd × V)} {σ : L2.St} {s : Sl} {H : Hp} {α β : Type}
theorem XW.push {c : Nat} {d : D} (h : Hd × V) (x : XW M K W s T σ c d) : XW M K W s (h :: T) σ c d := fun v dx H' w => by
  refine x v dx H' ?_
  have w2 : WI K s (h :: (XH M c d v dx ++ T)) σ H' := w.perm List.perm_middle
  exact w2.drop
theorem Res.bind {P : β → Sl → Prop} {r : R α} {f : α → Sl → R β} : Res M K W T σ P (r.bind f) ↔ Res M K W T σ (fun a s => Res M K W T σ P (f a s)) r := by
  cases r <;> exact Iff.rfl
theorem Res.imp {P P' : α → Sl → Prop} {r : R α} (h : Res M K W T σ P r) (k : ∀ a s, P a s → P' a s) : Res M K W T σ P' r := by
  cases r
  · exact k _ _ h
  · exact h
  · exact h
theorem Res.push {P : α → Sl → Prop} {r : R α} (h : Hd × V) (x : Res M K W T σ P r) : Res M K W (h :: T) σ P r := by
  cases r
  · exact x
  · exact XW.push h x
  · exact x
theorem Res.d {P : D → Sl → Prop} {r : R OV} : Res M K W T σ P r.d ↔ Res M K W T σ (fun v s => P v.toD s) r := by
  cases r <;> exact Iff.rfl
theorem Res.ofO {P : α → Sl → Prop} {o : Option α} : Res M K W T σ P (R.ofO o s) ↔ ∃ a, o = some a ∧ P a s := by
  cases o with
  | none => exact ⟨fun h => h.elim, fun ⟨_, e, _⟩ => by cases e⟩
  | some a => exact ⟨fun h => ⟨a, rfl, h⟩, fun ⟨_, e, h⟩ => by cases e; exact h⟩
theorem hd_is (e : E) (v : OV) : Is (hd e v) v.toD := by
  unfold hd
  split
  · exact .inl rfl
  · exact .inr rfl
theorem hd_np {e : E} {v : OV} {x : V} (h : e.isPk = false) (n : noPk T) : noPk ((hd e v, x) :: T) := by
  unfold hd
  rw [h]
  exact n
theorem np_b {a b : E} {v : OV} {x : V} (hq : (!a.isPk || b.quiet) = true) (n : noPk T ∨ (a.quiet && b.quiet) = true) : noPk ((hd a v, x) :: T) ∨ b.quiet = true := by
  cases hb : b.quiet with
  | true => exact .inr rfl
  | false =>
    rw [hb] at hq n
    simp at hq n
    exact .inl (hd_np hq n)
theorem np_l {p q : Bool} (n : noPk T ∨ (p && q) = true) : noPk T ∨ p = true := by
  rcases n with n | n
  · exact .inl n
  · exact .inr (Bool.and_eq_true_iff.mp n).1
theorem np_r {p q : Bool} (n : noPk T ∨ (p && q) = true) : noPk T ∨ q = true := by
  rcases n with n | n
  · exact .inl n
  · exact .inr (Bool.and_eq_true_iff.mp n).2
theorem starEach_no {env : Env} {e : Expr} {es : List Expr} (h : isStar e = false) : starEach (e :: es) env = (false, eval e env) :: starEach es env := by
  cases e <;> first | rfl | (simp [isStar] at h)
theorem back_no {env : Env} {pos : Pos} : ∀ {es : List Expr}, es.any isStar = false → (backTo pos (starEach es env)).any (·.1) = false
  | [], _ => rfl
  | e :: es, h => by
    have h' : isStar e = false ∧ es.any isStar = false := by simpa [Bool.or_eq_false_iff] using h
    rw [starEach_no h'.1]
    show (false || (backTo pos (starEach es env)).any (·.1)) = false
    rw [back_no h'.2]
    rfl
end

/-- what holds of the text around, at a place -/
structure Gd (M : SM) (X : Cx) (c : CC) : Prop where
  N : X.N = c.N
  nd : c.N.Nodup
  sc : X.env.scope = c.sc
  fn : X.fn = c.fn
  calm : X.calm = true
  units : X.A.units + 80 < cLine
  grd : X.A.guards = some []
  blt : ∀ b : BI, X.mg b.nm = none
  isi : X.mg "isinstance" = none
  tys : ∀ t : Ty, X.mg t.x = none
  ks : ∀ (i : Nat) (x : Str) (d : D), M.C.ks[i]? = some (x, d) → ∃ v u, X.mg x = some u ∧ RelV v u ∧ ∀ H, Dq X.K H v d

section
variable {M : SM} {X : Cx} {W : WX} {c : CC} {ast : Expr} {pos : Pos}
/-- an operand from a value -/
theorem tO_of {e : E} (h : PE X ast (tE M X.K W e)) : PE X ast (tO M X.K W e) := by
  refine ⟨fun pins s σ H Q I hw => h.run pins s σ H Q I ?_⟩
  obtain ⟨s', T, w, np, hr⟩ := hw
  refine ⟨s', T, w, np, hr.imp fun v s1 k x H' w1 => k x H' ?_⟩
  unfold hd
  split at w1
  · rename_i z
    rw [if_pos z]
    exact w1
  · rename_i z
    rw [if_neg z]
    exact w1.settle
theorem nm_var {i : Nat} {x : Str} (g : Gd M X c) (h : nameB c i x = true) : PE X (.Name x pos) (tVar i) := by
  simp only [nameB, Bool.and_eq_true, decide_eq_true_eq, Bool.not_eq_true'] at h
  exact pe_var (by rw [g.N]; exact h.1.1.1) (by rw [g.sc]; exact vis_of h.1.1.2) h.1.2 h.2
theorem s_var {i : Nat} {x : Str} (g : Gd M X c) (h : nameB c i x = true) : PE X (.Name x pos) (tE M X.K W (.var i)) := by
  refine ⟨fun pins s σ H Q I hw => (nm_var g h).run pins s σ H Q I ?_⟩
  obtain ⟨s', T, w, np, hr⟩ := hw
  simp only [evE] at hr
  cases e : at_ s' i with
  | none => rw [e] at hr; exact hr.elim
  | some ov =>
    rw [e] at hr
    obtain ⟨v, h1, w1⟩ := w.var e
    exact ⟨v, h1, hr v H w1⟩
theorem s_mv {i : Nat} {x : Str} (g : Gd M X c) (h : nameB c i x = true) : PE X (.Name x pos) (tE M X.K W (.mv i)) := by
  refine ⟨fun pins s σ H Q I hw => (nm_var g h).run pins s σ H Q I ?_⟩
  obtain ⟨s', T, w, np, hr⟩ := hw
  simp only [evE] at hr
  cases e : at_ s' i with
  | none => rw [e] at hr; exact hr.elim
  | some ov =>
    rw [e] at hr
    have np : noPk T := np.resolve_right (by simp [E.quiet])
    obtain ⟨v, h1, w1⟩ := w.mvOut np e
    exact ⟨v, h1, hr v H w1⟩
theorem s_pk {i : Nat} {x : Str} (g : Gd M X c) (h : nameB c i x = true) : PE X (.Name x pos) (tE M X.K W (.pk i)) := by
  refine ⟨fun pins s σ H Q I hw => (nm_var g h).run pins s σ H Q I ?_⟩
  obtain ⟨s', T, w, np, hr⟩ := hw
  simp only [evE] at hr
  cases e : at_ s' i with
  | none => rw [e] at hr; exact hr.elim
  | some ov =>
    rw [e] at hr
    obtain ⟨d', hd', hr⟩ := Res.ofO.mp hr
    cases es : ov.shal with
    | none => rw [es] at hd'; cases hd'
    | some d =>
      rw [es] at hd'
      cases hd'
      obtain ⟨v, h1, w1⟩ := w.pk e es
      exact ⟨v, h1, hr v H w1⟩
theorem s_scal {d : D} {k : Const} {n : Nat} (h : scB d k = true) : PE X (.Constant k n pos) (tE M X.K W (.lit d)) := by
  have go : ∀ (x : V) (_ : ∀ H, Dq X.K H x d), PE X (.Constant k n pos) (tC x) → PE X (.Constant k n pos) (tE M X.K W (.lit d)) := fun x hx hp => by
    refine ⟨fun pins s σ H Q I hw => hp.run pins s σ H Q I ?_⟩
    obtain ⟨s', T, w, np, hr⟩ := hw
    exact hr x H (w.scal hx)
  cases d <;> cases k <;> simp only [scB, beq_iff_eq, decide_eq_true_eq] at h <;> try contradiction
  · exact go .non (fun _ => .non) pe_non
  · subst h; exact go (.bl _) (fun _ => .bl _) pe_bl
  · subst h; exact go (.int _) (fun _ => .int _) pe_int
  · subst h; exact go (.str _) (fun _ => .str _) pe_str
theorem gl_of {x : Str} (g : Gd M X c) (h : glB c x = true) : Gl X x ∧ (x == ("__debug__" : Str)) = false ∧ x ≠ "__name__" := by
  simp only [glB, Bool.and_eq_true, decide_eq_true_eq, Bool.not_eq_true'] at h
  refine ⟨?_, h.1.2, fun e => ?_⟩
  · show X.env.scope.names.lookup x = _
    rw [g.sc]
    exact h.1.1
  · have := h.2
    rw [e] at this
    simp at this
theorem s_glb {k : Nat} {d : D} {x : Str} (g : Gd M X c) (h1 : glB c x = true) (h2 : M.C.ks[k]? = some (x, d)) : PE X (.Name x pos) (tE M X.K W (.glb k d)) := by
  obtain ⟨v, u, hm, r, dq⟩ := g.ks k x d h2
  obtain ⟨hg, hdb, _⟩ := gl_of g h1
  refine ⟨fun pins s σ H Q I hw => (pe_glob hg hm r hdb).run pins s σ H Q I ?_⟩
  obtain ⟨s', T, w, np, hr⟩ := hw
  exact hr v H (w.scal dq)
theorem s_frz {e : E} (hp : e.isPk = false) (h : PE X ast (tE M X.K W e)) : PE X ast (tE M X.K W (.frz e)) := by
  refine ⟨fun pins s σ H Q I hw => h.run pins s σ H Q I ?_⟩
  obtain ⟨s', T, w, np, hr⟩ := hw
  simp only [evE] at hr
  refine ⟨s', T, w, np, (Res.bind.mp hr).imp fun v s1 k x H' w1 => k x H' ?_⟩
  rw [hp] at w1
  exact w1.settle
theorem s_op2 {o : O2} {a b : E} {x y : Expr} (ha : PE X x (tE M X.K W a)) (hb : PE X y (tE M X.K W b)) (hq : (!a.isPk || b.quiet) = true) : PE X (.BinOp x o.op y pos) (tE M X.K W (.op2 o a b)) := by
  refine ⟨fun pins s σ H Q I hw => (pe_op (op_o2 o) (tO_of ha) (tO_of hb)).run pins s σ H Q I ?_⟩
  obtain ⟨s', T, w, np, hr⟩ := hw
  simp only [evE] at hr
  rw [Res.bind, Res.d] at hr
  refine ⟨s', T, w, np_l np, hr.imp fun v s1 h1 p H1 w1 => ?_⟩
  rw [Res.bind, Res.d] at h1
  refine ⟨s1, _, w1, np_b hq np, (h1.push _).imp fun u s2 h2 q H2 w2 => ?_⟩
  obtain ⟨r, hr, h3⟩ := Res.ofO.mp h2
  exact ⟨s2, T, σ, _, _, w2.is2 (hd_is a v) (hd_is b u), r, hr, h3⟩
theorem s_neg {a : E} {x : Expr} (ha : PE X x (tE M X.K W a)) : PE X (.UnaryOp .USub x pos) (tE M X.K W (.neg a)) := by
  refine ⟨fun pins s σ H Q I hw => (pe_un un_neg (tO_of ha)).run pins s σ H Q I ?_⟩
  obtain ⟨s', T, w, np, hr⟩ := hw
  simp only [evE] at hr
  rw [Res.bind, Res.d] at hr
  refine ⟨s', T, w, np, hr.imp fun v s1 h1 p H1 w1 => ?_⟩
  have dq := (w1.is1 (hd_is a v)).rd
  cases e : v.toD <;> rw [e] at h1 dq <;> try exact h1.elim
  cases dq.int'
  exact ⟨_, rfl, h1 _ _ (w1.drop.scal fun _ => .int _)⟩
end
end PV
end
section
set_option Elab.async false
set_option linter.all false
set_option maxRecDepth 100000
set_option maxHeartbeats 2000000
/-! PvJ: tests, comparisons, places, rows, built-ins. -/
namespace PV
open PySem PySem.Spec PyProof.Rows L2
def tT (M : SM) (K : PySem.W.Frag) (W : WX) (e : E) : TT := fun σ H Q => ∃ s T, WI K s T σ H ∧ (noPk T ∨ e.quiet = true) ∧
  Res M K W T σ (fun v s' => ∃ b, v = .imm (.bool b) ∧ ∀ H', WI K s' T σ H' → Q b H') (evE M.ft e s)
/-- tests: what is no and, or, not, if-else, comparison -/
def plainT : Expr → Bool
  | .UnaryOp .Not _ _ => false
  | .BoolOp _ _ _ => false
  | .IfExp _ _ _ _ => false
  | .Compare _ _ _ _ => false
  | _ => true
section
variable {M : SM} {X : Cx} {W : WX} {c : CC} {ast : Expr} {pos : Pos}
theorem WI.dupH {K : PySem.W.Frag} {s : Sl} {T : List (Hd × V)} {σ : L2.St} {H : Hp} {e : E} {v : OV} {x : V} (w : WI K s ((hd e v, x) :: T) σ H) : WI K s ((hd e v, x) :: (hd e v, x) :: T) σ H := by
  unfold hd at w ⊢
  split at w
  · rename_i z
    simp only [z, if_true]
    obtain ⟨G, A, B, e, hs, ⟨h1, h2⟩, nd, n⟩ := w
    exact ⟨G, A, B, e, hs, ⟨h1, h1, h2⟩, nd, n⟩
  · rename_i z
    simp only [z]
    exact w.dup
theorem tB_of {K : PySem.W.Frag} {e : E} {σ : L2.St} {H : Hp} {Q : Bool → Hp → Prop} (h : tT M K W e σ H Q) : tB (tE M K W e) σ H Q := by
  obtain ⟨s, T, w, np, hr⟩ := h
  refine ⟨s, T, w, np, hr.imp fun v s1 ⟨b, e1, k⟩ x H' w1 => ?_⟩
  subst e1
  split at w1
  · exact ⟨b, w1.rd.bl', k H' w1.drop⟩
  · exact ⟨b, w1.dp.bl', k H' w1.drop⟩
theorem pt_plain {e : E} (h : PE X ast (tE M X.K W e)) (pl : plainT ast = true) : PT X ast (tT M X.K W e) := by
  have p : PT X ast (tB (tE M X.K W e)) := pt_val h (by
    intro wh
    cases ast <;> first | rfl | (simp [plainT] at pl; done) | skip
    rename_i op a ps
    cases op <;> first | rfl | (simp [plainT] at pl))
  exact ⟨fun pins s σ H Q I hw => p.run pins s σ H Q I (tB_of hw)⟩
/-! comparisons -/
theorem cmp_k {o : C2} {a b : E} {x y : Expr} {σ : L2.St} {H : Hp} {Q : Bool → Hp → Prop} (hq : (!a.isPk || b.quiet) = true) {s' : Sl} {T : List (Hd × V)} (w : WI X.K s' T σ H) (np : noPk T ∨ (a.quiet && b.quiet) = true)
    (hr : Res M X.K W T σ (fun v s2 => ∃ k, v = OV.imm (.bool k) ∧ ∀ H', WI X.K s2 T σ H' → Q k H') (evE M.ft (.cmp o a b) s')) {R : VK} (hR : ∀ k H', Q k H' → R (.bl k) H') : tOp (rC2 X.K o) (tO M X.K W a) (tO M X.K W b) σ H R := by
  simp only [evE] at hr
  rw [Res.bind, Res.d] at hr
  refine ⟨s', T, w, np_l np, hr.imp fun v s1 h1 p H1 w1 => ?_⟩
  rw [Res.bind, Res.d] at h1
  refine ⟨s1, _, w1, np_b hq np, (h1.push _).imp fun u s2 h2 q H2 w2 => ?_⟩
  obtain ⟨r, hr, k, ek, h3⟩ := Res.ofO.mp h2
  cases z : o.sem v.toD u.toD with
  | none => rw [z] at hr; cases hr
  | some k' =>
    rw [z] at hr
    subst ek
    cases hr
    exact ⟨s2, T, σ, _, _, w2.is2 (hd_is a v) (hd_is b u), _, z, fun H' w' => hR _ _ (h3 H' w')⟩
theorem bl_end {e : E} {K : PySem.W.Frag} {s : Sl} {T : List (Hd × V)} {σ : L2.St} {Q : VK} (hp : e.isPk = false) (hr : Res M K W T σ (fun v s' => ∀ x H', WI K s' ((if e.isPk then .od v.toD else .ov v, x) :: T) σ H' → Q x H') (evE M.ft e s))
    (hb : Res M K W T σ (fun v _ => ∃ b, v = OV.imm (.bool b)) (evE M.ft e s)) : Res M K W T σ (fun v s' => ∃ b, v = .imm (.bool b) ∧ ∀ H', WI K s' T σ H' → Q (.bl b) H') (evE M.ft e s) := by
  cases h : evE M.ft e s with
  | ok v s1 =>
    rw [h] at hr hb
    obtain ⟨b, rfl⟩ := hb
    refine ⟨b, rfl, fun H' w' => ?_⟩
    have := hr (.bl b) H'
    rw [hp] at this
    exact this (w'.scal fun _ => .bl b)
  | exc c d s1 => rw [h] at hr; exact hr
  | bad => rw [h] at hr; exact hr.elim
theorem isB_cmp {o : C2} {a b : E} {K : PySem.W.Frag} {s : Sl} {T : List (Hd × V)} {σ : L2.St} {P : OV → Sl → Prop} (hr : Res M K W T σ P (evE M.ft (.cmp o a b) s)) : Res M K W T σ (fun v _ => ∃ k, v = OV.imm (.bool k)) (evE M.ft (.cmp o a b) s) := by
  simp only [evE] at hr ⊢
  rw [Res.bind] at hr ⊢
  refine hr.imp fun v s1 h1 => ?_
  rw [Res.bind] at h1 ⊢
  refine h1.imp fun u s2 h2 => ?_
  rw [Res.ofO] at h2 ⊢
  obtain ⟨r, e, _⟩ := h2
  cases z : o.sem v u with
  | none => rw [z] at e; cases e
  | some k => rw [z] at e; cases e; exact ⟨_, rfl, k, rfl⟩
theorem s_cmp (g : Gd M X c) {o : C2} {a b : E} {x y : Expr} (ha : PE X x (tE M X.K W a)) (hb : PE X y (tE M X.K W b)) (hq : (!a.isPk || b.quiet) = true) (hm : behindInMarks o.op y = false) :
    PE X (.Compare x [o.op] [y] pos) (tE M X.K W (.cmp o a b)) ∧ PT X (.Compare x [o.op] [y] pos) (tT M X.K W (.cmp o a b)) := by
  have hu : X.A.units + 65 < cLine := by have := g.units; omega
  constructor
  · refine ⟨fun pins s σ H Q I hw => (pe_cmpR (op_c2 hu o) (tO_of ha) (tO_of hb) hm).run pins s σ H Q I ?_⟩
    obtain ⟨s', T, w, np, hr⟩ := hw
    exact cmp_k (x := x) (y := y) hq w np (bl_end rfl hr (isB_cmp hr)) (fun k H' h => h)
  · refine ⟨fun pins s σ H Q I hw => (pt_cmpR (op_c2 hu o) (tO_of ha) (tO_of hb) hm).run pins s σ H Q I ?_⟩
    obtain ⟨s', T, w, np, hr⟩ := hw
    exact cmp_k (x := x) (y := y) hq w np hr (fun k H' h => ⟨k, rfl, h⟩)
theorem isB_chn {o o' : C2} {a b d : E} {K : PySem.W.Frag} {s : Sl} {T : List (Hd × V)} {σ : L2.St} {P : OV → Sl → Prop} (hr : Res M K W T σ P (evE M.ft (.chn o o' a b d) s)) : Res M K W T σ (fun v _ => ∃ k, v = OV.imm (.bool k)) (evE M.ft (.chn o o' a b d) s) := by
  simp only [evE] at hr ⊢
  rw [Res.bind] at hr ⊢
  refine hr.imp fun v s1 h1 => ?_
  rw [Res.bind] at h1 ⊢
  refine h1.imp fun u s2 h2 => ?_
  cases z : o.sem v u with
  | none => rw [z] at h2; exact h2.elim
  | some k =>
    rw [z] at h2
    cases k with
    | false => exact ⟨false, rfl⟩
    | true =>
      simp only at h2 ⊢
      rw [Res.bind] at h2 ⊢
      refine h2.imp fun t s3 h3 => ?_
      rw [Res.ofO] at h3 ⊢
      obtain ⟨r, e, _⟩ := h3
      cases z' : o'.sem u t with
      | none => rw [z'] at e; cases e
      | some k => rw [z'] at e; cases e; exact ⟨_, rfl, k, rfl⟩
theorem chn_k {o o' : C2} {a b d : E} {σ : L2.St} {H : Hp} {Q : Bool → Hp → Prop} (hq1 : (!a.isPk || (b.quiet && d.quiet)) = true) (hq2 : (!b.isPk || d.quiet) = true) {s' : Sl} {T : List (Hd × V)} (w : WI X.K s' T σ H) (np : noPk T ∨ (a.quiet && b.quiet && d.quiet) = true)
    (hr : Res M X.K W T σ (fun v s2 => ∃ k, v = OV.imm (.bool k) ∧ ∀ H', WI X.K s2 T σ H' → Q k H') (evE M.ft (.chn o o' a b d) s')) {R : VK} (hR : ∀ k H', Q k H' → R (.bl k) H') : tChain (rC2 X.K o) (rC2 X.K o') (tO M X.K W a) (tO M X.K W b) (tO M X.K W d) σ H R := by
  simp only [evE] at hr
  rw [Res.bind, Res.d] at hr
  refine ⟨s', T, w, np_l (np_l np), hr.imp fun v s1 h1 p H1 w1 => ?_⟩
  rw [Res.bind, Res.d] at h1
  have np1 : noPk ((hd a v, p) :: T) ∨ b.quiet = true := np_b (a := a) (b := b) (by cases hb : b.quiet <;> simp_all) (np_l np)
  refine ⟨s1, _, w1, np1, (h1.push _).imp fun u s2 h2 q H2 w2 => ?_⟩
  cases z : o.sem v.toD u.toD with
  | none => rw [z] at h2; exact h2.elim
  | some k =>
    rw [z] at h2
    -- the middle operand stays in hand
    have w3 : WI X.K s2 ((hd b u, q) :: (hd a v, p) :: (hd b u, q) :: T) σ H2 := w2.dupH.perm (.cons _ (.swap _ _ _))
    refine ⟨s2, (hd b u, q) :: T, σ, v.toD, u.toD, w3.is2 (hd_is a v) (hd_is b u), k, z, fun H' w' => ⟨k, rfl, ?_⟩⟩
    cases k with
    | false =>
      obtain ⟨k, ek, h3⟩ := h2
      cases ek
      exact hR _ _ (h3 H' w'.drop)
    | true =>
      simp only at h2
      rw [Res.bind, Res.d] at h2
      have np2 : noPk T ∨ (b.quiet && d.quiet) = true := by
        rcases np with n | n
        · exact .inl n
        · refine .inr ?_
          simp_all
      refine ⟨s2, _, w', np_b (a := b) hq2 np2, (h2.push _).imp fun t s3 h3 y H3 w4 => ?_⟩
      obtain ⟨r, hr, k, ek, h4⟩ := Res.ofO.mp h3
      cases z' : o'.sem u.toD t.toD with
      | none => rw [z'] at hr; cases hr
      | some k' =>
        rw [z'] at hr
        subst ek
        cases hr
        exact ⟨s3, T, σ, _, _, w4.is2 (hd_is b u) (hd_is d t), _, z', fun H' w' => hR _ _ (h4 H' w')⟩
theorem s_chn (g : Gd M X c) {o o' : C2} {a b d : E} {x y z : Expr} (ha : PE X x (tE M X.K W a)) (hb : PE X y (tE M X.K W b)) (hd : PE X z (tE M X.K W d)) (hq1 : (!a.isPk || (b.quiet && d.quiet)) = true) (hq2 : (!b.isPk || d.quiet) = true) (hm : lastMarks [o.op, o'.op] [y, z] = false) :
    PE X (.Compare x [o.op, o'.op] [y, z] pos) (tE M X.K W (.chn o o' a b d)) ∧ PT X (.Compare x [o.op, o'.op] [y, z] pos) (tT M X.K W (.chn o o' a b d)) := by
  have hu : X.A.units + 65 < cLine := by have := g.units; omega
  constructor
  · refine ⟨fun pins s σ H Q I hw => (pe_chain (op_c2 hu o) (op_c2 hu o') (tO_of ha) (tO_of hb) (tO_of hd) hm).run pins s σ H Q I ?_⟩
    obtain ⟨s', T, w, np, hr⟩ := hw
    exact chn_k hq1 hq2 w np (bl_end rfl hr (isB_chn hr)) (fun k H' h => h)
  · refine ⟨fun pins s σ H Q I hw => (pt_chain (op_c2 hu o) (op_c2 hu o') (tO_of ha) (tO_of hb) (tO_of hd) hm).run pins s σ H Q I ?_⟩
    obtain ⟨s', T, w, np, hr⟩ := hw
    exact chn_k hq1 hq2 w np hr (fun k H' h => ⟨k, rfl, h⟩)
end
end PV
end
section
set_option Elab.async false
set_option linter.all false
set_option maxRecDepth 100000
set_option maxHeartbeats 2000000
/-! PvK: and, or, not, if-else. -/
namespace PV
open PySem PySem.Spec PyProof.Rows L2
section
variable {M : SM} {X : Cx} {W : WX} {c : CC} {ast : Expr} {pos : Pos}
theorem tst_t {K : PySem.W.Frag} {a : E} {σ : L2.St} {H : Hp} {f g : Bool → Sl → R OV} {s : Sl} {T : List (Hd × V)} {P : OV → Sl → Prop} {h : OV → Sl → R OV}
    (hh : ∀ v s, h v s = match v with | .imm (.bool true) => f true s | .imm (.bool false) => g false s | _ => .bad)
    (np : noPk T ∨ a.quiet = true) (w : WI K s T σ H) (hr : Res M K W T σ P ((evE M.ft a s).bind h)) {Q : Bool → Hp → Prop}
    (hQ : ∀ k s' H', WI K s' T σ H' → Res M K W T σ P (if k then f true s' else g false s') → Q k H') : tT M K W a σ H Q := by
  refine ⟨s, T, w, np, (Res.bind.mp hr).imp fun v s1 h1 => ?_⟩
  rw [hh] at h1
  split at h1
  · exact ⟨true, rfl, fun H' w' => hQ true s1 H' w' h1⟩
  · exact ⟨false, rfl, fun H' w' => hQ false s1 H' w' h1⟩
  · exact h1.elim
/-- the same by value -/
theorem tst_e {K : PySem.W.Frag} {a : E} {σ : L2.St} {H : Hp} {f g : Bool → Sl → R OV} {s : Sl} {T : List (Hd × V)} {P : OV → Sl → Prop} {h : OV → Sl → R OV}
    (hh : ∀ v s, h v s = match v with | .imm (.bool true) => f true s | .imm (.bool false) => g false s | _ => .bad)
    (np : noPk T ∨ a.quiet = true) (w : WI K s T σ H) (hr : Res M K W T σ P ((evE M.ft a s).bind h)) {Q : VK}
    (hQ : ∀ k s' H', WI K s' T σ H' → Res M K W T σ P (if k then f true s' else g false s') → Q (.bl k) H') : tE M K W a σ H Q := by
  obtain ⟨s, T, w, np, hr⟩ := tB_of (tst_t hh np w hr (Q := fun k H' => Q (.bl k) H') hQ)
  exact ⟨s, T, w, np, hr.imp fun v s1 k x H' w' => by
    obtain ⟨b, rfl, q⟩ := k x H' w'
    exact q⟩
theorem pk_end {K : PySem.W.Frag} {s' : Sl} {T : List (Hd × V)} {σ : L2.St} {Q : VK} {e : E} {v : OV} (hp : e.isPk = false) (k : ∀ x H', WI K s' ((.ov v, x) :: T) σ H' → Q x H') :
    ∀ x H', WI K s' ((if e.isPk then .od v.toD else .ov v, x) :: T) σ H' → Q x H' := by
  rw [hp]
  exact k
theorem pk_beg {K : PySem.W.Frag} {s' : Sl} {T : List (Hd × V)} {σ : L2.St} {Q : VK} {e : E} {v : OV} (hp : e.isPk = false) (k : ∀ x H', WI K s' ((if e.isPk then .od v.toD else .ov v, x) :: T) σ H' → Q x H') :
    ∀ x H', WI K s' ((.ov v, x) :: T) σ H' → Q x H' := by
  rw [hp] at k
  exact k
theorem s_and {a b : E} {x y : Expr} {r : List Expr} (ha : PE X x (tE M X.K W a)) (hb : PE X (.BoolOp .And (y :: r) pos) (tE M X.K W b)) (p2 : b.isPk = false) :
    PE X (.BoolOp .And (x :: y :: r) pos) (tE M X.K W (.and_ a b)) := by
  refine ⟨fun pins s σ H Q I hw => (pe_and ha hb).run pins s σ H Q I ?_⟩
  obtain ⟨s', T, w, np, hr⟩ := hw
  simp only [evE] at hr
  refine tst_e (f := fun _ s => evE M.ft b s) (g := fun _ s => .ok (.imm (.bool false)) s) (by intro v s; rfl) (np_l np) w hr fun k s1 H1 w1 h1 => ⟨k, rfl, ?_⟩
  cases k with
  | true => exact ⟨s1, T, w1, np_r np, Res.imp h1 fun v s2 h2 => by rw [p2]; exact h2⟩
  | false => exact h1 _ _ (w1.scal fun _ => .bl false)
theorem s_andW {a b : E} {x y : Expr} {r : List Expr} (ha : PT X x (tT M X.K W a)) (hb : PW X (.BoolOp .And (y :: r) pos) (tT M X.K W b)) :
    PW X (.BoolOp .And (x :: y :: r) pos) (tT M X.K W (.and_ a b)) := by
  refine ⟨fun wh pins s σ H Q I hw => (pw_and ha hb).run wh pins s σ H Q I ?_⟩
  obtain ⟨s', T, w, np, hr⟩ := hw
  simp only [evE] at hr
  refine tst_t (f := fun _ s => evE M.ft b s) (g := fun _ s => .ok (.imm (.bool false)) s) (by intro v s; rfl) (np_l np) w hr fun k s1 H1 w1 h1 => ?_
  cases k with
  | true => exact ⟨s1, T, w1, np_r np, h1⟩
  | false =>
    obtain ⟨k, ek, h1⟩ := h1
    cases ek
    exact h1 _ w1
theorem or_h {f g : Sl → R OV} (v : OV) (s : Sl) : (match v with | .imm (.bool false) => g s | .imm (.bool true) => f s | _ => .bad) = (match v with | .imm (.bool true) => f s | .imm (.bool false) => g s | _ => .bad) := by
  cases v with
  | ol xs => rfl
  | imm d =>
    cases d <;> try rfl
    rename_i b
    cases b <;> rfl
theorem s_or {a b : E} {x y : Expr} {r : List Expr} (ha : PE X x (tE M X.K W a)) (hb : PE X (.BoolOp .Or (y :: r) pos) (tE M X.K W b)) (p2 : b.isPk = false) :
    PE X (.BoolOp .Or (x :: y :: r) pos) (tE M X.K W (.or_ a b)) := by
  refine ⟨fun pins s σ H Q I hw => (pe_or ha hb).run pins s σ H Q I ?_⟩
  obtain ⟨s', T, w, np, hr⟩ := hw
  simp only [evE] at hr
  refine tst_e (f := fun _ s => .ok (.imm (.bool true)) s) (g := fun _ s => evE M.ft b s) or_h (np_l np) w hr fun k s1 H1 w1 h1 => ⟨k, rfl, ?_⟩
  cases k with
  | false => exact ⟨s1, T, w1, np_r np, Res.imp h1 fun v s2 h2 => by rw [p2]; exact h2⟩
  | true => exact h1 _ _ (w1.scal fun _ => .bl true)
theorem s_orW {a b : E} {x y : Expr} {r : List Expr} (ha : PT X x (tT M X.K W a)) (hb : PW X (.BoolOp .Or (y :: r) pos) (tT M X.K W b)) :
    PW X (.BoolOp .Or (x :: y :: r) pos) (tT M X.K W (.or_ a b)) := by
  refine ⟨fun wh pins s σ H Q I hw => (pw_or ha hb).run wh pins s σ H Q I ?_⟩
  obtain ⟨s', T, w, np, hr⟩ := hw
  simp only [evE] at hr
  refine tst_t (f := fun _ s => .ok (.imm (.bool true)) s) (g := fun _ s => evE M.ft b s) or_h (np_l np) w hr fun k s1 H1 w1 h1 => ?_
  cases k with
  | false => exact ⟨s1, T, w1, np_r np, h1⟩
  | true =>
    obtain ⟨k, ek, h1⟩ := h1
    cases ek
    exact h1 _ w1
theorem not_h (v : OV) (s : Sl) : (match v with | .imm (.bool k) => R.ok (OV.imm (.bool (!k))) s | _ => .bad) = (match v with | .imm (.bool true) => R.ok (OV.imm (.bool false)) s | .imm (.bool false) => .ok (.imm (.bool true)) s | _ => .bad) := by
  cases v with
  | ol xs => rfl
  | imm d =>
    cases d <;> try rfl
    rename_i b
    cases b <;> rfl
theorem s_not {a : E} {x : Expr} (ha : PE X x (tE M X.K W a)) : PE X (.UnaryOp .Not x pos) (tE M X.K W (.not_ a)) := by
  refine ⟨fun pins s σ H Q I hw => (pe_not ha).run pins s σ H Q I ?_⟩
  obtain ⟨s', T, w, np, hr⟩ := hw
  simp only [evE] at hr
  refine tst_e (a := a) (f := fun _ s => .ok (.imm (.bool false)) s) (g := fun _ s => .ok (.imm (.bool true)) s) (h := fun x s1 => match x with | .imm (.bool k) => .ok (.imm (.bool (!k))) s1 | _ => .bad) not_h np w hr fun k s1 H1 w1 h1 => ⟨k, rfl, ?_⟩
  cases k
  · exact h1 _ _ (w1.scal fun _ => .bl _)
  · exact h1 _ _ (w1.scal fun _ => .bl _)
theorem s_notT {a : E} {x : Expr} (ha : PT X x (tT M X.K W a)) : PT X (.UnaryOp .Not x pos) (tT M X.K W (.not_ a)) := by
  refine ⟨fun pins s σ H Q I hw => (pt_not ha).run pins s σ H Q I ?_⟩
  obtain ⟨s', T, w, np, hr⟩ := hw
  simp only [evE] at hr
  refine ⟨s', T, w, np, (Res.bind.mp hr).imp fun v s1 h1 => ?_⟩
  split at h1
  · obtain ⟨k, ek, h1⟩ := h1
    cases ek
    exact ⟨_, rfl, fun H' w' => h1 _ w'⟩
  · exact h1.elim
theorem s_ite {d a b : E} {x y z : Expr} (hd : PT X x (tT M X.K W d)) (ha : PE X y (tE M X.K W a)) (hb : PE X z (tE M X.K W b)) (p1 : a.isPk = false) (p2 : b.isPk = false) :
    PE X (.IfExp x y z pos) (tE M X.K W (.ite d a b)) := by
  refine ⟨fun pins s σ H Q I hw => (pe_ifExp hd ha hb).run pins s σ H Q I ?_⟩
  obtain ⟨s', T, w, np, hr⟩ := hw
  simp only [evE] at hr
  refine tst_t (f := fun _ s => evE M.ft a s) (g := fun _ s => evE M.ft b s) (by intro v s; rfl) (np_l (np_l np)) w hr fun k s1 H1 w1 h1 => ?_
  cases k with
  | true => exact ⟨s1, T, w1, np_r (np_l np), Res.imp h1 fun v s2 h2 => by rw [p1]; exact h2⟩
  | false => exact ⟨s1, T, w1, np_r np, Res.imp h1 fun v s2 h2 => by rw [p2]; exact h2⟩
end
end PV
end
section
set_option Elab.async false
set_option linter.all false
set_option maxRecDepth 100000
set_option maxHeartbeats 2000000
/-! PvL: places, cuts, rows, isinstance. -/
namespace PV
open PySem PySem.Spec PyProof.Rows L2
section
variable {M : SM} {X : Cx} {W : WX} {c : CC} {ast : Expr} {pos : Pos}
theorem plain_ix {y : Expr} (h : isSlice y = false) : PlainIx y := by
  intro o i
  cases y <;> first | rfl | (simp [isSlice] at h)
theorem s_ix {a b : E} {x y : Expr} (ha : PE X x (tE M X.K W a)) (hb : PE X y (tE M X.K W b)) (hq : (!a.isPk || b.quiet) = true) (hs : isSlice y = false) : PE X (.Subscript x y pos) (tE M X.K W (.ix a b)) := by
  refine ⟨fun pins s σ H Q I hw => (pe_ix ix_pv (tO_of ha) (tO_of hb) (plain_ix hs)).run pins s σ H Q I ?_⟩
  obtain ⟨s', T, w, np, hr⟩ := hw
  simp only [evE] at hr
  rw [Res.bind, Res.d] at hr
  refine ⟨s', T, w, np_l np, hr.imp fun v s1 h1 p H1 w1 => ?_⟩
  rw [Res.bind, Res.d] at h1
  refine ⟨s1, _, w1, np_b hq np, (h1.push _).imp fun u s2 h2 q H2 w2 => ?_⟩
  obtain ⟨r, hr, h3⟩ := Res.ofO.mp h2
  cases z : ixD v.toD u.toD with
  | none => rw [z] at hr; cases hr
  | some e =>
    rw [z] at hr
    cases hr
    exact ⟨s2, T, σ, _, _, w2.is2 (hd_is a v) (hd_is b u), e, z, h3⟩
theorem s_ixk (g : Gd M X c) {i : Nat} {b : E} {x : Str} {y : Expr} {p2 : Pos} (hx : nameB c i x = true) (hb : PE X y (tE M X.K W b)) (hs : isSlice y = false) : PE X (.Subscript (.Name x p2) y pos) (tE M X.K W (.ixk i b)) := by
  refine ⟨fun pins s σ H Q I hw => (pe_ix ix_list (nm_var g hx) (tO_of hb) (plain_ix hs)).run pins s σ H Q I ?_⟩
  obtain ⟨s', T, w, np, hr⟩ := hw
  simp only [evE] at hr
  cases e0 : at_ s' i with
  | none => rw [e0] at hr; exact hr.elim
  | some ov0 =>
    rw [e0] at hr
    obtain ⟨v0, hv0⟩ := w.atS e0
    have hr := Res.d.mp (Res.bind.mp hr)
    refine ⟨v0, hv0, s', T, w, np, hr.imp fun v s1 h1 p H1 w1 => ?_⟩
    have dq := (w1.is1 (hd_is b v)).rd
    cases e1 : v.toD <;> rw [e1] at h1 dq <;> try exact h1.elim
    rename_i k
    cases e2 : at_ s1 i with
    | none => rw [e2] at h1; exact h1.elim
    | some ov =>
      rw [e2] at h1
      cases ov with
      | imm d => exact h1.elim
      | ol xs =>
        simp only at h1
        cases e3 : L2.atI xs k with
        | none => rw [e3] at h1; exact h1.elim
        | some o =>
          rw [e3] at h1
          obtain ⟨d', hd', h2⟩ := Res.ofO.mp h1
          cases es : o.shal with
          | none => rw [es] at hd'; cases hd'
          | some d =>
            rw [es] at hd'
            cases hd'
            have w2 := w1.drop
            unfold L2.atI at e3
            cases e4 : L2.ixN xs.length k with
            | none => rw [e4] at e3; cases e3
            | some j =>
              rw [e4] at e3
              obtain ⟨p', vs, z, q1, q2, q3, q4, w3⟩ := w2.pkAt e2 (show xs[j]? = some o from e3) es
              rw [hv0] at q1
              cases q1
              refine ⟨p', vs, k, z, rfl, dq.int', .inl (.inl q2), ?_, h2 z H1 w3⟩
              unfold L2.atI
              rw [q3, e4]
              exact q4
/-! cuts -/
def tI (M : SM) (K : PySem.W.Frag) (W : WX) (o : Option E) : TO := fun σ H Q => ∃ s T, WI K s T σ H ∧ (noPk T ∨ E.quietO o = true) ∧
  Res M K W T σ (fun v s' => ∀ H', WI K s' T σ H' → Q v H') (evI M.ft o s)
theorem s_part {e : E} {x : Expr} (he : PE X x (tE M X.K W e)) : PO X (some x) (tI M X.K W (some e)) := by
  refine ⟨fun pins s σ H Q I hw => (po_some (tO_of he)).run pins s σ H Q I ?_⟩
  obtain ⟨s', T, w, np, hr⟩ := hw
  simp only [evI] at hr
  have hr := Res.d.mp (Res.bind.mp hr)
  refine ⟨s', T, w, np, hr.imp fun v s1 h1 p H1 w1 => ?_⟩
  have dq := (w1.is1 (hd_is e v)).rd
  cases e1 : v.toD <;> rw [e1] at h1 dq <;> try exact h1.elim
  exact ⟨_, dq.int', h1 _ w1.drop⟩
theorem s_nopart : PO X none (tI M X.K W none) := by
  refine ⟨fun pins s σ H Q I hw => po_none.run pins s σ H Q I ?_⟩
  obtain ⟨s', T, w, np, hr⟩ := hw
  exact hr H w
theorem s_slc {a : E} {lo hi : Option E} {x : Expr} {l u : Option Expr} {p2 : Pos} (ha : PE X x (tE M X.K W a)) (hl : PO X l (tI M X.K W lo)) (hu : PO X u (tI M X.K W hi)) (hq : (!a.isPk || (E.quietO lo && E.quietO hi)) = true) :
    PE X (.Subscript x (.Slice l u none p2) pos) (tE M X.K W (.slc a lo hi)) := by
  refine ⟨fun pins s σ H Q I hw => (pe_slice sl_pv (tO_of ha) hl hu).run pins s σ H Q I ?_⟩
  obtain ⟨s', T, w, np, hr⟩ := hw
  simp only [evE] at hr
  rw [Res.bind, Res.d] at hr
  have np : noPk T ∨ (a.quiet && E.quietO lo && E.quietO hi) = true := np
  have nn : ∀ {v : OV} {p : V}, noPk ((hd a v, p) :: T) ∨ (E.quietO lo = true ∧ E.quietO hi = true) := fun {v p} => by
    rcases np with n | n
    · cases hp : a.isPk with
      | false => exact .inl (hd_np hp n)
      | true =>
        rw [hp] at hq
        exact .inr (by simpa using hq)
    · exact .inr (by simp at n; exact ⟨n.1.2, n.2⟩)
  refine ⟨s', T, w, np_l (np_l np), hr.imp fun v s1 h1 p H1 w1 => ?_⟩
  rw [Res.bind] at h1
  refine ⟨s1, _, w1, nn.imp_right And.left, (h1.push _).imp fun o1 s2 h2 H2 w2 => ?_⟩
  rw [Res.bind] at h2
  refine ⟨s2, _, w2, nn.imp_right And.right, (h2.push _).imp fun o2 s3 h3 H3 w3 => ?_⟩
  obtain ⟨r, hr, h4⟩ := Res.ofO.mp h3
  exact ⟨s3, T, σ, _, w3.is1 (hd_is a v), r, hr, h4⟩
end
end PV
end
section
set_option Elab.async false
set_option linter.all false
set_option maxRecDepth 100000
set_option maxHeartbeats 2000000
/-! PvM: rows, built-ins. -/
namespace PV
open PySem PySem.Spec PyProof.Rows L2
theorem boot_all (b : BI) : (match b with
  | .int => bootBuiltins b.nm = some (.type "int")
  | .tuple | .trange => bootBuiltins b.nm = some (.type "tuple")
  | .list | .lrange => bootBuiltins b.nm = some (.type "list")
  | .len => bootBuiltins b.nm = some (.builtin "len")
  | .abs => bootBuiltins b.nm = some (.builtin "abs")
  | .min => bootBuiltins b.nm = some (.builtin "min")
  | .max => bootBuiltins b.nm = some (.builtin "max")
  | .sum => bootBuiltins b.nm = some (.builtin "sum")
  | .sorted => bootBuiltins b.nm = some (.builtin "sorted")
  | .repr => bootBuiltins b.nm = some (.builtin "repr")
  | .all => bootBuiltins b.nm = some (.builtin "all")
  | .any => bootBuiltins b.nm = some (.builtin "any")) := by
  cases b <;> decide +kernel

section
variable {M : SM} {X : Cx} {W : WX} {c : CC} {ast : Expr} {pos : Pos}
/-! ### rows -/
def hdL : List E → List D → List V → List (Hd × V)
  | e :: es, d :: ds, x :: xs => (if e.isPk then .od d else .ov (.imm d), x) :: hdL es ds xs
  | _, _, _ => []
def tDs (M : SM) (K : PySem.W.Frag) (W : WX) (es : List E) : TA := fun σ H Q => ∃ s T, WI K s T σ H ∧ (noPk T ∨ E.quietA es = true) ∧
  Res M K W T σ (fun ds s' => ∀ xs H', xs.length = es.length → ds.length = es.length → WI K s' (hdL es ds xs ++ T) σ H' → Q xs H') (evDs M.ft es s)
theorem s_dsNil : PA X [] (tDs M X.K W []) := by
  refine ⟨fun pos pins s σ H Q I hw => pa_nil.run pos pins s σ H Q I ?_⟩
  obtain ⟨s', T, w, np, hr⟩ := hw
  exact hr [] H rfl rfl w
theorem s_dsCons {e : E} {es : List E} {x : Expr} {xs : List Expr} (he : PE X x (tE M X.K W e)) (hr : PA X xs (tDs M X.K W es)) (st : isStar x = false) (hq : (!e.isPk || E.quietA es) = true) : PA X (x :: xs) (tDs M X.K W (e :: es)) := by
  refine ⟨fun pos pins s σ H Q I hw => (pa_cons (tO_of he) hr (starEach_no st)).run pos pins s σ H Q I ?_⟩
  obtain ⟨s', T, w, np, hr⟩ := hw
  simp only [evDs] at hr
  rw [Res.bind] at hr
  refine ⟨s', T, w, np_l np, hr.imp fun v s1 h1 p H1 w1 => ?_⟩
  rw [Res.bind] at h1
  have n1 : noPk ((hd e v, p) :: T) ∨ E.quietA es = true := by
    cases hb : E.quietA es with
    | true => exact .inr rfl
    | false =>
      have np : noPk T ∨ (e.quiet && E.quietA es) = true := np
      rw [hb] at hq np
      simp at hq np
      exact .inl (hd_np hq np)
  refine ⟨s1, _, w1, n1, (h1.push _).imp fun ds s2 h2 ps H2 l1 l2 w2 => ?_⟩
  refine h2 (p :: ps) H2 (by rw [List.length_cons, List.length_cons, l1]) (by rw [List.length_cons, List.length_cons, l2]) ?_
  exact w2.perm List.perm_middle
/-- owned items -/
def tEs (M : SM) (K : PySem.W.Frag) (W : WX) (es : List E) : TA := fun σ H Q => ∃ s T, WI K s T σ H ∧ (noPk T ∨ E.quietA es = true) ∧
  Res M K W T σ (fun vs s' => ∀ xs H', xs.length = es.length → vs.length = es.length → WI K s' (zipH vs xs ++ T) σ H' → Q xs H') (evEs M.ft es s)
theorem s_esNil : PA X [] (tEs M X.K W []) := by
  refine ⟨fun pos pins s σ H Q I hw => pa_nil.run pos pins s σ H Q I ?_⟩
  obtain ⟨s', T, w, np, hr⟩ := hw
  exact hr [] H rfl rfl w
theorem s_esCons {e : E} {es : List E} {x : Expr} {xs : List Expr} (he : PE X x (tE M X.K W e)) (hr : PA X xs (tEs M X.K W es)) (st : isStar x = false) (hp : e.isPk = false) : PA X (x :: xs) (tEs M X.K W (e :: es)) := by
  refine ⟨fun pos pins s σ H Q I hw => (pa_cons he hr (starEach_no st)).run pos pins s σ H Q I ?_⟩
  obtain ⟨s', T, w, np, hr⟩ := hw
  simp only [evEs] at hr
  rw [Res.bind] at hr
  refine ⟨s', T, w, np_l np, hr.imp fun v s1 h1 p H1 w1 => ?_⟩
  rw [Res.bind] at h1
  rw [hp] at w1
  refine ⟨s1, _, w1, np_r np, (h1.push _).imp fun ds s2 h2 ps H2 l1 l2 w2 => ?_⟩
  refine h2 (p :: ps) H2 (by rw [List.length_cons, List.length_cons, l1]) (by rw [List.length_cons, List.length_cons, l2]) ?_
  exact w2.perm List.perm_middle
theorem k1000 : 1000 ≤ sizeLine := by rw [sizeLine_eq]; decide
theorem s_lst {es : List E} {as : List Expr} (hl : es.length ≤ 1000) (h : PA X as (tEs M X.K W es)) : PE X (.List as pos) (tE M X.K W (.lst es)) := by
  refine ⟨fun pins s σ H Q I hw => (pe_lst h).run pins s σ H Q I ?_⟩
  obtain ⟨s', T, w, np, hr⟩ := hw
  simp only [evE] at hr
  rw [Res.bind] at hr
  refine ⟨s', T, w, np, hr.imp fun vs s1 h1 ps H1 l1 l2 w1 => ⟨by have := k1000; omega, fun p hp => ?_⟩⟩
  exact h1 _ _ (w1.newLst hp (by omega))
/-- a row of written items -/
def tTupO (t : TA) : TE := fun σ H Q => t σ H fun xs H1 => xs.length ≤ sizeLine ∧ ∀ p o, TOk o → H1 p = none → Q (.ref p) (upd H1 p (.frz o (.tup xs)))
theorem pe_tupO {es : List Expr} {t : TA} {x1} (h : PA X es t) : PE X (.Tuple es x1 pos) (tTupO t) := by
  refine ⟨fun pins s σ H Q I hq => ?_⟩
  refine wpAny_Tuple_spliced (thn (h.run pos pins s σ H _ I hq) fun us s1 ⟨xs, H1, I1, r, z, q⟩ => ⟨by rw [← r.length]; exact z, ?_⟩)
  exact laidT I1 (fun _ _ e => e) z r q
theorem hdL_zip : ∀ {es : List E} {ds : List D} {xs : List V}, (∀ e ∈ es, e.isPk = false) → ds.length = es.length → xs.length = es.length → hdL es ds xs = zipH (ds.map .imm) xs
  | [], [], [], _, _, _ => rfl
  | [], _ :: _, _, _, h, _ => by cases h
  | [], [], _ :: _, _, _, h => by cases h
  | e :: es, d :: ds, x :: xs, hp, l1, l2 => by
    show (if e.isPk then Hd.od d else .ov (.imm d), x) :: hdL es ds xs = (Hd.ov (.imm d), x) :: zipH (ds.map .imm) xs
    rw [hp e (by simp), hdL_zip (fun e he => hp e (by simp [he])) (by simpa using l1) (by simpa using l2)]
    rfl
  | _ :: _, [], _, _, h, _ => by cases h
  | _ :: _, _ :: _, [], _, _, h => by cases h
theorem s_tup {es : List E} {as : List Expr} {x1} (hl : es.length ≤ 1000) (hp : ∀ e ∈ es, e.isPk = false) (h : PA X as (tDs M X.K W es)) : PE X (.Tuple as x1 pos) (tE M X.K W (.tup es)) := by
  refine ⟨fun pins s σ H Q I hw => (pe_tupO h).run pins s σ H Q I ?_⟩
  obtain ⟨s', T, w, np, hr⟩ := hw
  simp only [evE] at hr
  rw [Res.bind] at hr
  refine ⟨s', T, w, np, hr.imp fun vs s1 h1 ps H1 l1 l2 w1 => ⟨by have := k1000; omega, fun p o ho hp' => ?_⟩⟩
  rw [hdL_zip hp l2 l1] at w1
  exact h1 _ _ (w1.newTup ho hp' (by omega))

/-! ### built-ins -/
theorem hd_od {e : E} {d : D} : Is (if e.isPk then Hd.od d else .ov (.imm d)) d := by
  split
  · exact .inl rfl
  · exact .inr rfl
theorem s_blt1 {b : BI} {f : Value} {e : E} {as : List Expr} {x : Str} {p2 : Pos} (hc : CallR X f (rB1 X.K b)) (hp : ∀ {t : TA}, PA X as t → PE X (.Call (.Name x p2) as [] pos) (tCB (rB1 X.K b) t)) (h : PA X as (tDs M X.K W [e])) :
    PE X (.Call (.Name x p2) as [] pos) (tE M X.K W (.blt b [e])) := by
  refine ⟨fun pins s σ H Q I hw => (hp h).run pins s σ H Q I ?_⟩
  obtain ⟨s', T, w, np, hr⟩ := hw
  simp only [evE] at hr
  rw [Res.bind] at hr
  refine ⟨s', T, w, np, hr.imp fun ds s1 h1 ps H1 l1 l2 w1 => ?_⟩
  match ds, ps, l1, l2, w1, h1 with
  | [d], [p], _, _, w1, h1 =>
    obtain ⟨v, hv, h2⟩ := Res.ofO.mp h1
    exact ⟨s1, T, σ, d, p, rfl, w1.is1 hd_od, v, hv, h2⟩
theorem s_blt2 {b : BI} {f : Value} {e e' : E} {as : List Expr} {x : Str} {p2 : Pos} (hc : CallR X f (rB2 X.K b)) (hp : ∀ {t : TA}, PA X as t → PE X (.Call (.Name x p2) as [] pos) (tCB (rB2 X.K b) t)) (h : PA X as (tDs M X.K W [e, e'])) :
    PE X (.Call (.Name x p2) as [] pos) (tE M X.K W (.blt b [e, e'])) := by
  refine ⟨fun pins s σ H Q I hw => (hp h).run pins s σ H Q I ?_⟩
  obtain ⟨s', T, w, np, hr⟩ := hw
  simp only [evE] at hr
  rw [Res.bind] at hr
  refine ⟨s', T, w, np, hr.imp fun ds s1 h1 ps H1 l1 l2 w1 => ?_⟩
  match ds, ps, l1, l2, w1, h1 with
  | [d, d'], [p, p'], _, _, w1, h1 =>
    obtain ⟨v, hv, h2⟩ := Res.ofO.mp h1
    have w2 : WI X.K s1 (_ :: _ :: T) σ H1 := w1
    exact ⟨s1, T, σ, d, d', p, p', rfl, w2.swap.is2 hd_od hd_od, v, hv, h2⟩
theorem b_nms (b : BI) : b.nm ≠ "__name__" ∧ (b.nm == ("__debug__" : Str)) = false := by cases b <;> decide +kernel
theorem call_b {f : Value} {b : BI} {r : List V → Hp → VK → Prop} {x : Str} {a : Expr} {as : List Expr} {p2 : Pos} (g : Gd M X c) (hx : x = b.nm) (hgl : glB c x = true) (st : isStar a = false) (sts : as.any isStar = false)
    (hf : (∃ id, f = .builtin id) ∨ ∃ T, f = .type T) (hb : bootBuiltins b.nm = some f) (hc : CallR X f r) {t : TA} (ha : PA X (a :: as) t) : PE X (.Call (.Name x p2) (a :: as) [] pos) (tCB r t) := by
  subst hx
  obtain ⟨h1, h2, h3⟩ := gl_of g hgl
  rcases hf with ⟨id, rfl⟩ | ⟨T, rfl⟩
  · exact pe_callB hc h1 (g.blt b) hb ha h3 h2 (starEach_no st) (back_no sts)
  · exact pe_callTy hc h1 (g.blt b) hb ha h3 h2 (starEach_no st) (back_no sts)
theorem s_blt (g : Gd M X c) {b : BI} {es : List E} {as : List Expr} {x : Str} {p2 : Pos} (hx : x = b.nm) (hgl : glB c x = true) (sts : as.any isStar = false) (ok : bOk b es.length = true) (hl : as.length = es.length) (h : PA X as (tDs M X.K W es)) :
    PE X (.Call (.Name x p2) as [] pos) (tE M X.K W (.blt b es)) := by
  have bo := boot_all b
  match es, as, hl, h, sts, ok with
  | [e], [a], _, h, sts, ok =>
    have st : isStar a = false := by simpa using sts
    have go : ∀ f, ((∃ id, f = .builtin id) ∨ ∃ T, f = Value.type T) → bootBuiltins b.nm = some f → CallR X f (rB1 X.K b) → PE X (.Call (.Name x p2) [a] [] pos) (tE M X.K W (.blt b [e])) :=
      fun f hf hb hc => s_blt1 hc (fun ha => call_b g hx hgl st rfl hf hb hc ha) h
    have hu : X.A.units + 70 < cLine := by have := g.units; omega
    cases b <;> simp only [bOk] at ok <;> try contradiction
    · exact go _ (.inl ⟨_, rfl⟩) bo b_len
    · exact go _ (.inr ⟨_, rfl⟩) bo b_int
    · exact go _ (.inl ⟨_, rfl⟩) bo b_abs
    · exact go _ (.inl ⟨_, rfl⟩) bo (b_min1 g.calm hu)
    · exact go _ (.inl ⟨_, rfl⟩) bo (b_max1 g.calm hu)
    · exact go _ (.inl ⟨_, rfl⟩) bo (b_sum g.calm)
    · exact go _ (.inl ⟨_, rfl⟩) bo (b_sorted hu)
    · exact go _ (.inr ⟨_, rfl⟩) bo b_tuple
    · exact go _ (.inr ⟨_, rfl⟩) bo b_list
    · exact go _ (.inl ⟨_, rfl⟩) bo (b_repr hu g.grd)
    · exact go _ (.inl ⟨_, rfl⟩) bo (b_all g.calm)
    · exact go _ (.inl ⟨_, rfl⟩) bo (b_any g.calm)
  | [e, e'], [a, a'], _, h, sts, ok =>
    have st : isStar a = false ∧ isStar a' = false := by simpa using sts
    have go : ∀ f, ((∃ id, f = .builtin id) ∨ ∃ T, f = Value.type T) → bootBuiltins b.nm = some f → CallR X f (rB2 X.K b) → PE X (.Call (.Name x p2) [a, a'] [] pos) (tE M X.K W (.blt b [e, e'])) :=
      fun f hf hb hc => s_blt2 hc (fun ha => call_b g hx hgl st.1 (by simpa using st.2) hf hb hc ha) h
    cases b <;> simp only [bOk, List.length_cons, List.length_nil] at ok <;> try contradiction
    · exact go _ (.inl ⟨_, rfl⟩) bo (b_min2 g.calm)
    · exact go _ (.inl ⟨_, rfl⟩) bo (b_max2 g.calm)
  | [], _, _, _, _, ok => cases b <;> simp [bOk] at ok
  | _ :: _ :: _ :: _, _, _, _, _, ok => cases b <;> simp [bOk] at ok
end
end PV
end
section
set_option Elab.async false
set_option linter.all false
set_option maxRecDepth 100000
set_option maxHeartbeats 2000000
/-! PvN: isinstance, methods of rows. -/
namespace PV
open PySem PySem.Spec PyProof.Rows L2
section
variable {M : SM} {X : Cx} {W : WX} {c : CC} {ast : Expr} {pos : Pos}
theorem ty_facts (t : Ty) : bootBuiltins t.x = some (.type t.nm) ∧ t.x ≠ "__name__" ∧ (t.x == ("__debug__" : Str)) = false := by cases t <;> decide +kernel
theorem s_ty (g : Gd M X c) {t : Ty} {z : Str} {p2 : Pos} (hz : z = t.x) (hgl : glB c z = true) : PE X (.Name z p2) (tC (.ty t.nm)) := by
  subst hz
  obtain ⟨h1, h2, h3⟩ := gl_of g hgl
  obtain ⟨b1, b2, b3⟩ := ty_facts t
  exact pe_bltn h1 (g.tys t) b1 rfl b2 b3
def tTys (ts : List Ty) : TA := fun _ H Q => Q (ts.map fun t => .ty t.nm) H
theorem s_tys (g : Gd M X c) : ∀ {ts : List Ty} {as : List Expr}, tysB c ts as = true → PA X as (tTys ts)
  | [], [], _ => pa_nil
  | t :: ts, a :: as, h => by
    cases a <;> simp only [tysB, Bool.and_eq_true, decide_eq_true_eq] at h <;> try contradiction
    refine ⟨fun pos pins s σ H Q I hw => (pa_cons (s_ty g h.1.1 h.1.2) (s_tys g h.2) (starEach_no rfl)).run pos pins s σ H Q I hw⟩
  | [], _ :: _, h => by simp [tysB] at h
  | _ :: _, [], h => by simp [tysB] at h
theorem cls_all (ts : List Ty) : Paired ClsV (ts.map fun t => V.ty t.nm) (ts.map fun t => Value.type t.nm) := by
  induction ts with
  | nil => exact .nil
  | cons t ts ih => exact .cons (.ty _) ih
theorem boot_isi : bootBuiltins "isinstance" = some (.builtin "isinstance") := by decide +kernel
theorem s_isi1 (g : Gd M X c) {a : E} {t : Ty} {y z : Expr} {x : Str} {p2 : Pos} (hx : x = "isinstance") (hgl : glB c x = true) (ha : PE X y (tE M X.K W a)) (st : isStar y = false) (hz : PE X z (tC (.ty t.nm))) (st2 : isStar z = false) :
    PE X (.Call (.Name x p2) [y, z] [] pos) (tE M X.K W (.isi a [t])) := by
  subst hx
  obtain ⟨h1, h2, h3⟩ := gl_of g hgl
  refine ⟨fun pins s σ H Q I hw => (pe_callB call_isi h1 g.isi boot_isi (pa_cons (tO_of ha) (pa_cons hz pa_nil (starEach_no st2)) (starEach_no st)) h3 h2 (starEach_no st) (back_no (by simpa using st2))).run pins s σ H Q I ?_⟩
  obtain ⟨s', T, w, np, hr⟩ := hw
  simp only [evE] at hr
  rw [Res.bind, Res.d] at hr
  refine ⟨s', T, w, np, hr.imp fun v s1 k p H1 w1 => ?_⟩
  cases hn : noDictB v.toD with
  | true =>
    rw [hn, if_pos rfl] at k
    have e := kit_any (K := X.K) hn [t]
    refine ⟨p, _, _, _, _, rfl, .ty _, ty_of hn (w1.is1 (hd_is a v)).rd, kit_has t hn, ?_⟩
    have k := k (.bl (t.has v.toD)) H1
    simp only [List.any_cons, List.any_nil, Bool.or_false] at k
    exact k (w1.drop.scal fun _ => .bl _)
  | false =>
    rw [hn, if_neg (by simp)] at k
    exact k.elim
theorem s_isiT (g : Gd M X c) {a : E} {ts : List Ty} {as : List Expr} {y : Expr} {x : Str} {x1} {p2 p3 : Pos} (hx : x = "isinstance") (hgl : glB c x = true) (ha : PE X y (tE M X.K W a)) (st : isStar y = false) (hz : PA X as (tTys ts)) (hl : ts.length ≤ 5) :
    PE X (.Call (.Name x p2) [y, .Tuple as x1 p3] [] pos) (tE M X.K W (.isi a ts)) := by
  subst hx
  obtain ⟨h1, h2, h3⟩ := gl_of g hgl
  refine ⟨fun pins s σ H Q I hw => (pe_callB call_isiT h1 g.isi boot_isi (pa_cons (tO_of ha) (pa_cons (pe_tup hz) pa_nil (starEach_no rfl)) (starEach_no st)) h3 h2 (starEach_no st) rfl).run pins s σ H Q I ?_⟩
  obtain ⟨s', T, w, np, hr⟩ := hw
  simp only [evE] at hr
  rw [Res.bind, Res.d] at hr
  refine ⟨s', T, w, np, hr.imp fun v s1 k p H1 w1 => ?_⟩
  cases hn : noDictB v.toD with
  | true =>
    rw [hn, if_pos rfl] at k
    refine ⟨by have := k1000; rw [List.length_map]; omega, fun tp htp => ?_⟩
    have w2 := (w1.is1 (hd_is a v)).newRaw (o := .tup (ts.map fun t => .ty t.nm)) htp
    refine ⟨p, tp, _, _, _, _, rfl, upd_same, cls_all ts, ty_of hn w2.drop.rd, kit_any hn ts, ?_⟩
    exact k _ _ (w2.drop.drop.scal fun _ => .bl _)
  | false =>
    rw [hn, if_neg (by simp)] at k
    exact k.elim

theorem Res.and {α : Type} {K : PySem.W.Frag} {T : List (Hd × V)} {σ : L2.St} {P P' : α → Sl → Prop} {r : R α} (h : Res M K W T σ P r) (k : Res M K W T σ P' r) : Res M K W T σ (fun a s => P a s ∧ P' a s) r := by
  cases r
  · exact ⟨h, k⟩
  · exact h
  · exact h
/-! ### methods of rows -/
theorem dq_ty {pins : List (Addr × Obj)} {σ : L2.St} {H : Hp} {s : Shared} {d : D} {ds : List D} {x : V} {v : Value} (I : Inv X pins σ H s) (r : RelV x v) (h : Dq X.K H x d) (T : String) (hd : (T = "list" ∧ d = .list ds) ∨ (T = "tuple" ∧ d = .tuple ds)) :
    s.TypeIs v T ∧ ∀ a, v = .ref a → ∃ ob, s.heap.get? a = some ob ∧ ob.dict = none := by
  rcases hd with ⟨rfl, rfl⟩ | ⟨rfl, rfl⟩
  · cases h with
    | lst a b =>
      cases r
      obtain ⟨z, its, n, r2, e2⟩ := Rd.obj I a
      exact ⟨⟨_, e2.2, rfl⟩, fun _ e => by cases e; exact ⟨_, e2.2, rfl⟩⟩
  · cases h with
    | tup a b =>
      cases r
      rcases a with ⟨o, e, t⟩ | ⟨o, its, n, e, t, _⟩
      · obtain ⟨e2, _⟩ := I.hok _ _ e
        exact ⟨⟨_, e2, t.1⟩, fun _ e => by cases e; exact ⟨_, e2, t.2⟩⟩
      · exact ⟨⟨_, I.kIn _ _ e, t.1⟩, fun _ e' => by cases e'; exact ⟨_, I.kIn _ _ e, t.2⟩⟩
/-- which builtin a method is -/
def ME.id : ME → Bool → String
  | .index, true => "list.index"
  | .index, false => "tuple.index"
  | .count, true => "list.count"
  | .count, false => "tuple.count"
def rMT (K : PySem.W.Frag) (r : V → List V → Hp → VK → Prop) (lt : Bool) : V → List V → Hp → VK → Prop := fun x xs H Q => (∃ ds, Dq K H x (if lt then .list ds else .tuple ds)) ∧ r x xs H Q
theorem base_of {o : Expr} {nm : Str} {env : Env} {w : Sem Value} (h : isCall0 o = false) : attributeBase o nm env w = w := by
  unfold attributeBase
  split
  · simp [isCall0] at h
  · rfl
theorem s_meth {m : ME} {nm : Str} {a e : E} {o y : Expr} {apos : Pos} (h1 : MtR X (m.id true) (rMT X.K (rME X.K m) true)) (h2 : MtR X (m.id false) (rMT X.K (rME X.K m) false))
    (sl : Slot "list" nm (m.id true)) (st : Slot "tuple" nm (m.id false)) (ha : PE X o (tE M X.K W a)) (he : PE X y (tE M X.K W e)) (hq : (!a.isPk || e.quiet) = true) (hb : isCall0 o = false) (hy : isStar y = false) (hline : (apos.endLine == pos.line) = true) :
    PE X (.Call (.Attribute o nm apos) [y] [] pos) (tE M X.K W (.meth m a [e])) := by
  refine ⟨fun pins s σ H Q I hw => ?_⟩
  obtain ⟨s', T, w, np, hr⟩ := hw
  simp only [evE, evDs] at hr
  rw [Res.bind, Res.d] at hr
  have np : noPk T ∨ (a.quiet && (e.quiet && true)) = true := np
  rw [Bool.and_true] at np
  have hfew : ((backTo pos (starEach [y] X.env)).all (fun x => !x.1) && (backToKw pos (keywordEach [] X.env)).all (fun x => x.1.isSome)
      && decide (([y] : List Expr).length + ([] : List Keyword).length + (if ([] : List Keyword).isEmpty then 0 else 1) < 30)) = true := by
    rw [starEach_no hy]
    rfl
  refine wpAny_Call_method_late (base_of hb) hfew hline rfl (thn ((tO_of ha).run pins s σ H (fun x H1 => ∃ s1 v, WI X.K s1 ((hd a v, x) :: T) σ H1 ∧ ∃ ds, seqOf v.toD = some ds ∧
    Res M X.K W T σ (fun u s2 => ∀ r, m.sem v.toD [u.toD] = some r → ∀ x' H', WI X.K s2 ((.ov r, x') :: T) σ H' → Q x' H') (evE M.ft e s1) ∧ Res M X.K W T σ (fun u s2 => ∃ r, m.sem v.toD [u.toD] = some r) (evE M.ft e s1)) I
      ⟨s', T, w, np_l np, hr.imp fun v s1 k x H' w1 => ⟨s1, v, w1, ?_⟩⟩) fun v s1 ⟨x, H1, I1, r1, s2, ov, w1, ds, hds, k, kk⟩ => ?_)
  · cases hds : seqOf v.toD with
    | none => rw [hds] at k; exact k.elim
    | some ds =>
      rw [hds] at k
      refine ⟨ds, rfl, ?_, ?_⟩
      · have k := Res.bind.mp k
        have k := Res.bind.mp k
        refine k.imp fun u s2 k2 r hr => ?_
        have k2 : Res M X.K W T σ _ (R.ofO (m.sem v.toD [u.toD]) s2) := k2
        obtain ⟨r', hr', k3⟩ := Res.ofO.mp k2
        rw [hr] at hr'
        cases hr'
        exact k3
      · have k := Res.bind.mp k
        have k := Res.bind.mp k
        refine k.imp fun u s2 k2 => ?_
        have k2 : Res M X.K W T σ _ (R.ofO (m.sem v.toD [u.toD]) s2) := k2
        obtain ⟨r', hr', k3⟩ := Res.ofO.mp k2
        exact ⟨r', hr'⟩
  -- a row
  have key : ∀ (lt : Bool) ds, ov.toD = (if lt then .list ds else .tuple ds) → Slot (if lt then "list" else "tuple") nm (m.id lt) → MtR X (m.id lt) (rMT X.K (rME X.K m) lt) → PlainAttrs (if lt then "list" else "tuple") → typeOf (.builtin (m.id lt)) = pure (.type "method_descriptor") →
      MethodOn X.prog X.w X.A nm pos v (backTo pos (starEach [y] X.env)) (EP X pins σ Q) X.xe s1 := by
    intro lt ds hdd slt hm pa hty
    have dq : Dq X.K H1 x ov.toD := (w1.is1 (hd_is a ov)).rd
    obtain ⟨t1, t2⟩ := dq_ty I1 r1 dq (if lt then "list" else "tuple") (ds := ds) (by cases lt <;> simp [hdd])
    refine ⟨_, m.id lt, pa, slt, hty, t1, t2, ?_⟩
    have hA := (pa_cons (tO_of he) pa_nil (starEach_no hy)).run pos pins s1 σ H1 (fun xs H2 => rMT X.K (rME X.K m) lt x xs H2 Q) I1
      ⟨s2, _, w1, np_b hq np, ((Res.and k kk).push _).imp fun u s3 k2 y' H2 w2 => ?_⟩
    · rw [starEach_no hy] at hA ⊢
      refine Calls.callWith_builtin rfl (Calls.evalArgs_plain ?_)
      exact thn hA fun us s4 ⟨vs, H4, I4, r4, q4⟩ => hm pins s4 σ H4 x vs v us Q I4 r1 r4 q4
    · refine ⟨⟨ds, ?_⟩, ?_⟩
      · rw [← hdd]
        exact (w2.swap.is1 (hd_is a ov)).rd
      · obtain ⟨k2, r, hr⟩ := k2
        exact ⟨s3, T, σ, _, _, y', rfl, w2.is2 (hd_is a ov) (hd_is e u), r, hr, k2 r hr⟩
  cases hd1 : ov.toD with
  | list es => exact key true es hd1 sl h1 PySem.F.plainAttrs_list (by cases m <;> rfl)
  | tuple es => exact key false es hd1 st h2 PySem.F.plainAttrs_tuple (by cases m <;> rfl)
  | _ => rw [hd1] at hds; cases hds
end
end PV
end
section
set_option Elab.async false
set_option linter.all false
set_option maxRecDepth 100000
set_option maxHeartbeats 2000000
/-! PvO: targets; what is walked. -/
namespace PV
open PySem PySem.Spec PyProof.Rows L2
/-- only these slots are stored -/
def Fr (ks : List Nat) (σ σ' : L2.St) : Prop := ∀ j, j ∉ ks → σ'[j]? = σ[j]?
theorem Fr.refl {ks : List Nat} {σ : L2.St} : Fr ks σ σ := fun _ _ => rfl
theorem Fr.trans {ks : List Nat} {a b c : L2.St} (h : Fr ks a b) (g : Fr ks b c) : Fr ks a c := fun j hj => (g j hj).trans (h j hj)
theorem Fr.mono {ks ls : List Nat} {a b : L2.St} (h : Fr ks a b) (k : ∀ j ∈ ks, j ∈ ls) : Fr ls a b := fun j hj => h j fun z => hj (k j z)
theorem Fr.set {i : Nat} {σ : L2.St} {x : Option V} : Fr [i] σ (σ.set i x) := fun j hj => by
  have : i ≠ j := fun e => hj (by simp [e])
  rw [List.getElem?_set_ne this]
section
variable {K : PySem.W.Frag} {s : Sl} {T : List (Hd × V)} {σ : L2.St} {H : Hp}
end
section
variable {M : SM} {X : Cx} {W : WX} {c : CC} {pos : Pos}
def gP (K : PySem.W.Frag) (t : Tgt) : TG := fun x σ H Q => ∃ d s T, WI K s ((.ov (.imm d), x) :: T) σ H ∧ ∃ s', Tgt.bind t d s = some s' ∧ ∀ σ' H', Fr t.slots σ σ' → WI K s' T σ' H' → Q σ' H'
def gPs (K : PySem.W.Frag) (ts : List Tgt) : TGs := fun xs σ H Q => ∃ ds s T, ds.length = xs.length ∧ WI K s (zipH (ds.map .imm) xs ++ T) σ H ∧ ∃ s', Tgt.binds ts ds s = some s' ∧ ∀ σ' H', Fr (Tgt.slotsAll ts) σ σ' → WI K s' T σ' H' → Q σ' H'
theorem binds_len : ∀ {ts : List Tgt} {ds : List D} {s s' : Sl}, Tgt.binds ts ds s = some s' → ds.length = ts.length
  | [], [], _, _, _ => rfl
  | [], _ :: _, _, _, h => by simp [Tgt.binds] at h
  | _ :: _, [], _, _, h => by simp [Tgt.binds] at h
  | t :: ts, d :: ds, s, s', h => by
    rw [Tgt.binds] at h
    cases q : t.bind d s with
    | none => rw [q] at h; cases h
    | some s1 =>
      rw [q] at h
      rw [List.length_cons, List.length_cons, binds_len (ts := ts) (ds := ds) h]
theorem chkTs_asg {env : Env} : ∀ {ts : List Tgt} {es : List Expr}, chkTs ts c es = true → (assignEach es env).length = ts.length ∧ (assignEach es env).findIdx? (·.1) = none ∧ ∀ e r, es = e :: r → (assignEach es env).map (·.2) = assign e env :: (assignEach r env).map (·.2)
  | [], [], _ => ⟨rfl, rfl, fun _ _ e => by cases e⟩
  | [], _ :: _, h => by simp [chkTs] at h
  | _ :: _, [], h => by simp [chkTs] at h
  | t :: ts, e :: es, h => by
    simp only [chkTs, Bool.and_eq_true] at h
    obtain ⟨h1, h2, _⟩ := chkTs_asg (env := env) h.2
    have k : assignEach (e :: es) env = (false, assign e env) :: assignEach es env := by
      cases t <;> cases e <;> first | rfl | (simp [chkT] at h)
    refine ⟨by rw [k, List.length_cons, List.length_cons, h1], ?_, fun e' r er => ?_⟩
    · rw [k, List.findIdx?_cons]
      simp [h2]
    · cases er
      rw [k]
      rfl
theorem st_facts {i : Nat} {x : Str} (g : Gd M X c) (h : stB c i x = true) : X.N.Nodup ∧ X.N[i]? = some x ∧ Loc X.env.scope x ∧ (X.fn x = true ∨ X.env.scope.names.lookup x = some .local) ∧ i ∉ c.lk := by
  simp only [stB, Bool.and_eq_true, decide_eq_true_eq, Bool.or_eq_true, Bool.not_eq_true'] at h
  refine ⟨by rw [g.N]; exact g.nd, by rw [g.N]; exact h.1.1, ?_, ?_, by simpa using h.2⟩
  · rcases h.1.2 with k | k
    · exact .inl (by rw [g.sc]; exact k)
    · exact .inr (by rw [g.sc]; exact k.1)
  · rcases h.1.2 with k | k
    · exact .inr (by rw [g.sc]; exact k)
    · exact .inl (by rw [g.fn]; exact k.2)
mutual
theorem bind_len : ∀ {t : Tgt} {d : D} {s s' : Sl}, Tgt.bind t d s = some s' → s'.length = s.length
  | .nm j, d, s, s', h => by
    rw [Tgt.bind] at h
    cases h
    rw [List.length_set]
  | .tp ts, d, s, s', h => by
    cases d <;> simp only [Tgt.bind] at h <;> try contradiction
    exact binds_lenS h
theorem binds_lenS : ∀ {ts : List Tgt} {ds : List D} {s s' : Sl}, Tgt.binds ts ds s = some s' → s'.length = s.length
  | [], [], _, _, h => by
    rw [Tgt.binds] at h
    cases h
    rfl
  | [], _ :: _, _, _, h => by simp [Tgt.binds] at h
  | _ :: _, [], _, _, h => by simp [Tgt.binds] at h
  | t :: ts, d :: ds, s, s', h => by
    rw [Tgt.binds] at h
    cases q : t.bind d s with
    | none => rw [q] at h; cases h
    | some s1 =>
      rw [q] at h
      exact (binds_lenS (ts := ts) (ds := ds) h).trans (bind_len q)
end
mutual
theorem s_tgt (g : Gd M X c) : ∀ (t : Tgt) (e : Expr), chkT t c e = true → PG X e (gP X.K t)
  | .nm i, e, h => by
    cases e <;> simp only [chkT] at h <;> try contradiction
    obtain ⟨h1, h2, h3, h4, _⟩ := st_facts g h
    refine ⟨fun pins s σ H v u Q I r hw => (pg_name h1 h2 h3 h4).run pins s σ H v u Q I r ?_⟩
    obtain ⟨d, s', T, w, s2, hb, q⟩ := hw
    rw [Tgt.bind] at hb
    cases hb
    exact q _ _ (by simpa only [Tgt.slots] using Fr.set) w.setA
  | .tp ts, e, h => by
    cases e <;> simp only [chkT] at h <;> try contradiction
    obtain ⟨h1, h2, _⟩ := chkTs_asg (env := X.env) h
    refine ⟨fun pins s σ H v u Q I r hw => (pg_tup g.calm (s_tgts g ts _ h) h1 h2).run pins s σ H v u Q I r ?_⟩
    obtain ⟨d, s', T, w, s2, hb, q⟩ := hw
    cases d <;> simp only [Tgt.bind] at hb <;> try contradiction
    rename_i ds
    obtain ⟨p, xs, rfl, hl, pl, w1⟩ := WI.its1 (ds := ds) rfl w.toOd
    have hp : TupR X.K H p xs := by rcases pl with ⟨e, _⟩ | ⟨_, h⟩; cases e; exact h
    exact ⟨p, xs, rfl, hp.sqt, by rw [← hl, binds_len hb], ds, s', T, hl, w1, s2, hb, q⟩
theorem s_tgts (g : Gd M X c) : ∀ (ts : List Tgt) (es : List Expr), chkTs ts c es = true → PGs X es (gPs X.K ts)
  | [], es, h => by
    cases es <;> simp only [chkTs] at h <;> try contradiction
    refine ⟨fun pins s σ H vs us Q I r hw => pgs_nil.run pins s σ H vs us Q I r ?_⟩
    obtain ⟨ds, s', T, hl, w, s2, hb, q⟩ := hw
    cases ds with
    | cons _ _ => simp [Tgt.binds] at hb
    | nil =>
      rw [Tgt.binds] at hb
      cases hb
      have : vs = [] := List.length_eq_zero_iff.mp hl.symm
      exact ⟨this, q _ _ Fr.refl (by subst this; exact w)⟩
  | t :: ts, es, h => by
    cases es with
    | nil => simp [chkTs] at h
    | cons e es =>
      have hh := h
      simp only [chkTs, Bool.and_eq_true] at h
      obtain ⟨_, _, h3⟩ := chkTs_asg (env := X.env) hh
      refine ⟨fun pins s σ H vs us Q I r hw => (pgs_cons (s_tgt g t e h.1) (s_tgts g ts es h.2) (h3 e es rfl)).run pins s σ H vs us Q I r ?_⟩
      obtain ⟨ds, s', T, hl, w, s2, hb, q⟩ := hw
      cases ds with
      | nil => simp [Tgt.binds] at hb
      | cons d ds =>
        cases vs with
        | nil => cases hl
        | cons x xs =>
          rw [Tgt.binds] at hb
          cases hb1 : t.bind d s' with
          | none => rw [hb1] at hb; cases hb
          | some s1 =>
            rw [hb1] at hb
            refine ⟨x, xs, rfl, d, s', zipH (ds.map .imm) xs ++ T, w, s1, hb1, fun σ1 H1 fr1 w1 => ⟨ds, s1, T, by simpa using hl, w1, s2, hb, fun σ2 H2 fr2 w2 => q σ2 H2 ?_ w2⟩⟩
            refine (fr1.mono fun j hj => ?_).trans (fr2.mono fun j hj => ?_)
            · rw [Tgt.slotsAll]; exact List.mem_append_left _ hj
            · rw [Tgt.slotsAll]; exact List.mem_append_right _ hj
end
/-- a pair that is not ours to keep -/
def gP2 (K : PySem.W.Frag) (t : Tgt) : TG := fun x σ H Q => ∃ x1 x2 d1 d2 s T, WI K s ((.raw (.tup [x1, x2]), x) :: (.ov (.imm d1), x1) :: (.ov (.imm d2), x2) :: T) σ H ∧ ∃ s', Tgt.bind t (.tuple [d1, d2]) s = some s' ∧ ∀ σ' H', Fr t.slots σ σ' → WI K s' T σ' H' → Q σ' H'
theorem WI.rawRef {K : PySem.W.Frag} {s : Sl} {T : List (Hd × V)} {σ : L2.St} {H : Hp} {o : HO} {x : V} (w : WI K s ((.raw o, x) :: T) σ H) : ∃ p, x = .ref p ∧ H p = some o := by
  obtain ⟨G, A, B, e, hs, ⟨a, c, ea, rfl, h1, h2⟩, nd, n⟩ := w
  exact ⟨a, ea, h1.1⟩
theorem s_tgt2 (g : Gd M X c) {ts : List Tgt} {e : Expr} (h : chkT (.tp ts) c e = true) : PG X e (gP2 X.K (.tp ts)) := by
  cases e <;> simp only [chkT] at h <;> try contradiction
  obtain ⟨h1, h2, _⟩ := chkTs_asg (env := X.env) h
  refine ⟨fun pins s σ H v u Q I r hw => (pg_tup g.calm (s_tgts g ts _ h) h1 h2).run pins s σ H v u Q I r ?_⟩
  obtain ⟨x1, x2, d1, d2, s', T, w, s2, hb, q⟩ := hw
  obtain ⟨p, rfl, hp⟩ := w.rawRef
  simp only [Tgt.bind] at hb
  exact ⟨p, [x1, x2], rfl, .inl (.inl hp), by rw [← binds_len hb]; rfl, [d1, d2], s', T, rfl, w.drop, s2, hb, q⟩
/-- how an item comes -/
def SK.pair : SK → Bool
  | .enum => true
  | .zip => true
  | _ => false
def gPK (K : PySem.W.Frag) (k : SK) (t : Tgt) : TG := if k.pair then gP2 K t else gP K t
theorem s_tgtK (g : Gd M X c) {k : SK} {t : Tgt} {e : Expr} (h : chkT t c e = true) (hk : tgOk k t = true) : PG X e (gPK X.K k t) := by
  unfold gPK
  split
  · rename_i hp
    cases t with
    | nm i => cases k <;> simp [SK.pair, tgOk] at hp hk
    | tp ts => exact s_tgt2 g h
  · exact s_tgt g t e h

/-! ### what is walked -/
def HldK (K : PySem.W.Frag) (k : SK) (s : Sl) (T : List (Hd × V)) (σ : L2.St) (H : Hp) (d : D) (x : V) : Prop :=
  if k.pair then ∃ x1 x2 d1 d2, d = .tuple [d1, d2] ∧ WI K s ((.raw (.tup [x1, x2]), x) :: (.ov (.imm d1), x1) :: (.ov (.imm d2), x2) :: T) σ H else WI K s ((.ov (.imm d), x) :: T) σ H
structure ItOk (K : PySem.W.Frag) (k : SK) (J : It) (T : List (Hd × V)) (items : List D) : Prop where
  step : ∀ (i : Nat) (d : D), items[i]? = some d → ∀ s U σ H, WI K s (T ++ U) σ H → J.go i H ∧ ∀ x H', J.yld i H x H' → HldK K k s (T ++ U) σ H' d x
  stop : ∀ s U σ H, WI K s (T ++ U) σ H → J.stop items.length H
/-- the reading of a walk: T' is held as long as it lasts -/
def tPI (M : SM) (K : PySem.W.Frag) (W : WX) (k : SK) (es : List E) : TI := fun σ H R => ∃ s T, WI K s T σ H ∧ (noPk T ∨ E.quietA es = true) ∧
  Res M K W T σ (fun ds s' => ∃ items, srcOf k ds = some items ∧ ∀ T' J H', WI K s' (T' ++ T) σ H' → ((∀ e ∈ es, e.isPk = false) → noPk0 T') → ItOk K k J T' items → R J H') (evDs M.ft es s)
section
variable {K : PySem.W.Frag} {s : Sl} {T : List (Hd × V)} {σ : L2.St} {H : Hp}
theorem hd_its {e : E} {d : D} {ds : List D} {x : V} (hq : seqOf d = some ds) (w : WI K s ((if e.isPk then .od d else .ov (.imm d), x) :: T) σ H) :
    ∃ p xs, x = .ref p ∧ ds.length = xs.length ∧ Pl K H d ds p xs ∧ WI K s (zipH (ds.map .imm) xs ++ (if e.isPk then .od d else .ov (.imm d), x) :: T) σ H := by
  have w2 : WI K s ((if e.isPk then .od d else .ov (.imm d), x) :: (if e.isPk then .od d else .ov (.imm d), x) :: T) σ H := by
    have := WI.dupH (e := e) (v := .imm d) (x := x) (T := T) (by unfold hd; exact w)
    unfold hd at this
    exact this
  exact (w2.is1 hd_od).its1 hq
theorem ok_list {e : E} {ds : List D} {p : Addr} : ItOk K .seq (Itl K p) [(if e.isPk then .od (.list ds) else .ov (.imm (.list ds)), .ref p)] ds where
  step := fun i d hd s U σ H w => by
    obtain ⟨p', xs, hp, hl, pl, w1⟩ := hd_its (ds := ds) rfl w
    cases hp
    have hi : i < ds.length := (List.getElem?_eq_some_iff.mp hd).1
    have hr : SqL K H p xs := by rcases pl with ⟨_, h⟩ | ⟨e, _⟩; exact .inl h; cases e
    refine ⟨⟨xs, xs[i]'(by omega), hr, List.getElem?_eq_getElem (by omega)⟩, fun x H' ⟨e1, hx⟩ => ?_⟩
    subst e1
    exact WI.item hl hd (hx xs hr) w1
  stop := fun s U σ H w => by
    obtain ⟨p', xs, hp, hl, pl, w1⟩ := hd_its (ds := ds) rfl w
    cases hp
    have hr : SqL K H p xs := by rcases pl with ⟨_, h⟩ | ⟨e, _⟩; exact .inl h; cases e
    exact ⟨xs, hr, by omega⟩
theorem ok_tup {e : E} {ds : List D} {p : Addr} : ItOk K .seq (Itt K p) [(if e.isPk then .od (.tuple ds) else .ov (.imm (.tuple ds)), .ref p)] ds where
  step := fun i d hd s U σ H w => by
    obtain ⟨p', xs, hp, hl, pl, w1⟩ := hd_its (ds := ds) rfl w
    cases hp
    have hi : i < ds.length := (List.getElem?_eq_some_iff.mp hd).1
    have hr : SqT K H p xs := by rcases pl with ⟨e, _⟩ | ⟨_, h⟩; cases e; exact h.sqt
    refine ⟨⟨xs, xs[i]'(by omega), hr, List.getElem?_eq_getElem (by omega)⟩, fun x H' ⟨e1, hx⟩ => ?_⟩
    subst e1
    exact WI.item hl hd (hx xs hr) w1
  stop := fun s U σ H w => by
    obtain ⟨p', xs, hp, hl, pl, w1⟩ := hd_its (ds := ds) rfl w
    cases hp
    have hr : SqT K H p xs := by rcases pl with ⟨e, _⟩ | ⟨_, h⟩; cases e; exact h.sqt
    exact ⟨xs, hr, by omega⟩
theorem intsD_len : ∀ {n : Nat} {lo : Int}, (intsD lo n).length = n
  | 0, _ => rfl
  | n + 1, lo => by rw [intsD, List.length_cons, intsD_len]
theorem intsD_get : ∀ {n i : Nat} {lo : Int} {d : D}, (intsD lo n)[i]? = some d → d = .int (lo + i) ∧ i < n
  | 0, i, _, _, h => by simp [intsD] at h
  | n + 1, 0, lo, d, h => by
    rw [intsD] at h
    have : d = .int lo := by simpa using h.symm
    exact ⟨by simp [this], by omega⟩
  | n + 1, i + 1, lo, d, h => by
    rw [intsD] at h
    obtain ⟨h1, h2⟩ := intsD_get (by simpa using h)
    refine ⟨?_, by omega⟩
    rw [h1]
    congr 1
    omega
theorem ok_rng {lo : Int} {n : Nat} : ItOk K .range (Itr lo n) [] (intsD lo n) where
  step := fun i d hd s U σ H w => by
    obtain ⟨rfl, hi⟩ := intsD_get hd
    refine ⟨hi, fun x H' ⟨e1, e2⟩ => ?_⟩
    subst e1 e2
    exact w.scal fun _ => .int _
  stop := fun s U σ H w => by rw [intsD_len]; exact Nat.le_refl n
end
/-- a list or a tuple, walked -/
theorem pi_any {tg l : Expr} {tl : TE} (hl : PE X l tl) : PI X tg l (fun σ H R => tl σ H fun x H1 => ∃ a xs, x = .ref a ∧ ((SqL X.K H1 a xs ∧ R (Itl X.K a) H1) ∨ (SqT X.K H1 a xs ∧ R (Itt X.K a) H1))) := by
  refine ⟨fun pins s σ H R I h => ?_⟩
  refine thn (hl.run pins s σ H _ I h) fun v s1 ⟨x, H1, I1, r1, q1⟩ => ?_
  obtain ⟨a, xs, rfl, q⟩ := q1
  cases r1
  have fp : ∀ b ∈ [s1.heap.objs.size], FpOk X pins H1 b := fun b hb => by
    have e : b = s1.heap.objs.size := by simpa using hb
    subst e
    exact I1.fpOk (Nat.le_refl _) (I1.hok.fresh (Nat.le_refl _))
  rcases q with ⟨hq, q⟩ | ⟨hq, q⟩
  · obtain ⟨its, rv, p, hz⟩ := I1.list hq
    refine wpAny_pyIter_list p.isList ?_
    exact ⟨s1.heap.objs.size, [s1.heap.objs.size], _, _, H1, rfl, I1.kept (t' := s1.toks) fun b o e => Heap.get?_push_of_some _ e, turn_list a _, ⟨_, Heap.get?_push_size _ rfl, rfl, rfl⟩, fp, q⟩
  · obtain ⟨its, rv, p, hz⟩ := I1.tuple hq
    refine wpAny_pyIter_tuple (show s1.heap.IsTuple a its.toArray from p) ?_
    exact ⟨s1.heap.objs.size, [s1.heap.objs.size], _, _, H1, rfl, I1.kept (t' := s1.toks) fun b o e => Heap.get?_push_of_some _ e, turn_tuple a _, ⟨_, Heap.get?_push_size _ rfl, rfl, rfl⟩, fp, q⟩
theorem Pl.both {K : PySem.W.Frag} {H : Hp} {d : D} {ds : List D} {p : Addr} {xs : List V} (h : Pl K H d ds p xs) : (d = .list ds ∧ SqL K H p xs) ∨ (d = .tuple ds ∧ SqT K H p xs) := by
  rcases h with ⟨e, h⟩ | ⟨e, h⟩
  · exact .inl ⟨e, .inl h⟩
  · exact .inr ⟨e, h.sqt⟩
theorem s_srcSeq {e : E} {tg l : Expr} (he : PE X l (tE M X.K W e)) : PI X tg l (tPI M X.K W .seq [e]) := by
  refine ⟨fun pins s σ H R I hw => (pi_any (tO_of he)).run pins s σ H R I ?_⟩
  obtain ⟨s', T, w, np, hr⟩ := hw
  have np : noPk T ∨ (e.quiet && true) = true := np
  rw [Bool.and_true] at np
  simp only [evDs] at hr
  rw [Res.bind] at hr
  refine ⟨s', T, w, np, hr.imp fun v s1 h1 p H1 w1 => ?_⟩
  obtain ⟨items, hi, k⟩ := h1
  have hs : seqOf v.toD = some items := by
    cases hv : v.toD <;> rw [hv] at hi <;> simp only [srcOf] at hi <;> try contradiction
    · exact hi
    · exact hi
  have w1 : WI X.K s1 ((if e.isPk then .od v.toD else .ov (.imm v.toD), p) :: T) σ H1 := by
    unfold hd at w1
    exact w1
  obtain ⟨a, xs, rfl, hl, pl, w2⟩ := hd_its hs w1
  refine ⟨a, xs, rfl, ?_⟩
  have nn : (∀ e' ∈ [e], e'.isPk = false) → noPk0 [((if e.isPk then Hd.od v.toD else .ov (.imm v.toD)), V.ref a)] := fun h => by
    rw [h e (by simp)]
    trivial
  rcases pl.both with ⟨hd, hq⟩ | ⟨hd, hq⟩
  · refine .inl ⟨hq, k [_] (Itl X.K a) H1 w1 nn ?_⟩
    rw [hd]
    exact ok_list (e := e)
  · refine .inr ⟨hq, k [_] (Itt X.K a) H1 w1 nn ?_⟩
    rw [hd]
    exact ok_tup (e := e)
theorem small_of {i : Int} (h : small62 i = true) : -(2 ^ 62) ≤ i ∧ i < 2 ^ 62 := by
  simpa [small62] using h
theorem s_srcRange1 (g : Gd M X c) {e : E} {tg a : Expr} {x : Str} {p2 : Pos} (hx : x = "range") (hgl : glB c x = true) (hm : X.mg "range" = none) (st : isStar a = false) (h : PA X [a] (tDs M X.K W [e])) : PI X tg (.Call (.Name x p2) [a] [] pos) (tPI M X.K W .range [e]) := by
  subst hx
  obtain ⟨h1, _, _⟩ := gl_of g hgl
  refine ⟨fun pins s σ H R I hw => (pi_range1 h1 hm h (by rw [starEach_no st]; rfl)).run pins s σ H R I ?_⟩
  obtain ⟨s', T, w, np, hr⟩ := hw
  refine ⟨s', T, w, np, hr.imp fun ds s1 h1 ps H1 l1 l2 w1 => ?_⟩
  obtain ⟨items, hi, k⟩ := h1
  match ds, ps, l1, l2, w1, hi with
  | [d], [p], _, _, w1, hi =>
    have w2 := WI.is1 hd_od (show WI X.K s1 (_ :: T) σ H1 from w1)
    cases d <;> simp only [srcOf, rangeD] at hi <;> try contradiction
    rename_i n _
    split at hi
    · rename_i hz
      cases hi
      have dq := w2.rd
      obtain ⟨z1, z2⟩ := small_of hz
      refine ⟨n, by rw [dq.int'], z1, z2, k [] _ H1 w2.drop (fun _ => trivial) ok_rng⟩
    · cases hi
theorem s_srcRange2 (g : Gd M X c) {e e' : E} {tg a b : Expr} {x : Str} {p2 : Pos} (hx : x = "range") (hgl : glB c x = true) (hm : X.mg "range" = none) (st : isStar a = false) (st' : isStar b = false) (h : PA X [a, b] (tDs M X.K W [e, e'])) :
    PI X tg (.Call (.Name x p2) [a, b] [] pos) (tPI M X.K W .range [e, e']) := by
  subst hx
  obtain ⟨h1, _, _⟩ := gl_of g hgl
  refine ⟨fun pins s σ H R I hw => (pi_range2 h1 hm h (by rw [starEach_no st, starEach_no st']; rfl) (by rw [starEach_no st']; rfl)).run pins s σ H R I ?_⟩
  obtain ⟨s', T, w, np, hr⟩ := hw
  refine ⟨s', T, w, np, hr.imp fun ds s1 h1 ps H1 l1 l2 w1 => ?_⟩
  obtain ⟨items, hi, k⟩ := h1
  match ds, ps, l1, l2, w1, hi with
  | [d, d'], [p, p'], _, _, w1, hi =>
    have w2 := WI.is2 hd_od hd_od (WI.swap (show WI X.K s1 (_ :: _ :: T) σ H1 from w1))
    cases d <;> cases d' <;> simp only [srcOf, rangeD] at hi <;> try contradiction
    rename_i i j _
    split at hi
    · rename_i hz
      cases hi
      simp only [Bool.and_eq_true] at hz
      have q1 := w2.rd
      have q2 := w2.swap.rd
      obtain ⟨z1, z2⟩ := small_of hz.1
      obtain ⟨z3, z4⟩ := small_of hz.2
      refine ⟨i, j, by rw [q1.int', q2.int'], ⟨z1, z2, z3, z4⟩, k [] _ H1 w2.drop.drop (fun _ => trivial) ok_rng⟩
    · cases hi
end
end PV
end
section
set_option Elab.async false
set_option linter.all false
set_option maxRecDepth 100000
set_option maxHeartbeats 4000000
/-! PvP: enumerate of a list or a tuple. -/
namespace PV
open PySem PySem.Spec PyProof.Rows L2
def IteT (K : PySem.W.Frag) (a : Addr) : It :=
  ⟨fun i H => ∃ (xs : List V) (x : V), SqT K H a xs ∧ xs[i]? = some x, fun i H v H' => ∃ T x, v = .ref T ∧ H T = none ∧ H' = upd H T (.tup [.int (i : Nat), x]) ∧ ∀ xs, SqT K H a xs → xs[i]? = some x, fun i H => ∃ xs : List V, SqT K H a xs ∧ xs.length ≤ i⟩
theorem enum_endT {prog : Program} {w : World} {A : Around} {E : Value → Shared → Prop} {s : Shared} {e it l : Addr} {i : Nat} {items : Array Value} {old : Value} {Q : Option Value → Shared → Prop} (hh : A.handled = none)
    (he : IsEnum s.heap e it i old) (hit : s.heap.IsTupleIter it l i) (hl : s.heap.IsTuple l items) (hx : items[i]? = none)
    (hQ : ∀ h', Heap.ExtBut it s.heap h' → Q none { s with heap := h' }) : wpAny (model prog w) A (pyNext (.ref e)) Q E s := by
  have hT : s.TypeIs (.ref e) "enumerate" := ⟨_, he, rfl⟩
  have hh1 : A.in1.handled = none := hh
  unfold pyNext
  refine wpAny_bind (wpAny_attempt (wpAny_callSpecial?_slot (name := Str.ofString "__next__") hT F.slot_enumerate_next (wpAny_call_entry F.slot_enumerate_next hT F.entry_enumerate_next ?_ (F.args_enumerate_next_1 _))))
  show wpAny _ _ (field (.ref e) 2 >>= _) _ _ _
  refine wpAny_bind (wpAny_field he rfl (x := .ref it) rfl ?_)
  refine wpAny_bind (wpAny_nextOf_tuple_end hh1 hit hl hx fun h' x he' ⟨o, ho, hc⟩ => ?_)
  refine wpAny_bind (wpAny_isInstance (T := "StopIteration") (b := true) ⟨o, ho, hc⟩ isSubtype_stop ?_)
  exact wpAny_pure (hQ _ he')
theorem turn_enumT {P : Program} {w : World} {K : PySem.W.Frag} {elts : List Expr} {kk : Nat} {tpos : Pos} (a e it : Addr) (hat : a ≠ it) (hae : a ≠ e) :
    Turn P w K (.Tuple elts kk tpos) (IteT K a) [e, it] e (fun i h => (∃ old, IsEnum h e it ((i : Nat) : Int) old) ∧ h.IsTupleIter it a i ∧ e ≠ it) where
  mem := by simp
  obj := fun i h st b hb => by
    obtain ⟨⟨old, he⟩, ⟨o, ho, hc, hd⟩, _⟩ := st
    have e' : b = e ∨ b = it := by simpa using hb
    rcases e' with z | z
    · rw [z]; exact ⟨_, he, fun v q => nomatch q⟩
    · rw [z]; exact ⟨o, ho, fun v q => by rw [hd] at q; cases q⟩
  keep := fun i h h' st k => let ⟨⟨old, he⟩, hi, hne⟩ := st; ⟨⟨old, k e (by simp) _ he⟩, hi.at fun o q => k it (by simp) o q, hne⟩
  item := by
    intro X hP hw hK hc i pins s σ H E I hf st hg
    subst hP hw hK
    obtain ⟨⟨old, he⟩, hit, hne⟩ := st
    obtain ⟨xs, x, hq, hx⟩ := hg
    obtain ⟨its, rv, p, hz⟩ := I.tuple hq
    obtain ⟨u, hu, ru⟩ := rv.get hx
    have hel : e < s.heap.objs.size := Heap.lt_size he
    have hil : it < s.heap.objs.size := by obtain ⟨_, q, _⟩ := hit; exact Heap.lt_size q
    have hh : X.A.in1.handled = none := I.ok.hd hc
    have hlt : i < its.toArray.size := by
      have := (List.getElem?_eq_some_iff.mp hu).1
      simpa using this
    have DD := Draws.tuple (prog := X.prog) (w := X.w) (A := X.A.in1) hh it a hat its.toArray
    refine wpAny_pyNext_enum_itemD DD he ⟨hit, (show s.heap.IsTuple a its.toArray from p)⟩ hlt hne (by simp; exact ⟨hne, Ne.symm hae⟩) fun x' h' tk hP ho hit' hT hsz hk => ?_
    have ex : x' = u := by
      have h1 : its.toArray[i]? = some u := by simpa using hu
      rw [h1] at hP
      exact (Option.some.inj hP).symm
    subst ex
    refine ⟨_, rfl, wpAny_letOwnedTupleGo_enum (s := { s with heap := h', toks := tk + 1 }) ho fun h'' he' sb => ?_⟩
    have hT2 : h''.get? s.heap.objs.size = some { cls := .type "tuple", data := .seq #[.int i tk, x'] } := (sb.2 _ (Nat.ne_of_gt hel)).trans hT
    have new : ObjOk X.prog X.w (upd H s.heap.objs.size (.tup [.int (i : Nat), x])) h'' s.heap.objs.size (.tup [.int (i : Nat), x]) :=
      ⟨by show 2 ≤ sizeLine; decide, [.int i tk, x'], .cons ⟨_, rfl⟩ (.cons ru .nil), ⟨_, hT2, rfl, _, rfl⟩⟩
    have I1 : Inv X pins σ (upd H s.heap.objs.size (.tup [.int (i : Nat), x])) { s with heap := h'', toks := tk + 1 } :=
      I.turnedNew (ch := [e, it]) (fun b ob hb q => (sb.2 b (fun z => hb (by simp [z]))).trans (hk b ob (fun z => hb (by simp [z])) (fun z => hb (by simp [z])) q)) hf (Nat.le_refl _) new
    refine ⟨.ref s.heap.objs.size, _, I1, rfl, ⟨_, x, rfl, I.hok.fresh (Nat.le_refl _), rfl, fun ys hy => by rw [I.tuple_inj hy hq]; exact hx⟩, ⟨⟨x', ?_⟩, hit'.1.at fun o q => (sb.2 it (Ne.symm hne)).trans q, hne⟩, fun b hb => ?_⟩
    · have e1 : ((i + 1 : Nat) : Int) = (i : Int) + 1 := by omega
      rw [e1]; exact he'
    · have hb' : b < s.heap.objs.size := by
        have e' : b = e ∨ b = it := by simpa using hb
        rcases e' with z | z
        · rw [z]; exact hel
        · rw [z]; exact hil
      rw [upd_ne (Nat.ne_of_lt hb')]
      exact (hf b hb).1
  done := by
    intro X hP hw hK hc i pins s σ H E I hf st hg
    subst hP hw hK
    obtain ⟨⟨old, he⟩, hit, hne⟩ := st
    obtain ⟨xs, hq, hx⟩ := hg
    obtain ⟨its, rv, p, hz⟩ := I.tuple hq
    obtain ⟨f0, f1, f2, f3, f4, f5⟩ := hf it (by simp)
    have hl := rv.length
    exact enum_endT (I.ok.hd hc) he hit (show s.heap.IsTuple a its.toArray from p) (by simp; omega) fun h' eb => ⟨rfl, I.turned (t' := s.toks) (fun b o hb q => eb b o hb q) f0 f1 f3 f4 f5⟩
  self := fun A i s Q E st h => let ⟨⟨_, he⟩, _⟩ := st; wpAny_pyIter_enum he h
theorem meets_enum1 {v : Value} {o : Obj} {H : Heap → Prop} (B : Begins v o H) :
    Meets (Builtin.«enumerate.__new__» ⟨[.type "enumerate", v], []⟩) (fun _ R s => H s.heap ∧
      R (.ok (.ret (.ref (s.heap.push o).objs.size))) { s with heap := (s.heap.push o).push { cls := .type "enumerate", data := .fields #[.none, .bool false, .ref s.heap.objs.size, rawInt 0, .none, .none] } }) :=
  .of_wp fun prog w A R s h => by
    obtain ⟨hp, g, d, tk, os⟩ := s
    obtain ⟨h1, h⟩ := h
    have hsub := sub_enumerate
    have q1 : ∀ {A' : Around} {E : Value → Shared → Prop} {Q : Value → Shared → Prop}, Q (.ref hp.objs.size) ⟨hp.push o, g, d, tk, os⟩ → wpAny (model prog w) A' (pyIter v) Q E ⟨hp, g, d, tk, os⟩ :=
      fun q => B.iter prog w _ _ ⟨hp, g, d, tk, os⟩ _ h1 q
    wp_walk using q1
    refine wpAny_stack_any fun st => wpAny_pure ?_
    split
    · rename_i c _ _ _ _ _
      cases (c == Value.type "enumerate")
      · wp_walk using q1
        exact ⟨_, rfl, h⟩
      · wp_walk using q1
        exact ⟨_, rfl, h⟩
    · wp_walk using q1
      exact ⟨_, rfl, h⟩
theorem call_enum1 {prog : Program} {w : World} {A : Around} {E : Value → Shared → Prop} {s : Shared} {v : Value} {o : Obj} {H : Heap → Prop} {Q : Value → Shared → Prop} (B : Begins v o H) (h1 : H s.heap)
    (h : ∀ h', IsEnum h' (s.heap.objs.size + 1) s.heap.objs.size 0 .none → h'.get? s.heap.objs.size = some o → h'.objs.size = s.heap.objs.size + 2 →
      (∀ b o, s.heap.get? b = some o → h'.get? b = some o) → Q (.ref (s.heap.objs.size + 1)) { s with heap := h' }) :
    wpAny (model prog w) A (call (.type "enumerate") [v]) Q E s := by
  refine callType_new F.called_enumerate (by decide) (F.typeCall_enumerate_1 _) (F.newCall_enumerate_1 _) (fun obj => F.args_object_init_2 obj _) F.entry_enumerate_new
    (meets_enum1 B) ⟨h1, ?_⟩
  have hz : (s.heap.push o).objs.size = s.heap.objs.size + 1 := Heap.size_push ..
  have he : IsEnum ((s.heap.push o).push { cls := .type "enumerate", data := .fields #[.none, .bool false, .ref s.heap.objs.size, rawInt 0, .none, .none] }) (s.heap.objs.size + 1) s.heap.objs.size 0 .none := by
    have := Heap.get?_push_size (s.heap.push o) (o := { cls := .type "enumerate", data := .fields #[.none, .bool false, .ref s.heap.objs.size, rawInt 0, .none, .none] }) rfl
    rw [hz] at this
    exact this
  show _ ∧ _
  rw [hz]
  exact ⟨⟨_, he, rfl⟩, h _ he (Heap.get?_push_of_some _ (Heap.get?_push_size _ B.free)) (by rw [Heap.size_push, hz]) fun b o x => Heap.get?_push_of_some _ (Heap.get?_push_of_some _ x)⟩
section
variable {X : Cx}
/-- enumerate of either -/
def iEnumA (K : PySem.W.Frag) (ta : TA) : TI := fun σ H R => ta σ H fun vs H1 => ∃ a xs, vs = [.ref a] ∧ ((SqL K H1 a xs ∧ R (Ite K a) H1) ∨ (SqT K H1 a xs ∧ R (IteT K a) H1))
theorem pi_enumA {e : Expr} {ta : TA} {p pos tpos : Pos} {elts : List Expr} {kk : Nat} (hg : Gl X "enumerate") (hm : X.mg "enumerate" = none) (ha : PA X [e] ta) (hs : starEach [e] X.env = [(false, eval e X.env)] := by rfl) :
    PI X (.Tuple elts kk tpos) (.Call (.Name "enumerate" p) [e] [] pos) (iEnumA X.K ta) := by
  refine ⟨fun pins s σ H R I h => ?_⟩
  refine Call_ (ld_blt I hg hm boot_enumerate (PyProof.Rows.callWith_type1 (thn (ha.run pos pins s σ H _ I h) fun us s1 ⟨vs, H1, I1, r1, q1⟩ => ?_) hs rfl))
  obtain ⟨a, xs, ex, q1⟩ := q1
  subst ex
  have hv := Vals.ref1 r1
  subst hv
  have fp : ∀ b ∈ [s1.heap.objs.size + 1, s1.heap.objs.size], FpOk X pins H1 b := fun b hb => by
    have e' : b = s1.heap.objs.size + 1 ∨ b = s1.heap.objs.size := by simpa using hb
    have hle : s1.heap.objs.size ≤ b := by
      rcases e' with z | z
      · rw [z]; exact Nat.le_add_right _ _
      · rw [z]; exact Nat.le_refl _
    exact I1.fpOk hle (I1.hok.fresh hle)
  rcases q1 with ⟨hq, q⟩ | ⟨hq, q⟩
  · obtain ⟨its, rv, p', hz⟩ := I1.list hq
    refine call_enumerate_list p'.isList fun h' he hit hsz hk => wpAny_pyIter_enum he ?_
    exact ⟨s1.heap.objs.size + 1, [s1.heap.objs.size + 1, s1.heap.objs.size], _, _, H1, rfl, I1.kept (t' := s1.toks) hk, turn_enum a (s1.heap.objs.size + 1) s1.heap.objs.size, ⟨⟨.none, he⟩, hit, Nat.succ_ne_self _⟩, fp, q⟩
  · obtain ⟨its, rv, p', hz⟩ := I1.tuple hq
    have hlt : a < s1.heap.objs.size := by obtain ⟨o, ho, _⟩ := id p'; exact Heap.lt_size ho
    refine call_enum1 (begins_tuple a its.toArray) (show s1.heap.IsTuple a its.toArray from p') fun h' he hit hsz hk => wpAny_pyIter_enum he ?_
    exact ⟨s1.heap.objs.size + 1, [s1.heap.objs.size + 1, s1.heap.objs.size], _, _, H1, rfl, I1.kept (t' := s1.toks) hk, turn_enumT a (s1.heap.objs.size + 1) s1.heap.objs.size (Nat.ne_of_lt hlt) (Nat.ne_of_lt (Nat.lt_succ_of_lt hlt)), ⟨⟨.none, he⟩, ⟨_, hit, rfl, rfl⟩, Nat.succ_ne_self _⟩, fp, q⟩
end
section
variable {K : PySem.W.Frag} {T : List (Hd × V)}
theorem enumD_get : ∀ {ds : List D} {k i : Nat} {d : D}, (enumD k ds)[i]? = some d → ∃ e, ds[i]? = some e ∧ d = .tuple [.int ((k + i : Nat) : Int), e]
  | [], _, i, _, h => by simp [enumD] at h
  | x :: xs, k, 0, d, h => by
    rw [enumD] at h
    exact ⟨x, rfl, by simpa using h.symm⟩
  | x :: xs, k, i + 1, d, h => by
    rw [enumD] at h
    obtain ⟨e, h1, h2⟩ := enumD_get (by simpa using h)
    refine ⟨e, by simpa using h1, ?_⟩
    rw [h2]
    congr 3
    omega
theorem enumD_len : ∀ {ds : List D} {k : Nat}, (enumD k ds).length = ds.length
  | [], _ => rfl
  | x :: xs, k => by rw [enumD, List.length_cons, List.length_cons, enumD_len]
theorem pair_hld {s : Sl} {σ : L2.St} {H : Hp} {k : SK} {p : Addr} {x1 x2 : V} {d1 d2 : D} (hk : k.pair = true) (hp : H p = none) (w : WI K s ((.ov (.imm d1), x1) :: (.ov (.imm d2), x2) :: T) σ H) : HldK K k s T σ (upd H p (.tup [x1, x2])) (.tuple [d1, d2]) (.ref p) := by
  unfold HldK
  rw [hk, if_pos rfl]
  exact ⟨x1, x2, d1, d2, rfl, w.newRaw hp⟩
theorem ok_enumL {e : E} {ds : List D} {p : Addr} : ItOk K .enum (Ite K p) [(if e.isPk then .od (.list ds) else .ov (.imm (.list ds)), .ref p)] (enumD 0 ds) where
  step := fun i d hd s U σ H w => by
    obtain ⟨d', hd', rfl⟩ := enumD_get hd
    obtain ⟨p', xs, hp, hl, pl, w1⟩ := hd_its (ds := ds) rfl w
    cases hp
    have hi : i < ds.length := (List.getElem?_eq_some_iff.mp hd').1
    have hr : SqL K H p xs := by rcases pl with ⟨_, h⟩ | ⟨e, _⟩; exact .inl h; cases e
    refine ⟨⟨xs, xs[i]'(by omega), hr, List.getElem?_eq_getElem (by omega)⟩, fun x H' ⟨T', x', e1, e2, e3, hx⟩ => ?_⟩
    subst e1 e3
    have w2 := (WI.item hl hd' (hx xs hr) w1).scal (d := .int ((0 + i : Nat) : Int)) (x := .int (i : Nat)) (fun H => by rw [Nat.zero_add]; exact .int _)
    exact pair_hld rfl e2 w2
  stop := fun s U σ H w => by
    obtain ⟨p', xs, hp, hl, pl, w1⟩ := hd_its (ds := ds) rfl w
    cases hp
    have hr : SqL K H p xs := by rcases pl with ⟨_, h⟩ | ⟨e, _⟩; exact .inl h; cases e
    exact ⟨xs, hr, by rw [enumD_len]; omega⟩
theorem ok_enumT {e : E} {ds : List D} {p : Addr} : ItOk K .enum (IteT K p) [(if e.isPk then .od (.tuple ds) else .ov (.imm (.tuple ds)), .ref p)] (enumD 0 ds) where
  step := fun i d hd s U σ H w => by
    obtain ⟨d', hd', rfl⟩ := enumD_get hd
    obtain ⟨p', xs, hp, hl, pl, w1⟩ := hd_its (ds := ds) rfl w
    cases hp
    have hi : i < ds.length := (List.getElem?_eq_some_iff.mp hd').1
    have hr : SqT K H p xs := by rcases pl with ⟨e, _⟩ | ⟨_, h⟩; cases e; exact h.sqt
    refine ⟨⟨xs, xs[i]'(by omega), hr, List.getElem?_eq_getElem (by omega)⟩, fun x H' ⟨T', x', e1, e2, e3, hx⟩ => ?_⟩
    subst e1 e3
    have w2 := (WI.item hl hd' (hx xs hr) w1).scal (d := .int ((0 + i : Nat) : Int)) (x := .int (i : Nat)) (fun H => by rw [Nat.zero_add]; exact .int _)
    exact pair_hld rfl e2 w2
  stop := fun s U σ H w => by
    obtain ⟨p', xs, hp, hl, pl, w1⟩ := hd_its (ds := ds) rfl w
    cases hp
    have hr : SqT K H p xs := by rcases pl with ⟨e, _⟩ | ⟨_, h⟩; cases e; exact h.sqt
    exact ⟨xs, hr, by rw [enumD_len]; omega⟩
end
section
variable {M : SM} {X : Cx} {W : WX} {c : CC} {pos : Pos}
theorem s_srcEnum (g : Gd M X c) {e : E} {a : Expr} {elts : List Expr} {kk : Nat} {tpos : Pos} {x : Str} {p2 : Pos} (hx : x = "enumerate") (hgl : glB c x = true) (hm : X.mg "enumerate" = none) (st : isStar a = false) (h : PA X [a] (tDs M X.K W [e])) :
    PI X (.Tuple elts kk tpos) (.Call (.Name x p2) [a] [] pos) (tPI M X.K W .enum [e]) := by
  subst hx
  obtain ⟨h1, _, _⟩ := gl_of g hgl
  refine ⟨fun pins s σ H R I hw => (pi_enumA h1 hm h (by rw [starEach_no st]; rfl)).run pins s σ H R I ?_⟩
  obtain ⟨s', T, w, np, hr⟩ := hw
  refine ⟨s', T, w, np, hr.imp fun ds s1 h1 ps H1 l1 l2 w1 => ?_⟩
  obtain ⟨items, hi, k⟩ := h1
  match ds, ps, l1, l2, w1, hi with
  | [d], [p], l1', l2', w1, hi =>
    clear l1' l2'
    have w1 : WI X.K s1 ((if e.isPk then .od d else .ov (.imm d), p) :: T) σ H1 := w1
    have nn : (∀ e' ∈ [e], e'.isPk = false) → noPk0 [((if e.isPk then Hd.od d else .ov (.imm d)), p)] := fun h => by
      rw [h e (by simp)]
      trivial
    cases d <;> simp only [srcOf] at hi <;> try contradiction
    · cases hi
      obtain ⟨a, xs, rfl, hl, pl, w2⟩ := hd_its rfl w1
      have hr : SqL X.K H1 a xs := by rcases pl with ⟨_, h⟩ | ⟨e, _⟩; exact .inl h; cases e
      exact ⟨a, xs, rfl, .inl ⟨hr, k [_] _ H1 w1 nn (ok_enumL (e := e))⟩⟩
    · cases hi
      obtain ⟨a, xs, rfl, hl, pl, w2⟩ := hd_its rfl w1
      have hr : SqT X.K H1 a xs := by rcases pl with ⟨e, _⟩ | ⟨_, h⟩; cases e; exact h.sqt
      exact ⟨a, xs, rfl, .inr ⟨hr, k [_] _ H1 w1 nn (ok_enumT (e := e))⟩⟩
end
end PV
end
section
set_option Elab.async false
set_option linter.all false
set_option maxRecDepth 100000
set_option maxHeartbeats 4000000
/-! PvP2: zip, reversed. -/
namespace PV
open PySem PySem.Spec PyProof.Rows L2 RZ RT
section
variable {K : PySem.W.Frag} {T : List (Hd × V)}
theorem zipD_get : ∀ {ds es : List D} {i : Nat} {d : D}, (zipD ds es)[i]? = some d → ∃ x y, ds[i]? = some x ∧ es[i]? = some y ∧ d = .tuple [x, y]
  | [], _, i, _, h => by simp [zipD] at h
  | _ :: _, [], i, _, h => by simp [zipD] at h
  | x :: xs, y :: ys, 0, d, h => by
    rw [zipD] at h
    exact ⟨x, y, rfl, rfl, by simpa using h.symm⟩
  | x :: xs, y :: ys, i + 1, d, h => by
    rw [zipD] at h
    obtain ⟨a, b, h1, h2, h3⟩ := zipD_get (by simpa using h)
    exact ⟨a, b, by simpa using h1, by simpa using h2, h3⟩
theorem zipD_len : ∀ {ds es : List D}, (zipD ds es).length = min ds.length es.length
  | [], es => by simp [zipD]
  | _ :: _, [] => by simp [zipD]
  | x :: xs, y :: ys => by
    rw [zipD, List.length_cons, zipD_len, List.length_cons, List.length_cons]
    omega
/-- two rows are held: an item of each -/
theorem two_items {e e' : E} {d d' x y : D} {ds es : List D} {i : Nat} {p q v u : V} {s : Sl} {U : List (Hd × V)} {σ : L2.St} {H : Hp} (hq : seqOf d = some ds) (hq' : seqOf d' = some es) (h1 : ds[i]? = some x) (h2 : es[i]? = some y)
    (g1 : ∀ p' xs, p = .ref p' → Pl K H d ds p' xs → xs[i]? = some v) (g2 : ∀ p' xs, q = .ref p' → Pl K H d' es p' xs → xs[i]? = some u)
    (w : WI K s ((if e.isPk then .od d else .ov (.imm d), p) :: (if e'.isPk then .od d' else .ov (.imm d'), q) :: U) σ H) :
    WI K s ((.ov (.imm x), v) :: (.ov (.imm y), u) :: (if e.isPk then .od d else .ov (.imm d), p) :: (if e'.isPk then .od d' else .ov (.imm d'), q) :: U) σ H := by
  obtain ⟨p', xs, hp, hl, pl, w1⟩ := hd_its hq w
  have w2 := WI.item hl h1 (g1 p' xs hp pl) w1
  have w3 : WI K s ((if e'.isPk then .od d' else .ov (.imm d'), q) :: (.ov (.imm x), v) :: (if e.isPk then .od d else .ov (.imm d), p) :: U) σ H := by
    refine w2.perm ?_
    exact (List.Perm.cons _ (List.Perm.swap _ _ _)).trans (List.Perm.swap _ _ _)
  obtain ⟨q', ys, hq2, hl2, pl2, w4⟩ := hd_its hq' w3
  have w5 := WI.item hl2 h2 (g2 q' ys hq2 pl2) w4
  refine w5.perm ?_
  refine (List.Perm.cons _ (List.Perm.swap _ _ _)).trans ((List.Perm.swap _ _ _).trans ?_)
  exact List.Perm.cons _ (List.Perm.cons _ (List.Perm.swap _ _ _))
theorem two_rows {e e' : E} {d d' : D} {ds es : List D} {p q : V} {s : Sl} {U : List (Hd × V)} {σ : L2.St} {H : Hp} (hq : seqOf d = some ds) (hq' : seqOf d' = some es)
    (w : WI K s ((if e.isPk then .od d else .ov (.imm d), p) :: (if e'.isPk then .od d' else .ov (.imm d'), q) :: U) σ H) :
    ∃ p' xs q' ys, p = .ref p' ∧ q = .ref q' ∧ ds.length = xs.length ∧ es.length = ys.length ∧ Pl K H d ds p' xs ∧ Pl K H d' es q' ys := by
  obtain ⟨p', xs, hp, hl, pl, _⟩ := hd_its hq w
  obtain ⟨q', ys, hq2, hl2, pl2, _⟩ := hd_its hq' w.swap
  exact ⟨p', xs, q', ys, hp, hq2, hl, hl2, pl, pl2⟩
theorem Pl.l {H : Hp} {ds ds' : List D} {p : Addr} {xs : List V} (h : Pl K H (.list ds) ds' p xs) : SqL K H p xs := by
  rcases h with ⟨_, h⟩ | ⟨e, _⟩
  · exact .inl h
  · cases e
theorem Pl.t {H : Hp} {ds ds' : List D} {p : Addr} {xs : List V} (h : Pl K H (.tuple ds) ds' p xs) : SqT K H p xs := by
  rcases h with ⟨e, _⟩ | ⟨_, h⟩
  · cases e
  · exact h.sqt
theorem ok_zipL {e e' : E} {ds es : List D} {p q : Addr} : ItOk K .zip (Itz K p q) [(if e.isPk then .od (.list ds) else .ov (.imm (.list ds)), .ref p), (if e'.isPk then .od (.list es) else .ov (.imm (.list es)), .ref q)] (zipD ds es) where
  step := fun i d hd s U σ H w => by
    obtain ⟨x, y, hx, hy, rfl⟩ := zipD_get hd
    obtain ⟨p', xs, q', ys, e1, e2, l1, l2, pl1, pl2⟩ := two_rows (ds := ds) (es := es) rfl rfl w
    cases e1
    cases e2
    have hi : i < ds.length := (List.getElem?_eq_some_iff.mp hx).1
    have hj : i < es.length := (List.getElem?_eq_some_iff.mp hy).1
    refine ⟨⟨xs, ys, xs[i]'(by omega), ys[i]'(by omega), pl1.l, pl2.l, List.getElem?_eq_getElem (by omega), List.getElem?_eq_getElem (by omega)⟩, fun v H' ⟨t, x', y', e1, e2, e3, k1, k2⟩ => ?_⟩
    subst e1 e3
    have w2 := two_items (ds := ds) (es := es) (v := x') (u := y') rfl rfl hx hy (fun p' xs e h => by cases e; exact k1 xs h.l) (fun p' xs e h => by cases e; exact k2 xs h.l) w
    exact pair_hld rfl e2 w2
  stop := fun s U σ H w => by
    obtain ⟨p', xs, q', ys, e1, e2, l1, l2, pl1, pl2⟩ := two_rows (ds := ds) (es := es) rfl rfl w
    cases e1
    cases e2
    refine ⟨xs, ys, pl1.l, pl2.l, ?_⟩
    rw [zipD_len]
    omega
theorem ok_zipT {e e' : E} {ds es : List D} {p q : Addr} : ItOk K .zip (ItzT K p q) [(if e.isPk then .od (.tuple ds) else .ov (.imm (.tuple ds)), .ref p), (if e'.isPk then .od (.tuple es) else .ov (.imm (.tuple es)), .ref q)] (zipD ds es) where
  step := fun i d hd s U σ H w => by
    obtain ⟨x, y, hx, hy, rfl⟩ := zipD_get hd
    obtain ⟨p', xs, q', ys, e1, e2, l1, l2, pl1, pl2⟩ := two_rows (ds := ds) (es := es) rfl rfl w
    cases e1
    cases e2
    have hi : i < ds.length := (List.getElem?_eq_some_iff.mp hx).1
    have hj : i < es.length := (List.getElem?_eq_some_iff.mp hy).1
    refine ⟨⟨xs, ys, xs[i]'(by omega), ys[i]'(by omega), pl1.t, pl2.t, List.getElem?_eq_getElem (by omega), List.getElem?_eq_getElem (by omega)⟩, fun v H' ⟨t, x', y', e1, e2, e3, k1, k2⟩ => ?_⟩
    subst e1 e3
    have w2 := two_items (ds := ds) (es := es) (v := x') (u := y') rfl rfl hx hy (fun p' xs e h => by cases e; exact k1 xs h.t) (fun p' xs e h => by cases e; exact k2 xs h.t) w
    exact pair_hld rfl e2 w2
  stop := fun s U σ H w => by
    obtain ⟨p', xs, q', ys, e1, e2, l1, l2, pl1, pl2⟩ := two_rows (ds := ds) (es := es) rfl rfl w
    cases e1
    cases e2
    refine ⟨xs, ys, pl1.t, pl2.t, ?_⟩
    rw [zipD_len]
    omega
theorem ok_revL {e : E} {ds : List D} {p : Addr} {n : Nat} (hn : n = ds.length) : ItOk K .rev (Itv K p n) [(if e.isPk then .od (.list ds) else .ov (.imm (.list ds)), .ref p)] ds.reverse where
  step := fun i d hd s U σ H w => by
    subst hn
    obtain ⟨p', xs, hp, hl, pl, w1⟩ := hd_its (ds := ds) rfl w
    cases hp
    have hi : i < ds.length := by simpa using (List.getElem?_eq_some_iff.mp hd).1
    rw [List.getElem?_reverse hi] at hd
    refine ⟨⟨hi, xs, xs[ds.length - 1 - i]'(by omega), pl.l, List.getElem?_eq_getElem (by omega)⟩, fun x H' ⟨e1, hx⟩ => ?_⟩
    subst e1
    exact WI.item hl hd (hx xs pl.l) w1
  stop := fun s U σ H w => by
    subst hn
    rw [List.length_reverse]
    exact Nat.le_refl _
theorem ok_revT {e : E} {ds : List D} {p : Addr} {n : Nat} (hn : n = ds.length) : ItOk K .rev (ItvT K p n) [(if e.isPk then .od (.tuple ds) else .ov (.imm (.tuple ds)), .ref p)] ds.reverse where
  step := fun i d hd s U σ H w => by
    subst hn
    obtain ⟨p', xs, hp, hl, pl, w1⟩ := hd_its (ds := ds) rfl w
    cases hp
    have hi : i < ds.length := by simpa using (List.getElem?_eq_some_iff.mp hd).1
    rw [List.getElem?_reverse hi] at hd
    refine ⟨⟨hi, xs, xs[ds.length - 1 - i]'(by omega), pl.t, List.getElem?_eq_getElem (by omega)⟩, fun x H' ⟨e1, hx⟩ => ?_⟩
    subst e1
    exact WI.item hl hd (hx xs pl.t) w1
  stop := fun s U σ H w => by
    subst hn
    rw [List.length_reverse]
    exact Nat.le_refl _
theorem downD_len : ∀ {n : Nat} {hi : Int}, (downD hi n).length = n
  | 0, _ => rfl
  | n + 1, hi => by rw [downD, List.length_cons, downD_len]
theorem downD_get : ∀ {n i : Nat} {hi : Int} {d : D}, (downD hi n)[i]? = some d → d = .int (hi + (i : Nat) * (-1)) ∧ i < n
  | 0, i, _, _, h => by simp [downD] at h
  | n + 1, 0, hi, d, h => by
    rw [downD] at h
    have : d = .int hi := by simpa using h.symm
    exact ⟨by rw [this]; congr 1; omega, by omega⟩
  | n + 1, i + 1, hi, d, h => by
    rw [downD] at h
    obtain ⟨h1, h2⟩ := downD_get (by simpa using h)
    refine ⟨?_, by omega⟩
    rw [h1]
    congr 1
    omega
theorem range3_eq {d1 d2 d3 : D} {items : List D} (h : rangeD [d1, d2, d3] = some items) : ∃ a b, d1 = .int a ∧ d2 = .int b ∧ d3 = .int (-1) ∧ (small62 a && small62 b) = true ∧ items = downD a (a - b).toNat := by
  unfold rangeD at h
  split at h
  · rename_i e; cases e
  · rename_i e; cases e
  · rename_i a b e
    cases e
    split at h
    · rename_i hz
      cases h
      exact ⟨_, _, rfl, rfl, rfl, hz, rfl⟩
    · cases h
  · cases h
theorem ok_dwn {hi : Int} {n : Nat} : ItOk K .range (Itc hi (-1) n) [] (downD hi n) where
  step := fun i d hd s U σ H w => by
    obtain ⟨rfl, hi⟩ := downD_get hd
    refine ⟨hi, fun x H' ⟨e1, e2⟩ => ?_⟩
    subst e1 e2
    exact w.scal fun _ => .int _
  stop := fun s U σ H w => by rw [downD_len]; exact Nat.le_refl n
end
section
variable {M : SM} {X : Cx} {W : WX} {c : CC} {pos : Pos}
theorem s_srcRange3 (g : Gd M X c) {e1 e2 e3 : E} {tg a b d : Expr} {x : Str} {p2 : Pos} (hx : x = "range") (hgl : glB c x = true) (hm : X.mg "range" = none) (st1 : isStar a = false) (st2 : isStar b = false) (st3 : isStar d = false) (h : PA X [a, b, d] (tDs M X.K W [e1, e2, e3])) :
    PI X tg (.Call (.Name x p2) [a, b, d] [] pos) (tPI M X.K W .range [e1, e2, e3]) := by
  subst hx
  obtain ⟨h1, _, _⟩ := gl_of g hgl
  refine ⟨fun pins s σ H R I hw => (pi_range3 h1 hm h (by rw [starEach_no st1]) (by rw [starEach_no st2, starEach_no st3]; rfl)).run pins s σ H R I ?_⟩
  obtain ⟨s', T, w, np, hr⟩ := hw
  refine ⟨s', T, w, np, hr.imp fun ds s1 h1 ps H1 l1 l2 w1 => ?_⟩
  obtain ⟨items, hi, k⟩ := h1
  match ds, ps, l1, l2, w1, hi with
  | [d1, d2, d3], [q1, q2, q3], _, _, w1, hi =>
    have wa := WI.is1 hd_od (show WI X.K s1 (_ :: _ :: _ :: T) σ H1 from w1)
    have wb := WI.is1 hd_od wa.drop
    have wc := WI.is1 hd_od wb.drop
    have wd := wc.drop
    obtain ⟨i, j, rfl, rfl, rfl, hz, rfl⟩ := range3_eq (show rangeD [d1, d2, d3] = some items by simpa only [srcOf] using hi)
    simp only [Bool.and_eq_true] at hz
    obtain ⟨z1, z2⟩ := small_of hz.1
    obtain ⟨z3, z4⟩ := small_of hz.2
    exact ⟨_, _, -1, _, by rw [wa.rd.int', wb.rd.int', wc.rd.int'], RgC.neg z1 z2 z3 z4, k [] _ H1 wd (fun _ => trivial) ok_dwn⟩
theorem s_srcRev (g : Gd M X c) {e : E} {a tg : Expr} {x : Str} {p2 : Pos} (hx : x = "reversed") (hgl : glB c x = true) (hm : X.mg "reversed" = none) (st : isStar a = false) (he : PE X a (tE M X.K W e)) :
    PI X tg (.Call (.Name x p2) [a] [] pos) (tPI M X.K W .rev [e]) := by
  subst hx
  obtain ⟨h1, _, _⟩ := gl_of g hgl
  refine ⟨fun pins s σ H R I hw => (pi_revA h1 hm (tO_of he) (starEach_no st)).run pins s σ H R I ?_⟩
  obtain ⟨s', T, w, np, hr⟩ := hw
  have np : noPk T ∨ (e.quiet && true) = true := np
  rw [Bool.and_true] at np
  simp only [evDs] at hr
  rw [Res.bind] at hr
  refine ⟨s', T, w, np, hr.imp fun v s1 h1 p H1 w1 => ?_⟩
  obtain ⟨items, hi, k⟩ := h1
  have w1 : WI X.K s1 ((if e.isPk then .od v.toD else .ov (.imm v.toD), p) :: T) σ H1 := by
    unfold hd at w1
    exact w1
  have nn : ∀ d : D, (∀ e' ∈ [e], e'.isPk = false) → noPk0 [((if e.isPk then Hd.od d else .ov (.imm d)), p)] := fun d h => by
    rw [h e (by simp)]
    trivial
  cases hv : v.toD <;> rw [hv] at hi w1 <;> simp only [srcOf] at hi <;> try contradiction
  · cases hi
    obtain ⟨a, xs, rfl, hl, pl, w2⟩ := hd_its rfl w1
    exact ⟨a, xs, rfl, .inl ⟨pl.l, k [_] _ H1 w1 (nn _) (ok_revL (e := e) hl.symm)⟩⟩
  · cases hi
    obtain ⟨a, xs, rfl, hl, pl, w2⟩ := hd_its rfl w1
    exact ⟨a, xs, rfl, .inr ⟨pl.t, k [_] _ H1 w1 (nn _) (ok_revT (e := e) hl.symm)⟩⟩
theorem s_srcZip (g : Gd M X c) {e e' : E} {a b : Expr} {elts : List Expr} {kk : Nat} {tpos : Pos} {x : Str} {p2 : Pos} (hx : x = "zip") (hgl : glB c x = true) (hm : X.mg "zip" = none) (st : isStar a = false) (st' : isStar b = false) (h : PA X [a, b] (tDs M X.K W [e, e'])) :
    PI X (.Tuple elts kk tpos) (.Call (.Name x p2) [a, b] [] pos) (tPI M X.K W .zip [e, e']) := by
  subst hx
  obtain ⟨h1, _, _⟩ := gl_of g hgl
  refine ⟨fun pins s σ H R I hw => (pi_zipA h1 hm h (by rw [starEach_no st]) (back_no (by simpa using st'))).run pins s σ H R I ?_⟩
  obtain ⟨s', T, w, np, hr⟩ := hw
  refine ⟨s', T, w, np, hr.imp fun ds s1 h1 ps H1 l1 l2 w1 => ?_⟩
  obtain ⟨items, hi, k⟩ := h1
  match ds, ps, l1, l2, w1, hi with
  | [d, d'], [p, p'], l1', l2', w1, hi =>
    clear l1' l2'
    have w1 : WI X.K s1 ((if e.isPk then .od d else .ov (.imm d), p) :: (if e'.isPk then .od d' else .ov (.imm d'), p') :: T) σ H1 := w1
    have nn : (∀ e1 ∈ [e, e'], e1.isPk = false) → noPk0 [((if e.isPk then Hd.od d else .ov (.imm d)), p), ((if e'.isPk then Hd.od d' else .ov (.imm d')), p')] := fun h => by
      rw [h e (by simp), h e' (by simp)]
      trivial
    cases d <;> cases d' <;> simp only [srcOf] at hi <;> try contradiction
    · cases hi
      obtain ⟨q, xs, q', ys, rfl, rfl, _, _, pl1, pl2⟩ := two_rows rfl rfl w1
      exact ⟨q, q', xs, ys, rfl, .inl ⟨pl1.l, pl2.l, k [_, _] _ H1 w1 nn (ok_zipL (e := e) (e' := e'))⟩⟩
    · cases hi
      obtain ⟨q, xs, q', ys, rfl, rfl, _, _, pl1, pl2⟩ := two_rows rfl rfl w1
      exact ⟨q, q', xs, ys, rfl, .inr ⟨pl1.t, pl2.t, k [_, _] _ H1 w1 nn (ok_zipT (e := e) (e' := e'))⟩⟩
end
end PV
end
section
set_option Elab.async false
set_option linter.all false
set_option maxRecDepth 100000
set_option maxHeartbeats 4000000
/-! PvQ: list comprehensions. -/
namespace PV
open PySem PySem.Spec PyProof.Rows L2
def WF : WX := fun _ _ _ _ => False
theorem takes_F {X : Cx} : Takes X WF := by
  intro u s' h
  obtain ⟨a, B, sI, pins, σ, H, cls, d, e, I, nb, up, sky, na, os, ag, w⟩ := h
  exact w.elim
section
variable {M : SM} {X : Cx} {W : WX} {c : CC} {pos : Pos}
theorem Res.noX {α : Type} {K : PySem.W.Frag} {W W' : WX} {T T' : List (Hd × V)} {σ σ' : L2.St} {P : α → Sl → Prop} {r : R α} (h : Res M K W T σ P r.noX) : Res M K W' T' σ' P r := by
  cases r
  · exact h
  · exact h.elim
  · exact h.elim
def tAl (M : SM) (K : PySem.W.Frag) (W : WX) (cs : List E) : TT := fun σ H Q => ∃ s T, WI K s T σ H ∧ (noPk T ∨ E.quietA cs = true) ∧
  Res M K W T σ (fun b s' => ∀ H', WI K s' T σ H' → Q b H') (evAll M.ft cs s)
theorem s_alNil : PTs X [] (tAl M X.K W []) := by
  refine ⟨fun pins s σ H Q I hw => pts_nil.run pins s σ H Q I ?_⟩
  obtain ⟨s', T, w, np, hr⟩ := hw
  exact hr H w
theorem s_alOne {e : E} {x : Expr} (h : PT X x (tT M X.K W e)) : PTs X [x] (tAl M X.K W [e]) := by
  refine ⟨fun pins s σ H Q I hw => (pts_one h).run pins s σ H Q I ?_⟩
  obtain ⟨s', T, w, np, hr⟩ := hw
  have np : noPk T ∨ (e.quiet && true) = true := np
  rw [Bool.and_true] at np
  simp only [evAll] at hr
  refine ⟨s', T, w, np, (Res.bind.mp hr).imp fun v s1 h1 => ?_⟩
  split at h1
  · exact ⟨true, rfl, h1⟩
  · exact ⟨false, rfl, h1⟩
  · exact h1.elim
theorem gPK_of {K : PySem.W.Frag} {k : SK} {t : Tgt} {s s' : Sl} {T : List (Hd × V)} {σ : L2.St} {H : Hp} {d : D} {x : V} {Q : L2.St → Hp → Prop} (h : HldK K k s T σ H d x) (hb : Tgt.bind t d s = some s') (q : ∀ σ' H', Fr t.slots σ σ' → WI K s' T σ' H' → Q σ' H') : gPK K k t x σ H Q := by
  unfold HldK at h
  unfold gPK
  split at h
  · rename_i hp
    obtain ⟨x1, x2, d1, d2, rfl, w⟩ := h
    rw [if_pos hp]
    exact ⟨x1, x2, d1, d2, s, T, w, s', hb, q⟩
  · rename_i hp
    rw [if_neg hp]
    exact ⟨d, s, T, h, s', hb, q⟩
theorem wipe_get {σ : L2.St} : ∀ {vs : List Nat} {j : Nat}, (wipe σ vs)[j]? = if j ∈ vs then (if j < σ.length then some none else none) else σ[j]?
  | [], j => by simp [wipe]
  | v :: vs, j => by
    unfold wipe
    rw [List.getElem?_set, wipe_length, wipe_get (vs := vs)]
    by_cases e : v = j
    · subst e; simp
    · have : ¬ j = v := fun z => e z.symm
      simp [e, this]
theorem wipe_fr {σ σ' : L2.St} {vs : List Nat} (h : Fr vs (wipe σ vs) σ') (l : σ'.length = σ.length) : wipe σ' vs = wipe σ vs := by
  apply List.ext_getElem?
  intro j
  rw [wipe_get, wipe_get, l]
  by_cases e : j ∈ vs
  · simp [e]
  · simp only [e, if_false]
    rw [h j e, wipe_get]
    simp [e]
/-- what holds while the new list grows -/
theorem wi_wipe {K : PySem.W.Frag} {s : Sl} {T : List (Hd × V)} {σ : L2.St} {H : Hp} {vs : List Nat} (w : WI K s T σ H) : WI K (clear vs s) T (wipe σ vs) H := by
  refine (w.clearA vs).sig (wipe_length σ vs) fun i ov e => ?_
  rw [at_clear] at e
  rw [wipe_get]
  split at e
  · cases e
  · rename_i h
    simp [h]
theorem wi_unwipe {K : PySem.W.Frag} {s : Sl} {T : List (Hd × V)} {σ : L2.St} {H : Hp} {vs : List Nat} (hc : clear vs s = s) (w : WI K s T (wipe σ vs) H) : WI K s T σ H := by
  refine w.sig (wipe_length σ vs).symm fun i ov e => ?_
  rw [← hc, at_clear] at e
  rw [wipe_get]
  split at e
  · cases e
  · rename_i h
    simp [h]
theorem sl_ext {a b : Sl} (l : a.length = b.length) (h : ∀ j, at_ a j = at_ b j) : a = b := by
  refine List.ext_getElem l fun j h1 h2 => ?_
  have e := h j
  unfold at_ at e
  rw [List.getElem?_eq_getElem h1, List.getElem?_eq_getElem h2] at e
  exact e
theorem clear_idem {vs : List Nat} {s : Sl} : clear vs (clear vs s) = clear vs s := by
  refine sl_ext clear_len fun j => ?_
  rw [at_clear, at_clear]
  split <;> rfl
theorem comp_k {K : PySem.W.Frag} {t : Tgt} {k : SK} {es cs : List E} {e : E} {σ : L2.St} {H : Hp} {Q : VK} (hpk : (∀ e ∈ es, e.isPk = false) ∨ (E.quietA cs && e.quiet) = true) (ep : e.isPk = false) (hw : tE M K W (.comp t k es cs e) σ H Q) :
    tLc (tPI M K W k es) (gPK K k t) (tAl M K WF cs) (tE M K WF e) t.slots σ H Q := by
  obtain ⟨s', T, w, np, hr⟩ := hw
  have np : noPk T := np.resolve_right (by simp [E.quiet])
  simp only [evE] at hr
  refine ⟨s', T, w, .inl np, (Res.bind.mp hr).imp fun ds s1 h1 => ?_⟩
  cases hit : srcOf k ds with
  | none => rw [hit] at h1; exact h1.elim
  | some items =>
    rw [hit] at h1
    refine ⟨items, rfl, fun T' J H1 w1 nn iok D hD => ?_⟩
    have h1 := Res.bind.mp h1
    have qn : noPk0 T' ∨ (E.quietA cs && e.quiet) = true := by
      rcases hpk with h | h
      · exact .inl (nn h)
      · exact .inr h
    refine ⟨fun i m H => m = items.length - i ∧ i ≤ items.length ∧ ∃ s' acc xs, acc.length = xs.length ∧ clear t.slots s' = s' ∧ WI K s' (T' ++ ((.raw (.lst xs), .ref D) :: (zipH acc xs ++ T))) (wipe σ t.slots) H ∧
      Res M K W T σ (fun vs s2 => ∀ x H', WI K s2 ((.ov (.ol vs), x) :: T) σ H' → Q x H') (loopC t.slots (Tgt.bind t) (fun s => evAll M.ft cs s) (fun s => evE M.ft e s) (items.drop i) s' acc), ⟨items.length, by simp, Nat.zero_le _, clear t.slots s1, [], [], rfl, clear_idem, ?_, h1⟩, ?_⟩
    · have w2 := (wi_wipe (vs := t.slots) w1).newRaw (o := .lst []) hD
      exact w2.perm List.perm_middle.symm
    · rintro i m H2 ⟨rfl, hle, s2, acc, xs, hl, hcl, w2, hres⟩
      by_cases hlt : i < items.length
      · have hdr : items.drop i = items[i] :: items.drop (i + 1) := List.drop_eq_getElem_cons hlt
        rw [hdr] at hres
        simp only [loopC] at hres
        cases hb : Tgt.bind t items[i] s2 with
        | none => rw [hb] at hres; exact hres.elim
        | some s3 =>
          rw [hb] at hres
          have hres := Res.bind.mp hres
          obtain ⟨go, step⟩ := iok.step i items[i] (List.getElem?_eq_getElem hlt) s2 _ _ H2 w2
          refine .inr ⟨go, fun H' => ∃ s' acc xs, acc.length = xs.length ∧ clear t.slots s' = s' ∧ WI K s' (T' ++ ((.raw (.lst xs), .ref D) :: (zipH acc xs ++ T))) (wipe σ t.slots) H' ∧
            Res M K W T σ (fun vs s2 => ∀ x H', WI K s2 ((.ov (.ol vs), x) :: T) σ H' → Q x H') (loopC t.slots (Tgt.bind t) (fun s => evAll M.ft cs s) (fun s => evE M.ft e s) (items.drop (i + 1)) s' acc), fun H' h => ⟨items.length - (i + 1), by omega, rfl, hlt, h⟩, fun x H' hy => ?_⟩
          refine gPK_of (step x H' hy) hb fun σ3 H3 fr w3 => ?_
          have hlen : σ3.length = σ.length := by
            have e1 := w3.len
            have e2 := bind_len hb
            have e3 := w2.len
            rw [wipe_length] at e3
            omega
          have hw3 := wipe_fr fr hlen
          refine ⟨hw3, ?_⟩
          have npT : noPk (T' ++ ((.raw (.lst xs), .ref D) :: (zipH acc xs ++ T))) ∨ (E.quietA cs = true ∧ e.quiet = true) := by
            rcases qn with q | q
            · exact .inl (np_app q (np_app (noPk_zip acc xs) np))
            · exact .inr (by simpa using q)
          -- the end of a turn
          have fin : ∀ {s4 : Sl} {H4 : Hp} {acc' : List OV} {xs' : List V}, WI K s4 (T' ++ ((.raw (.lst xs'), .ref D) :: (zipH acc' xs' ++ T))) σ3 H4 → WI K (clear t.slots s4) (T' ++ ((.raw (.lst xs'), .ref D) :: (zipH acc' xs' ++ T))) (wipe σ t.slots) H4 := fun {s4 H4 acc' xs'} w4 => by
            have := wi_wipe (vs := t.slots) w4
            rwa [hw3] at this
          refine ⟨s3, _, w3, npT.imp_right And.left, (Res.noX hres).imp fun b s4 h4 H4 w4 => ?_⟩
          cases b with
          | false =>
            simp only [Bool.false_eq_true, if_false] at h4 ⊢
            exact ⟨clear t.slots s4, acc, xs, hl, clear_idem, fin w4, h4⟩
          | true =>
            simp only [if_true] at h4 ⊢
            have h4 := Res.bind.mp h4
            refine ⟨s4, _, w4, npT.imp_right And.right, (Res.noX h4).imp fun v s5 h5 y H5 w5 => ?_⟩
            rw [ep] at w5
            have w5 : WI K s5 ((.ov v, y) :: (T' ++ ((.raw (.lst xs), .ref D) :: (zipH acc xs ++ T)))) σ3 H5 := w5
            have w6 : WI K s5 ((.raw (.lst xs), .ref D) :: ((.ov v, y) :: (T' ++ (zipH acc xs ++ T)))) σ3 H5 := by
              refine w5.perm ?_
              refine List.Perm.trans ?_ (List.Perm.swap _ _ _)
              exact List.Perm.cons _ List.perm_middle
            refine ⟨xs, w6.rawAt, ?_⟩
            split at h5
            · rename_i hsz
              rw [lim_eq] at hsz
              refine ⟨by omega, clear t.slots s5, acc ++ [v], xs ++ [y], by simp [hl], clear_idem, ?_, h5⟩
              have w7 := w6.write (o' := .lst (xs ++ [y]))
              refine fin (w7.perm ?_)
              rw [zipH_app hl]
              have p1 : ((Hd.ov v, y) :: (T' ++ (zipH acc xs ++ T))).Perm (T' ++ (zipH acc xs ++ (Hd.ov v, y) :: T)) := by
                rw [← List.append_assoc, ← List.append_assoc]
                exact List.perm_middle.symm
              refine (List.Perm.cons _ p1).trans ?_
              refine List.perm_middle.symm.trans ?_
              rw [List.append_assoc]
              exact List.Perm.refl _
            · exact h5.elim
      · have e : i = items.length := by omega
        subst e
        have hdr : items.drop items.length = [] := List.drop_length
        rw [hdr] at hres
        refine .inl ⟨iok.stop s2 _ _ H2 w2, ?_⟩
        have w3 : WI K s2 ((.raw (.lst xs), .ref D) :: (zipH acc xs ++ T)) (wipe σ t.slots) H2 := w2.drops
        exact hres _ _ ((wi_unwipe hcl w3).cls hl)
theorem s_comp {own : List (Str × Nat)} {t : Tgt} {k : SK} {es cs : List E} {e : E} {elt tg iter : Expr} {ifs : List Expr} {scope : Scope} (hc : X.calm = true) (hN : X.N.Nodup) (hi : PI X tg iter (tPI M X.K W k es)) (hpk : (∀ e ∈ es, e.isPk = false) ∨ (E.quietA cs && e.quiet) = true)
    (ok : BlkOk X.N X.env.scope scope own) (hown : own.map (·.2) = t.slots)
    (hg : ∀ (s : Shared) (H : Hp) (C : Addr) (cl : List (Str × Addr)) (fp : List Addr), PG (X.blk s H scope (compEnvC scope cl C X.env) fp) tg (gPK X.K k t))
    (ht : ∀ (s : Shared) (H : Hp) (C : Addr) (cl : List (Str × Addr)) (fp : List Addr), PTs (X.blk s H scope (compEnvC scope cl C X.env) fp) ifs (tAl M X.K WF cs))
    (he : ∀ (s : Shared) (H : Hp) (C : Addr) (cl : List (Str × Addr)) (fp : List Addr), PE (X.blk s H scope (compEnvC scope cl C X.env) fp) elt (tE M X.K WF e)) (ep : e.isPk = false)
    (hs : ∀ x, foldedSetIterable iter X.env x = pure x) : PE X (.ListComp elt [⟨tg, iter, ifs, 0⟩] scope pos) (tE M X.K W (.comp t k es cs e)) := by
  have base := pe_lc (pos := pos) hc hN hi ok hg ht he hs
  rw [hown] at base
  exact ⟨fun pins s σ H Q I hw => base.run pins s σ H Q I (comp_k hpk ep hw)⟩
end
end PV
end
section
set_option Elab.async false
set_option linter.all false
set_option maxRecDepth 100000
set_option maxHeartbeats 4000000
/-! PvR: what a def promises; its call. -/
namespace PV
open PySem PySem.Spec PyProof.Rows L2
instance : Inhabited L2.V := ⟨.non⟩
/-! ### arguments in the parameters' order -/
theorem vals_getD {xs : List V} {us : List Value} (r : Vals xs us) (i : Nat) : RelV (xs.getD i default) (us.getD i default) := by
  cases h : xs[i]? with
  | none =>
    have h2 : us[i]? = none := by
      rw [List.getElem?_eq_none_iff] at h ⊢
      rw [← r.length]
      exact h
    rw [List.getD_eq_getElem?_getD, List.getD_eq_getElem?_getD, h, h2]
    rfl
  | some x =>
    obtain ⟨u, h2, k⟩ := r.get h
    rw [List.getD_eq_getElem?_getD, List.getD_eq_getElem?_getD, h, h2]
    exact k
theorem vals_reo {xs : List V} {us : List Value} (r : Vals xs us) : ∀ pm : List Nat, Vals (reo pm xs) (reo pm us)
  | [] => .nil
  | i :: pm => .cons (vals_getD r i) (vals_reo r pm)
theorem zip_range : ∀ (vs : List OV) (xs : List V), vs.length = xs.length → (List.range xs.length).map (fun i => (Hd.ov (vs.getD i default), xs.getD i default)) = zipH vs xs := by
  intro vs xs hl
  apply List.ext_getElem?
  intro i
  unfold zipH
  rw [List.getElem?_map, List.getElem?_zipWith]
  rcases Nat.lt_or_ge i xs.length with h | h
  · rw [List.getElem?_range h, List.getElem?_eq_getElem h, List.getElem?_eq_getElem (by omega : i < vs.length)]
    simp [List.getD_eq_getElem?_getD, List.getElem?_eq_getElem h, List.getElem?_eq_getElem (by omega : i < vs.length)]
  · rw [List.getElem?_eq_none (by simpa using h), List.getElem?_eq_none h, List.getElem?_eq_none (by omega : vs.length ≤ i)]
    rfl
theorem zip_reo {vs : List OV} {xs : List V} {pm : List Nat} (hl : vs.length = xs.length) (hp : pm.Perm (List.range xs.length)) : (zipH (reo pm vs) (reo pm xs)).Perm (zipH vs xs) := by
  rw [← zip_range vs xs hl]
  have e : zipH (reo pm vs) (reo pm xs) = pm.map fun i => (Hd.ov (vs.getD i default), xs.getD i default) := by
    unfold zipH reo
    rw [List.zipWith_map_left, List.zipWith_map_right]
    induction pm with
    | nil => rfl
    | cons i pm ih => simp
  rw [e]
  exact hp.map _

/-! ### what a def promises -/
/-- a def's promise, with the guards -/
structure FnG (P : Program) (w : World) (K : PySem.W.Frag) (mg : Str → Option Value) (base : Heap) (k : Nat) (f : Addr) (fd : FuncData) (ps : List Str) (sp : Sp) : Prop where
  len : ∀ vs H Q E, sp vs H Q E → vs.length = ps.length
  run : ∀ (A : Around) (outer : List Env) (s : Shared) (H : Hp) (args : Args) (us : List Value) (vs : List V) (Q : VK) (E : XK), Room k A → A.guards = some [] → Env0 P w K mg base A outer s H → BindsTo s fd args (ps.zip us) → Vals vs us → sp vs H Q E →
    codeAny (model P w) A (.call (.ref f) args) (CR (L2.CX P w) outer P w H s Q E) s
theorem run_g {X : Cx} {W : WX} {k : Nat} {f : Addr} {fd : FuncData} {ps : List Str} {sp : Sp} {pins : List (Addr × Obj)} {σ : L2.St} {H : Hp} {s : Shared} {Q : VK} {us' us : List Value} {kw : List (Str × Value)} {vs : List V}
    (F : FnG X.prog X.w X.K X.mg X.base k f fd ps sp) (hr : Room k X.A) (hg : X.A.guards = some []) (hb : BindsTo s fd ⟨us', kw⟩ (ps.zip us)) (tk : Takes X W) (I : Inv X pins σ H s) (r : Vals vs us) (h : sp vs H Q fun c d H' => W c d σ H') :
    wpAny (model X.prog X.w) X.A (call (.ref f) us' kw) (EP X pins σ Q) X.xe s := by
  refine wpAny_call (codeAny_mono (F.run X.A X.stack s H ⟨us', kw⟩ us vs Q _ hr hg I.env0 hb r h) fun r s' hq => ?_)
  cases r with
  | error e => exact tk e s' (XE.of_call I (fun _ _ _ h => h) hq)
  | ok fl => cases fl <;> first | exact I.after hq | exact False.elim hq
/-- the lent ones among the arguments -/
def lentV (is : List Nat) (xs : List V) : List V := is.map fun i => xs.getD i default
def spF (M : SM) (K : PySem.W.Frag) (fi : FnI) (f : Nat) : Sp := fun vs H Q E => vs.length = fi.ps.length ∧ ∃ (ovs : List OV) (T : List (Hd × V)), ovs.length = vs.length ∧ noPk T ∧ WI K [] (zipH ovs vs ++ T) [] H ∧
  match M.ft f ovs with
  | .ok v os => ∀ x H', os.length = fi.fn.lent.length → WI K [] ((.ov v, x) :: (zipH os (lentV fi.fn.lent vs) ++ T)) [] H' → Q x H'
  | .exc c d os => ∀ x dx H', os.length = fi.fn.lent.length → WI K [] (XH M c d x dx ++ (zipH os (lentV fi.fn.lent vs) ++ T)) [] H' → E (.ref (M.ca c)) (XD M c dx) H'
  | .bad => False
/-- how a def's values are bound: n positional, keywords ks; pm to the parameters' order -/
def KB (K : PySem.W.Frag) (fd : FuncData) (ps : List Str) (n : Nat) (ks : List Str) (pm : List Nat) : Prop :=
  ∀ (s : Shared) (us ws : List Value), K.In s.heap → us.length = n → ws.length = ks.length → BindsTo s fd ⟨us, ks.zip ws⟩ (ps.zip (reo pm (us ++ ws)))
/-- the defs of the text, as they stand around a body -/
def Defs (M : SM) (P : Program) (w : World) (K : PySem.W.Frag) (mg : Str → Option Value) (base : Heap) (k : Nat) : Prop :=
  ∀ (f : Nat) (fi : FnI), M.C.fns[f]? = some fi → ∃ (fa : Addr) (fd : FuncData), mg fi.name = some (.ref fa) ∧ PySem.W.keepIn K (.ref fa) = true ∧ FnG P w K mg base k fa fd fi.ps (spF M K fi f) ∧
    ∀ n ks pm, (f, n, ks, pm) ∈ M.C.kws → KB K fd fi.ps n ks pm
section
variable {M : SM} {X : Cx} {W : WX} {c : CC} {pos : Pos}
/-! ### the arguments -/
def valH : List AV → List V → List (Hd × V)
  | .val v :: as, x :: xs => (.ov v, x) :: valH as xs
  | .lent _ :: as, _ :: xs => valH as xs
  | _, _ => []
def lentOk (σ : L2.St) : List AV → List V → Prop
  | .lent i :: as, x :: xs => σ[i]? = some (some x) ∧ lentOk σ as xs
  | .val _ :: as, _ :: xs => lentOk σ as xs
  | _, _ => True
def tA (M : SM) (K : PySem.W.Frag) (W : WX) (es : List E) : TA := fun σ H Q => ∃ s T, WI K s T σ H ∧ noPk T ∧
  Res M K W T σ (fun as s' => ∀ xs H', xs.length = es.length → as.length = es.length → lentOk σ as xs → WI K s' (valH as xs ++ T) σ H' → Q xs H') (evA M.ft es s)
def tArg (M : SM) (K : PySem.W.Frag) (W : WX) : E → TE
  | .io i => tVar i
  | e => tE M K W e
theorem tA_cons {e : E} {es : List E} {K : PySem.W.Frag} {σ : L2.St} {H : Hp} {Q : List V → Hp → Prop} (hp : e.isPk = false) (h : tA M K W (e :: es) σ H Q) : tCons (tArg M K W e) (tA M K W es) σ H Q := by
  obtain ⟨s', T, w, np, hr⟩ := h
  simp only [evA] at hr
  have hr := Res.bind.mp hr
  by_cases hio : e.isIo = true
  · cases e with
    | io i =>
      simp only [evE] at hr
      cases e1 : at_ s' i with
      | none => rw [e1] at hr; exact hr.elim
      | some ov =>
        rw [e1] at hr
        obtain ⟨x, hx⟩ := w.atS e1
        refine ⟨x, hx, s', T, w, np, (Res.bind.mp hr).imp fun as s2 k xs H' l1 l2 ok w2 => ?_⟩
        exact k (x :: xs) H' (by rw [List.length_cons, List.length_cons, l1]) (by rw [List.length_cons, List.length_cons, l2]) ⟨hx, ok⟩ w2
    | _ => simp [E.isIo] at hio
  · have ea : ∀ v, e.arg v = .val v := fun v => by cases e <;> first | rfl | (simp [E.isIo] at hio)
    have et : tArg M K W e = tE M K W e := by cases e <;> first | rfl | (simp [E.isIo] at hio)
    show tArg M K W e σ H _
    rw [et]
    refine ⟨s', T, w, .inl np, hr.imp fun v s1 h1 x H1 w1 => ?_⟩
    rw [hp] at w1
    have w1 : WI K s1 ((.ov v, x) :: T) σ H1 := w1
    refine ⟨s1, _, w1, np, ((Res.bind.mp h1).push _).imp fun as s2 k xs H' l1 l2 ok w2 => ?_⟩
    rw [ea] at k
    exact k (x :: xs) H' (by rw [List.length_cons, List.length_cons, l1]) (by rw [List.length_cons, List.length_cons, l2]) ok (w2.perm List.perm_middle)
theorem s_aNil : PA X [] (tA M X.K W []) := by
  refine ⟨fun pos pins s σ H Q I hw => pa_nil.run pos pins s σ H Q I ?_⟩
  obtain ⟨s', T, w, np, hr⟩ := hw
  exact hr [] H rfl rfl trivial w
theorem s_aCons {e : E} {es : List E} {x : Expr} {xs : List Expr} (hp : e.isPk = false) (he : PE X x (tArg M X.K W e)) (hr : PA X xs (tA M X.K W es)) (st : isStar x = false) : PA X (x :: xs) (tA M X.K W (e :: es)) :=
  ⟨fun pos pins s σ H Q I hw => (pa_cons he hr (starEach_no st)).run pos pins s σ H Q I (tA_cons hp hw)⟩
theorem s_kNil : PK X [] (tA M X.K W []) := by
  refine ⟨fun pos pins s σ H Q I hw => pk_nil.run pos pins s σ H Q I ?_⟩
  obtain ⟨s', T, w, np, hr⟩ := hw
  exact hr [] H rfl rfl trivial w
theorem s_kCons {e : E} {es : List E} {x : Expr} {nm : Option Str} {kp : Pos} {kws : List Keyword} (hp : e.isPk = false) (he : PE X x (tArg M X.K W e)) (hr : PK X kws (tA M X.K W es)) : PK X (⟨nm, x, kp⟩ :: kws) (tA M X.K W (e :: es)) :=
  ⟨fun pos pins s σ H Q I hw => (pk_cons he hr).run pos pins s σ H Q I (tA_cons hp hw)⟩
theorem evA_app {ft : FT} : ∀ {a b : List E} {s : Sl}, evA ft (a ++ b) s = (evA ft a s).bind fun x s1 => (evA ft b s1).bind fun y s2 => .ok (x ++ y) s2
  | [], b, s => by
    simp only [List.nil_append, evA, R.bind]
    cases evA ft b s <;> rfl
  | e :: a, b, s => by
    simp only [List.cons_append, evA]

    cases evE ft e s with
    | ok v s1 =>
      simp only [R.bind]
      rw [evA_app (a := a)]
      cases evA ft a s1 with
      | ok x s2 =>
        simp only [R.bind]
        cases evA ft b s2 <;> rfl
      | exc c d s2 => rfl
      | bad => rfl
    | exc c d s1 => rfl
    | bad => rfl
end
end PV
end
section
set_option Elab.async false
set_option linter.all false
set_option maxRecDepth 100000
set_option maxHeartbeats 4000000
/-! PvS: the call of a def. -/
namespace PV
open PySem PySem.Spec PyProof.Rows L2
section
variable {M : SM} {K : PySem.W.Frag} {W : WX} {T : List (Hd × V)} {σ : L2.St} {s s2 : Sl} {H : Hp}
theorem Res.ok {α : Type} {P P' : α → Sl → Prop} {r : R α} (h : Res M K W T σ P r) (k : ∀ a s, r = .ok a s → P a s → P' a s) : Res M K W T σ P' r := by
  cases r
  · exact k _ _ rfl h
  · exact h
  · exact h
theorem Res.pushs {α : Type} {P : α → Sl → Prop} {r : R α} : ∀ (U : List (Hd × V)), Res M K W T σ P r → Res M K W (U ++ T) σ P r
  | [], h => h
  | u :: U, h => Res.push u (Res.pushs U h)
theorem noPk_val : ∀ (as : List AV) (xs : List V), noPk0 (valH as xs)
  | [], _ => trivial
  | .val _ :: _, [] => trivial
  | .lent _ :: _, [] => trivial
  | .val _ :: as, _ :: xs => noPk_val as xs
  | .lent _ :: as, _ :: xs => noPk_val as xs
theorem valH_app : ∀ {as bs : List AV} {xs ys : List V}, as.length = xs.length → valH (as ++ bs) (xs ++ ys) = valH as xs ++ valH bs ys
  | [], _, [], _, _ => rfl
  | [], _, _ :: _, _, h => by cases h
  | _ :: _, _, [], _, h => by cases h
  | .val v :: as, bs, x :: xs, ys, h => by
    show (Hd.ov v, x) :: valH (as ++ bs) (xs ++ ys) = (Hd.ov v, x) :: (valH as xs ++ valH bs ys)
    rw [valH_app (by simpa using h)]
  | .lent _ :: as, bs, x :: xs, ys, h => valH_app (as := as) (by simpa using h)
theorem lentOk_app : ∀ {as bs : List AV} {xs ys : List V}, as.length = xs.length → lentOk σ as xs → lentOk σ bs ys → lentOk σ (as ++ bs) (xs ++ ys)
  | [], _, [], _, _, _, h => h
  | [], _, _ :: _, _, h, _, _ => by cases h
  | _ :: _, _, [], _, h, _, _ => by cases h
  | .val v :: as, bs, x :: xs, ys, h, h1, h2 => lentOk_app (as := as) (xs := xs) (by simpa using h) h1 h2
  | .lent _ :: as, bs, x :: xs, ys, h, h1, h2 => ⟨h1.1, lentOk_app (as := as) (xs := xs) (by simpa using h) h1.2 h2⟩
theorem take_ok : ∀ {as : List AV} {xs : List V} {vs : List OV} {s s2 : Sl} {T : List (Hd × V)}, takeAll as s = some (vs, s2) → as.length = xs.length → noPk T → lentOk σ as xs → WI K s (valH as xs ++ T) σ H → vs.length = xs.length ∧ WI K s2 (zipH vs xs ++ T) σ H
  | [], [], vs, s, s2, T, h, _, np, ok, w => by
    rw [takeAll] at h
    cases h
    exact ⟨rfl, w⟩
  | [], _ :: _, _, _, _, _, _, h, _, _, _ => by cases h
  | _ :: _, [], _, _, _, _, _, h, _, _, _ => by cases h
  | .val v :: as, x :: xs, vs, s, s2, T, h, hl, np, ok, w => by
    rw [takeAll] at h
    cases q : takeAll as s with
    | none => rw [q] at h; cases h
    | some p =>
      obtain ⟨vs', s'⟩ := p
      rw [q] at h
      cases h
      have w1 : WI K s (valH as xs ++ ((.ov v, x) :: T)) σ H := w.perm List.perm_middle.symm
      obtain ⟨l, w2⟩ := take_ok (as := as) (T := (.ov v, x) :: T) q (by simpa using hl) np ok w1
      exact ⟨by simp [l], w2.perm List.perm_middle⟩
  | .lent i :: as, x :: xs, vs, s, s2, T, h, hl, np, ok, w => by
    rw [takeAll] at h
    cases q0 : at_ s i with
    | none => rw [q0] at h; cases h
    | some ov =>
      rw [q0] at h
      have h : ((takeAll as (s.set i none)).map fun p => (ov :: p.1, p.2)) = some (vs, s2) := h
      cases q : takeAll as (s.set i none) with
      | none => rw [q] at h; cases h
      | some p =>
        obtain ⟨vs', s'⟩ := p
        rw [q] at h
        cases h
        obtain ⟨hx, ok⟩ := ok
        obtain ⟨x', hx', w1⟩ := WI.mvOut (np_app (noPk_val as xs) np) (show WI K s (valH as xs ++ T) σ H from w) q0
        rw [hx] at hx'
        cases hx'
        have w1 : WI K (s.set i none) (valH as xs ++ ((.ov ov, x) :: T)) σ H := w1.perm List.perm_middle.symm
        obtain ⟨l, w2⟩ := take_ok (as := as) (T := (.ov ov, x) :: T) q (by simpa using hl) np ok w1
        exact ⟨by simp [l], w2.perm List.perm_middle⟩
def lentX : List AV → List V → List V
  | .val _ :: as, _ :: xs => lentX as xs
  | .lent _ :: as, x :: xs => x :: lentX as xs
  | _, _ => []
theorem put_ok : ∀ {as : List AV} {xs : List V} {os : List OV} {s : Sl}, as.length = xs.length → os.length = (lentX as xs).length → noPk T → lentOk σ as xs → WI K s (zipH os (lentX as xs) ++ T) σ H → WI K (putAll as os s) T σ H
  | [], _, os, s, _, hl, np, ok, w => by
    have : os = [] := List.length_eq_zero_iff.mp (by rw [hl]; cases ‹List V› <;> rfl)
    subst this
    exact w
  | _ :: _, [], _, _, h, _, _, _, _ => by cases h
  | .val v :: as, x :: xs, os, s, h, hl, np, ok, w => put_ok (as := as) (xs := xs) (by simpa using h) hl np ok w
  | .lent i :: as, x :: xs, [], s, h, hl, np, ok, w => by cases hl
  | .lent i :: as, x :: xs, o :: os, s, h, hl, np, ok, w => by
    have w1 : WI K s ((.ov o, x) :: (zipH os (lentX as xs) ++ T)) σ H := w
    exact put_ok (as := as) (xs := xs) (by simpa using h) (by simpa [lentX] using hl) np ok.2 (w1.setSame (np_app (noPk_zip _ _) np) ok.1)
def lentPA : List AV → Nat → List Nat
  | [], _ => []
  | .lent _ :: as, k => k :: lentPA as (k + 1)
  | .val _ :: as, k => lentPA as (k + 1)
theorem lentPA_of {ft : FT} : ∀ {es : List E} {s s' : Sl} {as : List AV} {k : Nat}, evA ft es s = .ok as s' → lentPA as k = lentPos es k
  | [], s, s', as, k, h => by
    simp only [evA] at h
    cases h
    rfl
  | e :: es, s, s', as, k, h => by
    simp only [evA] at h
    cases q : evE ft e s with
    | exc c d s1 => rw [q] at h; cases h
    | bad => rw [q] at h; cases h
    | ok v s1 =>
      rw [q] at h
      have h : ((evA ft es s1).bind fun vs s2 => R.ok (e.arg v :: vs) s2) = .ok as s' := h
      cases q2 : evA ft es s1 with
      | exc c d s1 => rw [q2] at h; cases h
      | bad => rw [q2] at h; cases h
      | ok as' s2 =>
        rw [q2] at h
        cases h
        have ih := lentPA_of (k := k + 1) q2
        cases e <;> (simp only [E.arg, lentPA, lentPos]; rw [ih])
theorem lentV_of : ∀ {as : List AV} {pre xs : List V}, as.length = xs.length → lentV (lentPA as pre.length) (pre ++ xs) = lentX as xs
  | [], _, _, _ => by
    rw [lentPA, lentX]
    · rfl
    · intros; contradiction
    · intros; contradiction
  | _ :: _, _, [], h => by cases h
  | .val v :: as, pre, x :: xs, h => by
    have ih := lentV_of (as := as) (pre := pre ++ [x]) (xs := xs) (by simpa using h)
    rw [lentPA, lentX]
    simpa using ih
  | .lent i :: as, pre, x :: xs, h => by
    have ih := lentV_of (as := as) (pre := pre ++ [x]) (xs := xs) (by simpa using h)
    rw [lentPA, lentX]
    show (pre ++ x :: xs).getD pre.length default :: lentV (lentPA as (pre.length + 1)) (pre ++ x :: xs) = _
    rw [show lentV (lentPA as (pre.length + 1)) (pre ++ x :: xs) = lentX as xs by simpa using ih]
    simp [List.getD_eq_getElem?_getD]
theorem reo_range {xs : List V} : reo (List.range xs.length) xs = xs := by
  unfold reo
  apply List.ext_getElem?
  intro i
  rw [List.getElem?_map]
  rcases Nat.lt_or_ge i xs.length with h | h
  · rw [List.getElem?_range h, List.getElem?_eq_getElem h]
    simp [List.getD_eq_getElem?_getD, List.getElem?_eq_getElem h]
  · rw [List.getElem?_eq_none (by simpa using h), List.getElem?_eq_none h]
    rfl
theorem reo_len {α : Type} [Inhabited α] {pm : List Nat} {xs : List α} : (reo pm xs).length = pm.length := by simp [reo]
end
section
variable {M : SM} {X : Cx} {W : WX} {c : CC} {pos : Pos}
theorem kw_names {env : Env} {pos : Pos} : ∀ {kws : List Keyword}, (backToKw pos (keywordEach kws env)).filterMap (·.1) = (kwNames kws).filterMap id ∧ ((kwNames kws).all (·.isSome) = true → (backToKw pos (keywordEach kws env)).all (·.1.isSome) = true ∧ (backToKw pos (keywordEach kws env)).any (·.1.isNone) = false)
  | [] => ⟨rfl, fun _ => ⟨rfl, rfl⟩⟩
  | ⟨n, v, p⟩ :: r => by
    obtain ⟨h1, h2⟩ := kw_names (env := env) (pos := pos) (kws := r)
    have e : backToKw pos (keywordEach (⟨n, v, p⟩ :: r) env) = (n, do let x ← eval v env; standAt pos; pure x) :: backToKw pos (keywordEach r env) := rfl
    rw [e]
    constructor
    · cases n with
      | none => simpa [kwNames] using h1
      | some n => simpa [kwNames] using h1
    · intro h
      cases n with
      | none => simp [kwNames] at h
      | some n =>
        have h : (kwNames r).all (·.isSome) = true := by simpa [kwNames] using h
        obtain ⟨a, b⟩ := h2 h
        simp only [List.all_cons, List.any_cons, Option.isSome_some, Option.isNone_some, Bool.true_and, Bool.false_or]
        exact ⟨a, b⟩
theorem call_at (g : Gd M X c) {k : Nat} (tk : Takes X W) (hr : Room k X.A) {f : Nat} {fi : FnI} {fa : Addr} {fd : FuncData} {es : List E} {pm : List Nat} {as : List Expr} {kws : List Keyword}
    (hk : PySem.W.keepIn X.K (.ref fa) = true) (F : FnG X.prog X.w X.K X.mg X.base k fa fd fi.ps (spF M X.K fi f)) (kb : KB X.K fd fi.ps as.length ((kwNames kws).filterMap id) pm) (hall : (kwNames kws).all (·.isSome) = true)
    (hes : es.length = as.length + ((kwNames kws).filterMap id).length) (hA : PA X as (tA M X.K W (es.take as.length))) (hK : PK X kws (tA M X.K W (es.drop as.length))) (hst : as.any isStar = false)
    (hpm : pm.Perm (List.range es.length)) (hps : pm.length = fi.ps.length) (hlent : lentPos es 0 = fi.fn.lent) (hpl : pm = List.range es.length ∨ fi.fn.lent = [])
    {pins : List (Addr × Obj)} {s : Shared} {σ : L2.St} {H : Hp} {Q : VK} (I : Inv X pins σ H s) (hw : tE M X.K W (.call f es pm) σ H Q) :
    wpAny (model X.prog X.w) X.A (callWith pos (.ref fa) [] (backTo pos (starEach as X.env)) (backToKw pos (keywordEach kws X.env))) (EP X pins σ Q) X.xe s := by
  obtain ⟨s', T, w, np, hres⟩ := hw
  have np : noPk T := np.resolve_right (by simp [E.quiet])
  simp only [evE] at hres
  have hres := Res.bind.mp hres
  have e0 : evA M.ft es s' = (evA M.ft (es.take as.length) s').bind fun x s1 => (evA M.ft (es.drop as.length) s1).bind fun y s2 => .ok (x ++ y) s2 := by
    rw [← evA_app, List.take_append_drop]
  have ltake : (es.take as.length).length = as.length := by rw [List.length_take]; omega
  have ldrop : (es.drop as.length).length = ((kwNames kws).filterMap id).length := by rw [List.length_drop]; omega
  -- the whole row of arguments
  have fin : ∀ {s1 : Shared} {H1 : Hp} {av : List AV} {xs1 xs2 : List V} {us1 us2 : List Value} {sl1 : Sl}, Inv X pins σ H1 s1 → Vals xs1 us1 → Vals xs2 us2 → xs1.length = as.length → xs2.length = ((kwNames kws).filterMap id).length → lentPA av 0 = lentPos es 0 → av.length = (xs1 ++ xs2).length → lentOk σ av (xs1 ++ xs2) → WI X.K sl1 (valH av (xs1 ++ xs2) ++ T) σ H1 →
      Res M X.K W T σ (fun v s' => ∀ x H', WI X.K s' ((if (E.call f es pm).isPk then .od v.toD else .ov v, x) :: T) σ H' → Q x H') (match takeAll av sl1 with
        | some (vs, s2) => (M.ft f (reo pm vs)).back av s2
        | none => .bad) → wpAny (model X.prog X.w) X.A (call (.ref fa) us1 (((kwNames kws).filterMap id).zip us2)) (EP X pins σ Q) X.xe s1 := by
    intro s1 H1 av xs1 xs2 us1 us2 sl1 I1 r1 r2 l1 l2 hpa lav ok w1 hq
    cases ht : takeAll av sl1 with
    | none => rw [ht] at hq; exact hq.elim
    | some p =>
      obtain ⟨vs, s2⟩ := p
      rw [ht] at hq
      have hq : Res M X.K W T σ (fun v s' => ∀ x H', WI X.K s' ((.ov v, x) :: T) σ H' → Q x H') ((M.ft f (reo pm vs)).back av s2) := hq
      obtain ⟨lv, w2⟩ := take_ok ht lav np ok w1
      have b := kb s1 us1 us2 I1.kIn (by rw [← r1.length]; exact l1) (by rw [← r2.length]; exact l2)
      have r := r1.append r2
      have hlen : (xs1 ++ xs2).length = es.length := by rw [List.length_append]; omega
      have lx : lentV fi.fn.lent (reo pm (xs1 ++ xs2)) = lentX av (xs1 ++ xs2) := by
        have base := lentV_of (as := av) (pre := []) (xs := xs1 ++ xs2) lav
        rw [show ([] : List V).length = 0 from rfl, hpa, hlent, List.nil_append] at base
        rcases hpl with e | e
        · rw [e, ← hlen, reo_range]
          exact base
        · rw [e] at base ⊢
          exact base
      have nps : noPk (slH s2 σ ++ T) := np_app (noPk_slH _ _) np
      have fs := w2.fits
      refine run_g F hr g.grd b tk I1 (vals_reo r pm) ⟨by rw [reo_len]; exact hps, reo pm vs, slH s2 σ ++ T, by rw [reo_len, reo_len], nps, ?_, ?_⟩
      · have w3 : WI X.K [] (slH s2 σ ++ (zipH vs (xs1 ++ xs2) ++ T)) [] H1 := w2.toHeld (np_app (noPk_zip _ _) np)
        have w4 := WI.mid w3
        exact w4.perm ((zip_reo lv (by rw [hlen]; exact hpm)).symm.append_right _)
      · cases hfr : M.ft f (reo pm vs) with
        | ok v os =>
          rw [hfr] at hq
          rw [lx]
          have lX : fi.fn.lent.length = (lentX av (xs1 ++ xs2)).length := by rw [← lx]; simp [lentV]
          intro x H' hos w5
          have w6 : WI X.K [] (slH s2 σ ++ (((.ov v, x) :: zipH os (lentX av (xs1 ++ xs2))) ++ T)) [] H' := WI.mid (A := (.ov v, x) :: zipH os (lentX av (xs1 ++ xs2))) w5
          have w7 := w6.ofHeld (show noPk (((.ov v, x) :: zipH os (lentX av (xs1 ++ xs2))) ++ T) from np_app (noPk_zip _ _) np) fs
          refine hq x H' ?_
          refine put_ok (T := (.ov v, x) :: T) (xs := xs1 ++ xs2) lav (by rw [hos, lX]) np ok ?_
          exact w7.perm List.perm_middle.symm
        | exc cc d os =>
          rw [hfr] at hq
          rw [lx]
          have lX : fi.fn.lent.length = (lentX av (xs1 ++ xs2)).length := by rw [← lx]; simp [lentV]
          intro x dx H' hos w5
          have w6 : WI X.K [] (slH s2 σ ++ ((XH M cc d x dx ++ zipH os (lentX av (xs1 ++ xs2))) ++ T)) [] H' := WI.mid (A := XH M cc d x dx ++ zipH os (lentX av (xs1 ++ xs2))) (by rw [List.append_assoc]; exact w5)
          have w7 := w6.ofHeld (show noPk ((XH M cc d x dx ++ zipH os (lentX av (xs1 ++ xs2))) ++ T) from np_app (noPk0_app.mpr ⟨noPk_XH, noPk_zip _ _⟩) np) fs
          refine hq x dx H' ?_
          refine put_ok (T := XH M cc d x dx ++ T) (xs := xs1 ++ xs2) lav (by rw [hos, lX]) (np_app (noPk_XH) np) ok ?_
          refine w7.perm ?_
          have p1 : (zipH os (lentX av (xs1 ++ xs2)) ++ (XH M cc d x dx ++ T)).Perm (XH M cc d x dx ++ zipH os (lentX av (xs1 ++ xs2)) ++ T) := by
            rw [← List.append_assoc]
            exact List.perm_append_comm.append_right T
          exact p1.symm
        | bad => rw [hfr] at hq; exact hq.elim
  -- the arguments, one after another
  have rd : tA M X.K W (es.take as.length) σ H (fun xs1 H1 => tA M X.K W (es.drop as.length) σ H1 fun xs2 H2 => xs1.length = as.length ∧ xs2.length = ((kwNames kws).filterMap id).length ∧ ∃ av sl1, lentPA av 0 = lentPos es 0 ∧ av.length = (xs1 ++ xs2).length ∧ lentOk σ av (xs1 ++ xs2) ∧ WI X.K sl1 (valH av (xs1 ++ xs2) ++ T) σ H2 ∧
      Res M X.K W T σ (fun v s' => ∀ x H', WI X.K s' ((if (E.call f es pm).isPk then .od v.toD else .ov v, x) :: T) σ H' → Q x H') (match takeAll av sl1 with
        | some (vs, s2) => (M.ft f (reo pm vs)).back av s2
        | none => .bad)) := by
    have hres2 : Res M X.K W T σ (fun as s1 => lentPA as 0 = lentPos es 0 ∧ Res M X.K W T σ (fun v s' => ∀ x H', WI X.K s' ((if (E.call f es pm).isPk then .od v.toD else .ov v, x) :: T) σ H' → Q x H') (match takeAll as s1 with
        | some (vs, s2) => (M.ft f (reo pm vs)).back as s2
        | none => .bad)) (evA M.ft es s') := hres.ok fun av s1 e h => ⟨lentPA_of e, h⟩
    rw [e0] at hres2
    refine ⟨s', T, w, np, (Res.bind.mp hres2).imp fun a1 s1 k1 xs1 H1 l1 la1 ok1 w1 => ?_⟩
    refine ⟨s1, _, w1, np_app (noPk_val _ _) np, Res.imp (P := fun a2 s2 => lentPA (a1 ++ a2) 0 = lentPos es 0 ∧ Res M X.K W T σ (fun v s' => ∀ x H', WI X.K s' ((if (E.call f es pm).isPk then .od v.toD else .ov v, x) :: T) σ H' → Q x H') (match takeAll (a1 ++ a2) s2 with
        | some (vs, s2) => (M.ft f (reo pm vs)).back (a1 ++ a2) s2
        | none => .bad)) ?_ fun a2 s2 k2 xs2 H2 l2 la2 ok2 w2 => ?_⟩
    · have k1 := Res.bind.mp k1
      exact Res.pushs (valH a1 xs1) k1
    · have ll : a1.length = xs1.length := by omega
      refine ⟨by omega, by omega, a1 ++ a2, s2, k2.1, by rw [List.length_append, List.length_append]; omega, lentOk_app ll ok1 ok2, ?_, k2.2⟩
      rw [valH_app ll, List.append_assoc]
      exact WI.mid w2
  obtain ⟨n1, n2⟩ := kw_names (env := X.env) (pos := pos) (kws := kws)
  obtain ⟨n3, n4⟩ := n2 hall
  cases as with
  | nil =>
    refine PySem.W.callWith_KW0 (h₀ := X.base) I.ok.mod.kin hk n3 ?_ (by rw [n4]; rfl)
    obtain ⟨s9, T9, w9, np9, hr9⟩ := rd
    simp only [List.length_nil, List.take_zero, evA] at hr9
    have rd2 := hr9 [] H rfl rfl trivial w9
    refine thn (hK.run pos pins s σ H _ I rd2) fun us2 s2 ⟨xs2, H2, I2, r2, l1, l2, av, sl1, q1, q2, q3, q4, q5⟩ => ⟨I2.kIn, ?_⟩
    rw [n1]
    exact fin (xs1 := []) (us1 := []) I2 .nil r2 l1 l2 q1 q2 q3 q4 q5
  | cons a as =>
    have st : isStar a = false := by simp at hst; exact hst.1
    refine PySem.W.callWith_KW (h₀ := X.base) I.ok.mod.kin hk n3 (thn (hA.run pos pins s σ H _ I rd) fun us1 s1 ⟨xs1, H1, I1, r1, q⟩ => ?_) (by rw [n4, back_no hst]; rfl) (starEach_no st)
    refine thn (hK.run pos pins s1 σ H1 _ I1 q) fun us2 s2 ⟨xs2, H2, I2, r2, l1, l2, av, sl1, q1, q2, q3, q4, q5⟩ => ⟨I2.kIn, ?_⟩
    rw [n1]
    exact fin I2 r1 r2 l1 l2 q1 q2 q3 q4 q5
theorem s_call (g : Gd M X c) {k : Nat} (tk : Takes X W) (hr : Room k X.A) (D : Defs M X.prog X.w X.K X.mg X.base k) {f : Nat} {fi : FnI} {es : List E} {pm : List Nat} {x : Str} {as : List Expr} {kws : List Keyword} {p2 : Pos}
    (hf : M.C.fns[f]? = some fi) (hx : x = fi.name) (hgl : glB c x = true) (hkw : (f, as.length, (kwNames kws).filterMap id, pm) ∈ M.C.kws) (hall : (kwNames kws).all (·.isSome) = true)
    (hes : es.length = as.length + ((kwNames kws).filterMap id).length) (hA : PA X as (tA M X.K W (es.take as.length))) (hK : PK X kws (tA M X.K W (es.drop as.length))) (hst : as.any isStar = false)
    (hpm : pm.Perm (List.range es.length)) (hps : pm.length = fi.ps.length) (hlent : lentPos es 0 = fi.fn.lent) (hpl : pm = List.range es.length ∨ fi.fn.lent = []) :
    PE X (.Call (.Name x p2) as kws pos) (tE M X.K W (.call f es pm)) := by
  subst hx
  obtain ⟨fa, fd, hm, hk, F, hkb⟩ := D f fi hf
  obtain ⟨h1, h2, h3⟩ := gl_of g hgl
  exact ⟨fun pins s σ H Q I hw => wpAny_Call_Name_kw (ld_glob I h1 hm (call_at g tk hr hk F (hkb _ _ _ hkw) hall hes hA hK hst hpm hps hlent hpl I hw) h2)⟩
theorem look_mem {y : Str} {f : Nat} : ∀ {fs : List (Str × Nat)}, fs.lookup y = some f → (y, f) ∈ fs
  | [], h => by cases h
  | (q1, q2) :: r, h => by
    rw [List.lookup_cons] at h
    cases e2 : (y == q1) with
    | true => rw [e2] at h; cases h; rw [eq_of_beq e2]; simp
    | false =>
      rw [e2] at h
      exact List.mem_cons_of_mem _ (look_mem h)
/-- a slot that holds a def of the module -/
theorem s_callv (g : Gd M X c) {k : Nat} (tk : Takes X W) (hr : Room k X.A) (D : Defs M X.prog X.w X.K X.mg X.base k) {i : Nat} {fs : List (Str × Nat)} {es : List E} {x : Str} {as : List Expr} {p2 : Pos} (hi : nameB c i x = true)
    (hmg : ∀ y a, PySem.W.nsIn X.K mainGlobals y = some (some (.ref a)) → X.mg y = some (.ref a))
    (hfs : ∀ q ∈ fs, ∃ fi, M.C.fns[q.2]? = some fi ∧ q.1 = fi.name ∧ fi.fn.lent = [] ∧ es.length = fi.ps.length ∧ (q.2, as.length, [], List.range es.length) ∈ M.C.kws)
    (hes : es.length = as.length) (hA : PA X as (tA M X.K W es)) (hst : as.any isStar = false) (hlent : lentPos es 0 = []) :
    PE X (.Call (.Name x p2) as [] pos) (tE M X.K W (.callv i fs es)) := by
  refine ⟨fun pins s σ H Q I hw => ?_⟩
  obtain ⟨s', T, w, np, hres⟩ := hw
  have np : noPk T := np.resolve_right (by simp [E.quiet])
  simp only [evE] at hres
  cases e9 : (at_ s' i).bind OV.tok with
  | none => rw [e9] at hres; exact hres.elim
  | some y =>
    rw [e9] at hres
    simp only at hres
    have e0 : at_ s' i = some (.imm (.dict [(.none, .str y)])) := by
      cases e8 : at_ s' i with
      | none => rw [e8] at e9; cases e9
      | some ov =>
        rw [e8] at e9
        cases ov with
        | ol xs => cases e9
        | imm d => rw [tokD_eq (show tokD d = some y from e9)]
    cases e1 : fs.lookup y with
    | none => rw [e1] at hres; exact hres.elim
    | some f =>
      rw [e1] at hres
      have hm : (y, f) ∈ fs := look_mem e1
      obtain ⟨fi, hf, hn, hl, hlen, hkw⟩ := hfs _ hm
      obtain ⟨v, hσ, w2⟩ := w.var e0
      have dq := w2.dp
      rw [show (OV.imm (PyData.dict [(.none, .str y)])).toD = PyData.dict [(.none, .str y)] by rw [OV.toD]] at dq
      cases dq with
      | @fn a _ hns =>
        obtain ⟨fa, fd, hm2, hk, F, hkb⟩ := D f fi hf
        have e3 := hmg _ _ hns
        rw [show y = fi.name from hn, hm2] at e3
        cases e3
        refine wpAny_Call_Name_kw (thn ((nm_var (pos := p2) g hi).run pins s σ H (fun v H1 => v = .ref a ∧ H1 = H) I ⟨.ref a, hσ, rfl, rfl⟩) fun u s1 ⟨v, H1, I1, r1, q1⟩ => ?_)
        obtain ⟨rfl, rfl⟩ := q1
        cases r1
        refine call_at (fi := fi) (es := es) (kws := []) (pm := List.range es.length) (f := f) g tk hr hk F (hkb _ _ _ hkw) rfl (by simpa [kwNames] using hes) (by rw [List.take_of_length_le (by omega)]; exact hA) ?_ hst (.refl _) (by simpa using hlen) (by rw [hl]; exact hlent) (.inl rfl) I1 ?_
        · rw [List.drop_of_length_le (by omega)]
          exact s_kNil
        · exact ⟨s', T, w, .inl np, by simp only [evE]; exact hres⟩
end
end PV
end
section
set_option Elab.async false
set_option linter.all false
set_option maxRecDepth 100000
set_option maxHeartbeats 4000000
/-! PvN2: a list's list; gcd; [::-1]. -/
namespace PV
open PySem PySem.Spec PyProof.Rows L2
section
variable {K : PySem.W.Frag} {T : List (Hd × V)} {σ : L2.St} {s : Sl} {H : Hp}
/-- a slot's list, opened; whatever is made of it is put back -/
theorem WI.slot {i : Nat} {xs : List OV} (np : noPk T) (w : WI K s T σ H) (h : at_ s i = some (.ol xs)) : ∃ p zs, σ[i]? = some (some (.ref p)) ∧ H p = some (.lst zs) ∧ xs.length = zs.length ∧ WI K (s.set i none) ((.raw (.lst zs), .ref p) :: (zipH xs zs ++ T)) σ H := by
  obtain ⟨x, hx, w1⟩ := w.mvOut np h
  obtain ⟨p, zs, rfl, hl, hp, w2⟩ := w1.opn
  exact ⟨p, zs, hx, hp, hl, w2⟩
theorem WI.unslot {i : Nat} {xs : List OV} {p : Addr} {zs : List V} (np : noPk T) (hl : xs.length = zs.length) (hx : σ[i]? = some (some (.ref p))) (w : WI K (s.set i none) ((.raw (.lst zs), .ref p) :: (zipH xs zs ++ T)) σ H) : WI K (s.set i (some (.ol xs))) T σ H := by
  have w1 := (w.cls hl).setSame np hx
  rwa [List.set_set] at w1
theorem ixN_lt {n : Nat} {i : Int} {j : Nat} (h : L2.ixN n i = some j) : j < n := by
  unfold L2.ixN at h
  split at h
  · split at h
    · cases h; omega
    · cases h
  · split at h
    · cases h; omega
    · cases h
theorem zip_at : ∀ {xs : List OV} {zs : List V} {n : Nat} {v : OV} {y : V}, xs.length = zs.length → n < xs.length → (zipH (xs.set n v) (zs.set n y)).Perm ((Hd.ov v, y) :: zipH (xs.eraseIdx n) (zs.eraseIdx n))
  | [], _, _, _, _, _, h => by cases h
  | _ :: _, [], _, _, _, h, _ => by cases h
  | x :: xs, z :: zs, 0, v, y, _, _ => .refl _
  | x :: xs, z :: zs, n + 1, v, y, hl, hn => by
    have h := zip_at (xs := xs) (zs := zs) (n := n) (v := v) (y := y) (by simpa using hl) (by simpa using hn)
    show ((Hd.ov x, z) :: zipH (xs.set n v) (zs.set n y)).Perm ((Hd.ov v, y) :: (Hd.ov x, z) :: zipH (xs.eraseIdx n) (zs.eraseIdx n))
    exact (List.Perm.cons _ h).trans (List.Perm.swap _ _ _)
theorem set_self {α : Type} {xs : List α} {n : Nat} {v : α} (h : xs[n]? = some v) : xs.set n v = xs := by
  obtain ⟨hl, e⟩ := List.getElem?_eq_some_iff.mp h
  rw [← e]
  exact List.set_getElem_self hl
theorem zip_at_self {xs : List OV} {zs : List V} {n : Nat} {v : OV} {y : V} (hl : xs.length = zs.length) (hx : xs[n]? = some v) (hz : zs[n]? = some y) : (zipH xs zs).Perm ((Hd.ov v, y) :: zipH (xs.eraseIdx n) (zs.eraseIdx n)) := by
  have h := zip_at (v := v) (y := y) hl (List.getElem?_eq_some_iff.mp hx).1
  rwa [set_self hx, set_self hz] at h
theorem zip_last {ys : List OV} {ws : List V} {v : OV} (hl : ys.length = ws.length) (h : ys.getLast? = some v) : ∃ y, ws[ws.length - 1]? = some y ∧ (zipH ys ws).Perm ((Hd.ov v, y) :: zipH ys.dropLast ws.dropLast) := by
  have hne : ys ≠ [] := fun e => by rw [e] at h; cases h
  have hpos : 0 < ys.length := List.length_pos_iff.mpr hne
  have hy : ys[ys.length - 1]? = some v := by rw [← List.getLast?_eq_getElem?]; exact h
  have hw : ws.length - 1 < ws.length := by omega
  refine ⟨ws[ws.length - 1], List.getElem?_eq_getElem hw, ?_⟩
  have q := zip_at_self (n := ys.length - 1) (y := ws[ws.length - 1]) hl hy (by rw [hl]; exact List.getElem?_eq_getElem hw)
  rw [List.eraseIdx_eq_dropLast (l := ys) (by omega), List.eraseIdx_eq_dropLast (l := ws) (by omega)] at q
  exact q
/-- a slot's list of lists, opened at a place -/
theorem WI.slotAt {i n : Nat} {xs ys : List OV} (np : noPk T) (w : WI K s T σ H) (h : at_ s i = some (.ol xs)) (hx : xs[n]? = some (.ol ys)) : ∃ p zs q ws, σ[i]? = some (some (.ref p)) ∧ H p = some (.lst zs) ∧ xs.length = zs.length ∧ zs[n]? = some (.ref q) ∧ H q = some (.lst ws) ∧ ys.length = ws.length ∧
    WI K (s.set i none) ((.raw (.lst ws), .ref q) :: (zipH ys ws ++ ((.raw (.lst zs), .ref p) :: (zipH (xs.eraseIdx n) (zs.eraseIdx n) ++ T)))) σ H := by
  obtain ⟨p, zs, hσ, hp, hl, w1⟩ := w.slot np h
  have hn := (List.getElem?_eq_some_iff.mp hx).1
  have hz : zs[n]? = some zs[n] := List.getElem?_eq_getElem (by omega)
  have hq := zip_at_self hl hx hz
  have w2 : WI K (s.set i none) ((.ov (.ol ys), zs[n]) :: ((.raw (.lst zs), .ref p) :: (zipH (xs.eraseIdx n) (zs.eraseIdx n) ++ T))) σ H := by
    refine w1.perm ?_
    exact (List.Perm.cons _ (hq.append_right T)).trans (List.Perm.swap _ _ _)
  obtain ⟨q, ws, e, hl2, hH, w3⟩ := w2.opn
  exact ⟨p, zs, q, ws, hσ, hp, hl, by rw [hz, e], hH, hl2, w3⟩
theorem WI.unslotAt {i n : Nat} {xs ys : List OV} {p q : Addr} {zs ws : List V} (np : noPk T) (hl : xs.length = zs.length) (hn : n < xs.length) (hz : zs[n]? = some (.ref q)) (hl2 : ys.length = ws.length) (hσ : σ[i]? = some (some (.ref p)))
    (w : WI K (s.set i none) ((.raw (.lst ws), .ref q) :: (zipH ys ws ++ ((.raw (.lst zs), .ref p) :: (zipH (xs.eraseIdx n) (zs.eraseIdx n) ++ T)))) σ H) : WI K (s.set i (some (.ol (xs.set n (.ol ys))))) T σ H := by
  have w1 := w.cls hl2
  have h := zip_at (v := .ol ys) (y := .ref q) hl hn
  rw [set_self hz] at h
  refine WI.unslot (zs := zs) np (by simpa using hl) hσ ?_
  refine w1.perm ?_
  exact (List.Perm.swap _ _ _).trans (List.Perm.cons _ (h.symm.append_right T))
end
section
variable {M : SM} {X : Cx} {W : WX} {c : CC} {ast : Expr} {pos : Pos}
theorem s_rev {e : E} {x : Expr} {k : Nat} {p1 p2 p3 : Pos} (he : PE X x (tE M X.K W e)) : PE X (.Subscript x (.Slice none none (some (.UnaryOp .USub (.Constant (.int 1) k p1) p2)) p3) pos) (tE M X.K W (.rev e)) := by
  refine ⟨fun pins s σ H Q I hw => (pe_revL (tO_of he)).run pins s σ H Q I ?_⟩
  obtain ⟨s', T, w, np, hr⟩ := hw
  simp only [evE] at hr
  rw [Res.bind, Res.d] at hr
  refine ⟨s', T, w, np, hr.imp fun v s1 h1 p H1 w1 => ?_⟩
  have w1 := w1.is1 (hd_is e v)
  cases e1 : v.toD <;> rw [e1] at h1 w1 <;> try exact h1.elim
  rename_i ds
  obtain ⟨a, xs, rfl, hl, pl, w2⟩ := WI.its1 (ds := ds) rfl w1
  have hr : SqL X.K H1 a xs := by rcases pl with ⟨_, h⟩ | ⟨e, _⟩; exact .inl h; cases e
  refine ⟨a, xs, rfl, hr, fun b hb => ?_⟩
  exact Fin1.nl (by simp [hl]) (WI.sub hl w2 fun G h => h.rev) hb h1
theorem s_gcd (g : Gd M X c) {e e' : E} {a b : Expr} {x : Str} {p : Pos} (hx : x = "gcd") (hgl : glB c x = true) (hm : X.mg "gcd" = some (.builtin "math.gcd")) (st : isStar a = false) (st' : isStar b = false) (he : PE X a (tE M X.K W e)) (he' : PE X b (tE M X.K W e')) (hq : (!e.isPk || e'.quiet) = true) :
    PE X (.Call (.Name x p) [a, b] [] pos) (tE M X.K W (.gcd e e')) := by
  subst hx
  obtain ⟨h1, _, _⟩ := gl_of g hgl
  refine ⟨fun pins s σ H Q I hw => (pe_callBfun cr_gcd h1 hm (pa_cons (tO_of he) (pa_cons (tO_of he') pa_nil (starEach_no st')) (starEach_no st)) (by decide) (starEach_no st) (back_no (by simpa using st'))).run pins s σ H Q I ?_⟩
  obtain ⟨s', T, w, np, hr⟩ := hw
  simp only [evE] at hr
  rw [Res.bind, Res.d] at hr
  refine ⟨s', T, w, np_l np, hr.imp fun v s1 h1 p H1 w1 => ?_⟩
  rw [Res.bind, Res.d] at h1
  refine ⟨s1, _, w1, np_b hq np, (h1.push _).imp fun u s2 h2 q H2 w2 => ?_⟩
  have w3 := w2.is2 (hd_is e v) (hd_is e' u)
  have d1 := w3.swap.rd
  have d2 := w3.rd
  cases e1 : v.toD <;> rw [e1] at h2 d1 <;> try exact h2.elim
  cases e2 : u.toD <;> rw [e2] at h2 d2 <;> try exact h2.elim
  exact ⟨_, _, by rw [d1.int', d2.int'], Fin1.int w3.drop.drop h2⟩
theorem s_popk (g : Gd M X c) {i : Nat} {k : E} {x : Str} {y : Expr} {p1 p2 apos cpos : Pos} (hx : nameB c i x = true) (hk : PE X y (tE M X.K W k)) (hs : isSlice y = false) (hline : (apos.endLine == cpos.line) = true) :
    PE X (.Call (.Attribute (.Subscript (.Name x p1) y p2) "pop" apos) [] [] cpos) (tE M X.K W (.popk i k)) := by
  have base := pe_bm0 (X := X) (T := "list") (id := "list.pop") PySem.F.plainAttrs_list PySem.F.slot_list_pop (by rfl) mt_pop (pe_ix (pos := p2) ix_list (nm_var (pos := p1) g hx) (tO_of hk) (plain_ix hs)) (by rfl) hline
  refine ⟨fun pins s σ H Q I hw => base.run pins s σ H Q I ?_⟩
  obtain ⟨s', T, w, np, hr⟩ := hw
  have np : noPk T := np.resolve_right (by simp [E.quiet])
  simp only [evE] at hr
  cases e0 : at_ s' i with
  | none => rw [e0] at hr; exact hr.elim
  | some ov0 =>
    rw [e0] at hr
    cases ov0 with
    | imm d => exact hr.elim
    | ol xs0 =>
      simp only at hr
      obtain ⟨v0, hv0⟩ := w.atS e0
      rw [Res.bind, Res.d] at hr
      refine ⟨v0, hv0, s', T, w, .inl np, hr.imp fun v s1 h1 p H1 w1 => ?_⟩
      have dq := (w1.is1 (hd_is k v)).rd
      have w2 := w1.drop
      cases e1 : v.toD <;> rw [e1] at h1 dq <;> try exact h1.elim
      rename_i j
      cases e2 : at_ s1 i with
      | none => rw [e2] at h1; exact h1.elim
      | some ov =>
        rw [e2] at h1
        cases ov with
        | imm d => exact h1.elim
        | ol xs =>
          simp only at h1
          cases e3 : L2.ixN xs.length j with
          | none => rw [e3] at h1; exact h1.elim
          | some n =>
            rw [e3] at h1
            simp only at h1
            cases e4 : xs[n]? with
            | none => rw [e4] at h1; exact h1.elim
            | some o =>
              rw [e4] at h1
              cases o with
              | imm d => exact h1.elim
              | ol ys =>
                simp only at h1
                cases e5 : ys.getLast? with
                | none => rw [e5] at h1; exact h1.elim
                | some z =>
                  rw [e5] at h1
                  obtain ⟨a, zs, q, ws, hσ, hp, hl, hz, hq, hl2, w3⟩ := w2.slotAt np e2 e4
                  rw [hv0] at hσ
                  cases hσ
                  obtain ⟨u, hu, hperm⟩ := zip_last hl2 e5
                  refine ⟨a, zs, j, .ref q, rfl, dq.int', .inl (.inl hp), ?_, .inl ⟨rfl, ws, .inl (.inl hq)⟩, q, ws, u, rfl, rfl, hq, hu, ?_⟩
                  · unfold L2.atI
                    rw [← hl, e3]
                    exact hz
                  · refine h1 u _ ?_
                    show WI X.K _ ((.ov z, u) :: T) σ _
                    refine WI.unslotAt (T := (.ov z, u) :: T) (ws := ws.dropLast) np hl (ixN_lt e3) hz (by simp [hl2]) hv0 ?_
                    have w4 : WI X.K (s1.set i none) ((.raw (.lst ws), .ref q) :: (zipH ys.dropLast ws.dropLast ++ ((.raw (.lst zs), .ref a) :: (zipH (xs.eraseIdx n) (zs.eraseIdx n) ++ ((.ov z, u) :: T))))) σ H1 := by
                      refine w3.perm (List.Perm.cons _ ?_)
                      have p1 := hperm.append_right ((Hd.raw (HO.lst zs), V.ref a) :: (zipH (xs.eraseIdx n) (zs.eraseIdx n) ++ T))
                      refine p1.trans ?_
                      have p2 : ((Hd.ov z, u) :: ((zipH ys.dropLast ws.dropLast ++ ((Hd.raw (HO.lst zs), V.ref a) :: zipH (xs.eraseIdx n) (zs.eraseIdx n))) ++ T)).Perm ((zipH ys.dropLast ws.dropLast ++ ((Hd.raw (HO.lst zs), V.ref a) :: zipH (xs.eraseIdx n) (zs.eraseIdx n))) ++ ((Hd.ov z, u) :: T)) := List.perm_middle.symm
                      simpa using p2
                    exact w4.write
end
end PV
end
section
set_option Elab.async false
set_option linter.all false
set_option maxRecDepth 100000
set_option maxHeartbeats 4000000
/-! PvY0: an own error's class, called by keyword. -/
namespace PV
namespace Ek
open PySem PySem.Spec PySem.W PySem.Calls PyProof.Rows PySem.HandSPX Builtin
section
variable {M : Model} {A : Around} {E : Value → Shared → Prop} {h : Heap} {g : Array GenState} {d : Drawn} {t : Nat} {os : OsState}
variable {nm q : Str} {C N : Addr} {bs bm bmB : List Value} {hdct : Bool} {sn : List Str} {sub : List Value} {ab : Bool} {col : Option Bool} {dd : Option Addr} {k0 k1 k2 k3 k5 : Option Value} {B newId initId : String} {kws : List (Str × Value)}
theorem check_new_kw (F : ExcBaseFacts B newId initId bmB) (hT : ∀ X : String, bm.contains (.type X) = bmB.contains (.type X)) {rest : List Value} {Q : Unit → Shared → Prop}
    (hC : h.get? C = some (excClassObj nm q C N bs bm hdct sn sub ab col dd k0 k1 k2 k3 k5 newId)) (hq : Q () ⟨h, g, d, t, os⟩) : wpAny M A (checkBuiltinCall newId ⟨.ref C :: rest, kws⟩) Q E ⟨h, g, d, t, os⟩ := by
  have hcont : (Value.ref C :: bm).contains (.type B) = true := by rw [List.contains_cons, hT, F.hasB, Bool.or_true]
  have hstar := F.noStar
  simp only [checkBuiltinCall, F.newKind, F.newSplit, F.newRow]
  repeat (first | refine wpAny_loadPart_at hC ?_ | (refine wpAny_isSubtype_exc hC ?_; rw [hcont]) | refine wpAny_staticBase_exc hC ?_ | refine wpAny_madeBy_exc hC ?_ | simp only [bne_self_eq_false, Bool.false_eq_true, if_false] | wp_step)
  exact hq
end
section
variable {prog : Program} {w : World} {A : Around} {E : Value → Shared → Prop} {R : Result → Shared → Prop} {h : Heap} {g : Array GenState} {d : Drawn} {t : Nat} {os : OsState}
variable {nm q : Str} {C N : Addr} {bs bm bmB : List Value} {hdct : Bool} {sn : List Str} {sub : List Value} {ab : Bool} {col : Option Bool} {dd : Option Addr} {k0 k1 k2 k3 k5 : Option Value} {B newId initId : String} {kws : List (Str × Value)}
theorem new_kw (F : ExcBaseFacts B newId initId bmB) (hT : ∀ X : String, bm.contains (.type X) = bmB.contains (.type X)) {rest : List Value}
    (hC : h.get? C = some (excClassObj nm q C N bs bm hdct sn sub ab col dd k0 k1 k2 k3 k5 newId))
    (hq : R (.ok (.ret (.ref (h.objs.size + 1)))) ⟨(h.push { cls := .type "tuple", data := .seq rest.toArray }).push
      { cls := .ref C, data := .fields #[.ref h.objs.size, .none, .none, .none, .bool false, .none] }, g, d, t, os⟩) (hrest : rest.length ≤ sizeLine) :
    codeAny (model prog w) A (.builtin newId ⟨.ref C :: rest, kws⟩) R ⟨h, g, d, t, os⟩ := by
  have hends := F.ends
  have hcB : (Value.ref C :: bm).contains (.type B) = true := by rw [List.contains_cons, hT, F.hasB, Bool.or_true]
  have hcA : (Value.ref C :: bm).contains (.type "AttributeError") = false := by rw [List.contains_cons, hT, F.noAttr]; rfl
  have hcN : (Value.ref C :: bm).contains (.type "NameError") = false := by rw [List.contains_cons, hT, F.noName]; rfl
  refine codeAny_builtinAt F.entry ?_
  unfold Builtin.«BaseException.__new__»
  refine PyProof.Rows.wpAt_bind ?_
  show PyProof.Rows.wpAt _ _ _ (stack >>= _) _ _ _
  refine PyProof.Rows.wpAt_bind (PyProof.Rows.wpAt_stack fun p below => wpAt_of_wpAny ?_)
  wp_walk
  refine wpAt_of_wpAny ?_
  rw [F.owner]
  repeat (first | with_reducible refine wpAny_madeHere_exc F.canon hC ?_ | with_reducible refine wpAny_loadPart_at hC ?_ | (with_reducible refine wpAny_isSubtype_exc hC ?_; first | rw [hcB] | rw [hcA] | rw [hcN]) | wp_step)
  show R _ _
  rw [Heap.size_push]
  exact hq
theorem type_call_kw (F : ExcBaseFacts B newId initId bmB) (hT : ∀ X : String, bm.contains (.type X) = bmB.contains (.type X)) {rest : List Value} {fI : Addr} {Q : Fin → Shared → Prop}
    (hC : h.get? C = some (excClassObj nm q C N bs bm hdct sn sub ab col dd k0 k1 k2 k3 k5 newId))
    (hi : W.Looks (model prog w) h (typeLookup (.ref C) "__init__") (some (.ref fI))) (hb : ∀ self, W.Looks (model prog w) h (bindSpecial (.ref fI) self) (.ref fI, [self])) (hrest : rest.length ≤ sizeLine)
    (hq : codeAny (model prog w) A (.call (.ref fI) ⟨.ref (h.objs.size + 1) :: rest, kws⟩)
      (fun r s' => match r with | .ok (.ret v) => v = .none ∧ Q (.done (.ret (.ref (h.objs.size + 1)))) s' | .ok _ => False | .error e => E e s')
      ⟨(h.push (W.kdv_tup rest)).push (excO C h.objs.size), g, d, t, os⟩) :
    wpAny (model prog w) A (Builtin.«type.__call__» ⟨.ref C :: rest, kws⟩) Q E ⟨h, g, d, t, os⟩ := by
  repeat (first | with_reducible refine wpAny_loadPart_at hC ?_ | with_reducible refine wpAny_madeBy_exc hC ?_ | wp_step)
  refine codeAny_call_builtin_code (Code.quiet_builtin _ F.quiet) (check_new_kw F hT hC ?_)
  refine new_kw F hT hC ?_ hrest
  show wpAny _ _ _ _ _ _
  have k : ∀ b o, h.get? b = some o → ((h.push (W.kdv_tup rest)).push (excO C h.objs.size)).get? b = some o := fun b o e => Heap.get?_push_of_some _ (Heap.get?_push_of_some _ e)
  have hC₁ := k _ _ hC
  have hget : ((h.push (W.kdv_tup rest)).push (excO C h.objs.size)).get? (h.objs.size + 1) = some (excO C h.objs.size) := by heap_get
  have hcC : (Value.ref C :: bm).contains (.ref C) = true := by simp
  have i1 := hi.keeps k
  have b1 := (hb (.ref (h.objs.size + 1))).keeps k
  unfold isInstance
  repeat (first | with_reducible refine wpAny_loadPart_at hget ?_ | (with_reducible refine wpAny_isSubtype_exc hC₁ ?_; rw [hcC]) | wp_step)
  show wpAny _ _ (typeLookup (.ref C) _) _ _ _
  refine i1.at ?_
  refine wpAny_holding (wpAny_bind (b1.at ?_))
  refine wpAny_bind (wpAny_call (codeAny_mono hq fun r s' z => ?_))
  rcases r with e | (v | _ | _ | _) <;> first | exact z | exact z.elim | skip
  obtain ⟨rfl, z⟩ := z
  first
    | exact wpAny_pure (wpAny_pure z)
    | (wp_walk; exact z)
theorem call_kw (F : ExcBaseFacts B newId initId bmB) (hT : ∀ X : String, bm.contains (.type X) = bmB.contains (.type X)) {rest : List Value} {fI : Addr}
    (hC : h.get? C = some (excClassObj nm q C N bs bm hdct sn sub ab col dd k0 k1 k2 k3 k5 newId))
    (hi : W.Looks (model prog w) h (typeLookup (.ref C) "__init__") (some (.ref fI))) (hb : ∀ self, W.Looks (model prog w) h (bindSpecial (.ref fI) self) (.ref fI, [self])) (hrest : rest.length ≤ sizeLine)
    (hq : codeAny (model prog w) (A.under (.builtin "type.__call__" ⟨.ref C :: rest, kws⟩)) (.call (.ref fI) ⟨.ref (h.objs.size + 1) :: rest, kws⟩) (W.InitBack (h.objs.size + 1) R)
      ⟨(h.push (W.kdv_tup rest)).push (excO C h.objs.size), g, d, t, os⟩) :
    codeAny (model prog w) A (.call (.ref C) ⟨rest, kws⟩) R ⟨h, g, d, t, os⟩ := by
  have f1 := tc_lookup
  have f2 := tc_bind (.ref C)
  have hTy : (⟨h, g, d, t, os⟩ : Shared).TypeIs (.ref C) "type" := ⟨_, hC, rfl⟩
  refine codeAny_of_tree ?_
  show wpAny _ _ (callAny (.ref C) _) _ _ _
  repeat (any_goals (first | assumption | with_reducible refine wpAny_loadPart_at hC ?_ | wp_step))
  refine ⟨rfl, ?_⟩
  refine codeAny_call_builtin_at (Code.quiet_builtin _ (by decide +kernel)) entry_typeCall (wpAny_check_type_call_sub hC (type_call_kw F hT hC hi hb hrest ?_))
  refine codeAny_mono hq fun r s' z => ?_
  rcases r with e | (v | _ | _ | _) <;> exact z
end
end Ek
end PV
end
section
set_option Elab.async false
set_option linter.all false
set_option maxRecDepth 100000
set_option maxHeartbeats 4000000
/-! PvY: an own error, made: super().__init__('..'), self.at = at. -/
namespace PV
namespace Er
open PySem PySem.Spec PySem.W PySem.Calls PyProof.Rows PySem.HandSPX Builtin Builtin.ObjectAttr
/-- own classes, then Exception's line -/
def refsEx : List Value → Bool
  | .ref _ :: r => refsEx r
  | l => l == ESX.exTail
theorem refsEx_cases (l : List Value) (e : refsEx l = true) : (∃ c r, l = .ref c :: r ∧ refsEx r = true) ∨ l = ESX.exTail := by
  unfold refsEx at e
  split at e
  · exact .inl ⟨_, _, rfl, e⟩
  · exact .inr (beq_iff_eq.mp e)
theorem refsEx_pass (self : Value) : ∀ l : List Value, refsEx l = true → refuseLoop self "__setattr__" l = pure ()
  | l, e => by
    rcases refsEx_cases l e with ⟨c, r, rfl, h⟩ | rfl
    · rw [refuseLoop_ref]
      exact refsEx_pass self r h
    · exact PySem.F.store_Exception.passes self
theorem refsEx_has (X : String) : ∀ l : List Value, refsEx l = true → l.contains (.type X) = ESX.exTail.contains (.type X)
  | l, e => by
    rcases refsEx_cases l e with ⟨c, r, rfl, h⟩ | rfl
    · rw [List.contains_cons, refsEx_has X r h]
      rfl
    · rfl
theorem refsEx_ne {l : List Value} (e : refsEx l = true) : l.isEmpty = false := by
  rcases refsEx_cases l e with ⟨c, r, rfl, h⟩ | rfl <;> rfl
section
variable {prog : Program} {w : World} {A : Around} {R : Result → Shared → Prop} {hp : Heap} {g : Array GenState} {dr : Drawn} {t : Nat} {os : OsState}
/-- the first field of a new error -/
theorem osa_ex {K : Frag} {name : Str} {tk : Tok} {v : Value} {x C : Addr} {fv : Array Value} {cd : ClassData} (X : K.In hp) (hx : hp.get? x = some { cls := .ref C, data := .fields fv }) (hcd : clsIn K C = some cd) (hm : refsEx cd.mro = true) (hh : cd.hasDict = true)
    (ha : findIn K (.ref C) name = some none)
    (fin : ∀ h' tk' dx, (∀ b o, b ≠ x → hp.get? b = some o → h'.get? b = some o) → hp.objs.size ≤ dx → dx ≠ x → h'.get? x = some { cls := .ref C, dict := some dx, data := .fields fv } → h'.Ns1 dx (fun y => if y = name then some v else none) →
      R (.ok (.ret .none)) ⟨h', g, dr, tk', os⟩) : codeAny (model prog w) A (.call (.builtin "object.__setattr__") ⟨[.ref x, .str name tk, v], []⟩) R ⟨hp, g, dr, t, os⟩ := by
  have inst : InstAt hp x { cls := .ref C, data := .fields fv } C none := ⟨hx, rfl, rfl, trivial⟩
  have store := PySem.F.store_object
  have hne := refsEx_ne hm
  have hobj : cd.mro.contains (.type "object") = true := (refsEx_has "object" _ hm).trans (by decide +kernel)
  have xs : x ≠ hp.objs.size := Nat.ne_of_lt (Heap.lt_size hx)
  have isO : Looks (model prog w) hp (isInstance (.ref x) (.type "object")) true := inst.type.andThen (looks_mroIn X (by unfold mroIn; rw [hcd, Option.bind_some, if_neg (by rw [hne]; decide), hobj]))
  refine codeAny_call_builtin store.slot.plain store.entry (@check_slot (model prog w) _ _ ⟨hp, g, dr, t, os⟩ "object.__setattr__" "object" "__setattr__" (.ref x) [.str name tk, v] [] _ store.kind store.split isO (store.args (.ref x) (.str name tk) v) ?_)
  have line : Looks (model prog w) hp (mroOf (.ref C)) cd.mro := (looks_clsIn X hcd).andThen .now
  have noTaker : Looks (model prog w) hp (storeTaker? none) none := .now
  have clsD : Looks (model prog w) hp (classData C) cd := looks_clsIn X hcd
  rw [osa_eq, refuse_eq]
  refine wpAny_bind (wpAny_bind (inst.type.at (wpAny_bind (line.at ?_))))
  rw [refsEx_pass _ _ hm]
  refine wpAny_pure (wpAny_bind (inst.type.at (wpAny_bind ((looks_findIn X ha).at (wpAny_bind (noTaker.at ?_))))))
  show wpAny _ _ (storeInOwnDict (.ref x) (.ref C) (.str name tk) name v false) _ _ _
  obtain ⟨nm, bs, mro, ns, qn, hd, sn, sb, ab, col, del⟩ := cd
  dsimp only at hh
  subst hh
  unfold storeInOwnDict ownDictForStores
  repeat (first | with_reducible refine HandSPX.store_in_new ?_ ?_ | with_reducible refine wpAny_loadPart_at hx ?_ | with_reducible refine clsD.at ?_ | wp_step)
  · exact ⟨_, #[], _, (Heap.get?_update_ne _ _ _ _ xs.symm).trans (Heap.get?_push_at rfl rfl), rfl, fun e he => absurd he (by simp), fun _ => rfl⟩
  · intro h' tk' hn' hs
    have hx₁ : (hp.push { cls := .type "dict", data := .dict #[] }).get? x = some { cls := .ref C, data := .fields fv } := Heap.get?_push_of_some _ hx
    exact fin h' tk' hp.objs.size (fun b o hb ho => (hs.2 b (Nat.ne_of_lt (Heap.lt_size ho))).trans ((Heap.get?_update_ne _ _ _ _ hb).trans (Heap.get?_push_of_some _ ho))) (Nat.le_refl _) xs.symm ((hs.2 x xs).trans (Heap.get?_update_self _ hx₁ rfl)) hn'
end
/-! the text of __init__ -/
def iA (p1 p2 : Pos) : Arguments := { posonlyargs := [], args := [{ arg := "self", annotation := none, pos := p1 }, { arg := "at", annotation := none, pos := p2 }], vararg := none, kwonlyargs := [], kw_defaults := [], kwarg := none, defaults := [] }
def iB (txt : Str) (q1 q2 q3 q4 q5 q6 r1 r2 r3 r4 : Pos) (kk : Nat) : List Stmt :=
  [.Expr (.Call (.Attribute (.Call (.Name "super" q1) [] [] q2) "__init__" q3) [.Constant (.str txt) kk q4] [] q5) q6, .Assign [.Attribute (.Name "self" r1) "at" r2] (.Name "at" r3) r4]
def iS : Scope := { kind := .function, names := [(PySem.Str.ofString "self", .local), (PySem.Str.ofString "at", .local), (PySem.Str.ofString "__class__", .free), (PySem.Str.ofString "super", .globalImplicit)], isGenerator := false, isCoroutine := false, more := [] }
/-- what the written part says of an error's class at C, its __init__ at fI -/
structure ErTxt (K : Frag) (P : Program) (mg : Str → Option Value) (name : Str) (C fI : Addr) : Prop where
  gC : mg name = some (.ref C)
  cls : ∃ nm q N bs bm sn sub ab col dd k0 k1 k2 k3 k5, K.lookup C = some (excClassObj nm q C N bs bm true sn sub ab col dd k0 k1 k2 k3 k5 "Exception.__new__") ∧ refsEx bm = true
  sa : findIn K (.ref C) "__setattr__" = some (some (.builtin "object.__setattr__"))
  ga : findIn K (.ref C) "__getattribute__" = some (some (.builtin "BaseException.__getattribute__"))
  gg : findIn K (.ref C) "__getattr__" = some none
  noN : findIn K (.ref C) "at" = some none
  iC : findIn K (.ref C) "__init__" = some (some (.ref fI))
  tC : typeIn K (.ref fI) = some (.type "function")
  kC : keepIn K (.ref C) = true
  exC : subIn K (.ref C) (.type "BaseException") = some true
  tyC : typeIn K (.ref C) = some (.type "type")
  hdC : hasDictIn K C = true
  sup : ks_superIn K C C "__init__" = some (some (.builtin "Exception.__init__"))
  isE : subIn K (.ref C) (.type "Exception") = some true
  mroC : mroIn K C (.ref C) = some true
  opq : nsIn K cStatics "thirdparty.any" = some none
  noS : mg "super" = none
  top : (P.main.scope.names.lookup ("super" : Str)).isSome = false
  fn : ∃ (oc : Value) (od : Option Addr) (doc pm : Value) (an : Option Addr) (cda : Addr) (ct : Value) (osl : Array (Option Value)) (cc : Addr) (qual txt : Str) (p1 p2 q1 q2 q3 q4 q5 q6 r1 r2 r3 r4 : Pos) (kk : Nat) (ccl cl : Value) (cdd cld : Option Addr) (vs : Array Value) (ccs csl : Array (Option Value)) (file : Str) (tf : Tok),
    K.lookup fI = some ⟨oc, od, .func (ksFn "__init__" qual (iA p1 p2) (iB txt q1 q2 q3 q4 q5 q6 r1 r2 r3 r4 kk) iS .none .none doc pm an (.ref cda) ct cc), osl⟩ ∧ codeIn K (.ref cda) qual = true ∧ K.lookup cda = some ⟨ccl, cdd, .fields vs, ccs⟩ ∧ vs[2]? = some (.str file tf) ∧
      ((P.main.file : Str) == file) = true ∧ (q3.endLine == q5.line) = true ∧ K.lookup cc = some ⟨cl, cld, .cell (some (.ref C)), csl⟩
structure InitEnd (h h' : Heap) (x C dx t1 : Addr) (v : Value) : Prop where
  keep : ∀ b o, b ≠ x → h.get? b = some o → h'.get? b = some o
  obj : h'.get? x = some { cls := .ref C, dict := some dx, data := .fields #[.ref t1, .none, .none, .none, .bool false, .none] }
  dbig : h.objs.size ≤ dx
  dne : dx ≠ x
  ns : h'.Ns1 dx (fun y => if y = "at" then some v else none)
theorem one_size (v : Value) : [v].length ≤ sizeLine := by
  rw [sizeLine_eq]
  exact (by decide : 1 ≤ 16777216)
theorem nil_size : ([] : List Value).length ≤ sizeLine := by
  rw [sizeLine_eq]
  exact (by decide : 0 ≤ 16777216)
theorem super_eval {env : Env} {txt : Str} {q1 q2 q3 q4 q5 : Pos} {kk : Nat} (hline : (q3.endLine == q5.line) = true) : PySem.eval (.Call (.Attribute (.Call (.Name "super" q1) [] [] q2) "__init__" q3) [.Constant (.str txt) kk q4] [] q5) env = (do
      let ov ← attributeBase (.Call (.Name "super" q1) [] [] q2) "__init__" env (PySem.eval (.Call (.Name "super" q1) [] [] q2) env)
      standAt q3.atName
      let (f, first) ← holding [ov] (getMethod ov "__init__" (do return (← importBound (.Call (.Name "super" q1) [] [] q2) env).getD true))
      callWith q5 f first (backTo q5 (starEach [.Constant (.str txt) kk q4] env)) []) := by
  have hpos : methodCallPos true (.Call (.Name "super" q1) [] [] q2) env q3 q5 = pure q5 := by
    unfold methodCallPos
    simp [hline]
  rw [arm_eval_Call]
  show (do
      let ov ← attributeBase (.Call (.Name "super" q1) [] [] q2) "__init__" env (PySem.eval (.Call (.Name "super" q1) [] [] q2) env)
      standAt q3.atName
      let (f, first) ← holding [ov] (getMethod ov "__init__" (do return (← importBound (.Call (.Name "super" q1) [] [] q2) env).getD true))
      let callPos ← methodCallPos true (.Call (.Name "super" q1) [] [] q2) env q3 q5
      callWith callPos f first (backTo q5 (starEach [.Constant (.str txt) kk q4] env)) []) = _
  simp only [hpos, pure_bind]
theorem boot_super : bootBuiltins "super" = some (.type "super") := by decide +kernel
section
variable {prog : Program} {w : World} {A : Around} {E : Value → Shared → Prop} {R : Result → Shared → Prop} {s : Shared} {K : Frag} {mg mb : Str → Option Value} {name : Str} {C fI : Addr}
theorem er_init (T : ErTxt K prog mg name C fI) {x t0 : Addr} {v : Value} (X : K.In s.heap) (G : s.heap.Ns mainGlobals mg) (Bn : s.heap.Ns builtinsNs mb) (hbb : ∀ x : Str, x ≠ "__name__" → mb x = bootBuiltins x) (hlim : s.heap.NoLimit) (hx : s.heap.get? x = some (excO C t0)) (hnx : K.lookup x = none) (hroom : A.depth < recursionLimit)
    (hq : ∀ h' tk dx t1, InitEnd s.heap h' x C dx t1 v → R (.ok (.ret .none)) { s with heap := h', toks := tk }) :
    codeAny (model prog w) A (.call (.ref fI) ⟨[.ref x, v], []⟩) R s := by
  obtain ⟨oc, od, doc, pm, an, cda, ct, osl, cc, qual, txt, p1, p2, q1, q2, q3, q4, q5, q6, r1, r2, r3, r4, kk, ccl, cl, cdd, cld, vs, ccs, csl, file, tf, ho, hcd, hcode, hvs, hfile, hline, hcell⟩ := T.fn
  obtain ⟨nm, q, N, bs, bm, sn, sub, ab, col, dd, k0, k1, k2, k3, k5, hC, hbm⟩ := T.cls
  have hcl : clsIn K C = some { name := nm, bases := bs, mro := .ref C :: bm, ns := N, qualname := q, hasDict := true, slotNames := sn, subclasses := sub, abstract := ab, collection := col, hasDel := false } := by unfold clsIn; rw [hC] <;> rfl
  refine ks_codeAny_call_defAt (fd := ksFn "__init__" qual (iA p1 p2) (iB txt q1 q2 q3 q4 q5 q6 r1 r2 r3 r4 kk) iS .none .none doc pm an (.ref cda) ct cc) (body := iB txt q1 q2 q3 q4 q5 q6 r1 r2 r3 r4 kk) (binds := [("self", .ref x), ("at", v)]) hroom (X _ _ ho) rfl hlim (codeRec_of X hcd) rfl
    (BindsTo.of_eq (by first | rfl | with_unfolding_all rfl)) (show ∀ y ∈ iS.names, y.2 ≠ NameKind.cell by decide) (by intro y hy; simp at hy; rcases hy with rfl | rfl <;> rfl) (fun h₁ hn hk₁ => ?_)
  obtain ⟨hp, g, dr, tk, os⟩ := s
  have X₁ : K.In h₁ := X.keeps hk₁
  have hx₁ := hk₁ _ _ hx
  have hxL : hp.objs.size ≠ x := Nat.ne_of_gt (Heap.lt_size hx)
  have hD1 := X₁ _ _ hC
  refine ks_wpAt_execs_cons (ks_wpAt_Expr_any (ks_wpAt_MethodCall (ks_wpAt_super_base (env := ksEnv qual iS hp.objs.size fI (.ref cda) cc) (by rfl) (by rfl) (by decide) rfl (X₁ _ _ ho) rfl rfl rfl (X₁ _ _ hcode) rfl hvs hfile T.top ?_) (super_eval hline)))
  have Gl₁ := G.keeps hk₁
  have Bn₁ := Bn.keeps hk₁
  refine ks_loadName_global rfl rfl (loadGlobal_builtin (env := ksEnv qual iS hp.objs.size fI (.ref cda) cc) Gl₁ T.noS Bn₁ ((hbb _ (by decide +kernel)).trans boot_super) ⟨rfl, ?_⟩)
  refine wpAny_loadName_free rfl rfl rfl ⟨_, X₁ _ _ hcell, rfl⟩ ?_
  refine wpAny_loadName_local rfl rfl hn (v := .ref x) (by first | rfl | with_unfolding_all rfl) ?_
  refine ks_wpAny_isType_cls hD1 rfl ⟨rfl, ?_⟩
  refine ks_wpAny_call_super hD1 rfl hx₁ rfl (fun c e => by cases e) (looks_mroIn X₁ T.mroC) (fun h₂ e₂ k₂ => ?_)
  have X₂ : K.In h₂ := X₁.keeps k₂
  have hx₂ := k₂ _ _ hx₁
  have inst₂ : InstAt h₂ x (excO C t0) C none := ⟨hx₂, rfl, rfl, trivial⟩
  have hxC : x ≠ C := fun z => by rw [z, hC] at hnx; cases hnx
  have hsup : alongIn K "__init__" (((Value.ref C :: bm).dropWhile (· != .ref C)).drop 1) = some (some (.builtin "Exception.__init__")) := by
    have z := T.sup
    unfold ks_superIn at z
    rw [hcl] at z
    exact z
  refine ESX.getMethod_super e₂ (looks_opaque X₂ T.opq) (l₀ := .ref C :: bm) (fun A Q E s k q => wpAny_bind ((looks_clsIn X₂ hcl) A _ E s k (wpAny_pure q))) rfl X₂ hsup hxC (by decide) (inst₂.type.andThen (looks_subIn X₂ T.isE)) ?_
  have hbw : (h₂.push (ESX.bw x)).get? h₂.objs.size = some (ESX.bw x) := Heap.get?_push_at rfl rfl
  have k₃ : ∀ b o, h₂.get? b = some o → (h₂.push (ESX.bw x)).get? b = some o := fun b o e => Heap.get?_push_of_some _ e
  refine ESX.callWith_bound (x := x) (Calls.spliced_cons (Calls.Constant_str (k := kk) (pos := q4) (Calls.spliced_nil ⟨hbw, ?_⟩))) rfl rfl
  refine ESX.call_bw (k₃ _ _ (k₂ _ _ (hk₁ _ _ (X _ _ hC)))) (k₃ _ _ hx₂) hbw (one_size _) (fun h₄ t1 k₄ hx₄ => ?_)
  have up : ∀ b o, b ≠ x → h₁.get? b = some o → h₄.get? b = some o := fun b o hb e => k₄ b o hb (k₃ _ _ (k₂ _ _ e))
  have X₄ : K.In h₄ := fun a o e => up a o (fun z => by rw [z, hnx] at e; cases e) (X₁ a o e)
  have hn₄ : h₄.Ns hp.objs.size (fun y => List.lookup y ([(("self" : Str), Value.ref x), ("at", v)] : List (Str × Value)).reverse) := by
    obtain ⟨o, es, ep, h1, r⟩ := hn
    exact ⟨o, es, ep, up _ _ hxL h1, r⟩
  refine wpAt_of_wpAny ?_
  show wpAny _ _ (execs _ _) _ _ _
  refine wpAny_execs_cons (plainObj_wpAny_Assign_Attribute ?_)
  refine wpAny_Name (wpAny_loadName_local (v := v) rfl rfl hn₄ (by first | rfl | with_unfolding_all rfl | kernel_rfl) ?_) (by decide)
  refine wpAny_Name (wpAny_loadName_local (v := .ref x) rfl rfl hn₄ (by first | rfl | with_unfolding_all rfl | kernel_rfl) ?_) (by decide)
  refine set_plain X₄ (ox := excO C t1) (od := none) ⟨hx₄, rfl, rfl, trivial⟩ T.sa ?_
  refine osa_ex X₄ hx₄ hcl (show refsEx (.ref C :: bm) = true from hbm) rfl T.noN (fun h₅ tk₅ dx k₅ dn dne hx₅ hn₅ => ?_)
  show wpAny _ _ (execs _ _) _ _ _
  refine wpAny_execs_nil (hq h₅ tk₅ dx t1 ⟨fun b o hb e => k₅ b o hb (up b o hb (hk₁ b o e)), hx₅, ?_, dne, hn₅⟩)
  have z : hp.objs.size < h₄.objs.size := by
    obtain ⟨o, es, ep, h1, r⟩ := hn₄
    exact Heap.lt_size h1
  exact Nat.le_of_lt (Nat.lt_of_lt_of_le z dn)
theorem er_initK (T : ErTxt K prog mg name C fI) {x t0 : Addr} {v : Value} (X : K.In s.heap) (G : s.heap.Ns mainGlobals mg) (Bn : s.heap.Ns builtinsNs mb) (hbb : ∀ x : Str, x ≠ "__name__" → mb x = bootBuiltins x) (hlim : s.heap.NoLimit) (hx : s.heap.get? x = some (excO C t0)) (hnx : K.lookup x = none) (hroom : A.depth < recursionLimit)
    (hq : ∀ h' tk dx t1, InitEnd s.heap h' x C dx t1 v → R (.ok (.ret .none)) { s with heap := h', toks := tk }) :
    codeAny (model prog w) A (.call (.ref fI) ⟨[.ref x], [("at", v)]⟩) R s := by
  obtain ⟨oc, od, doc, pm, an, cda, ct, osl, cc, qual, txt, p1, p2, q1, q2, q3, q4, q5, q6, r1, r2, r3, r4, kk, ccl, cl, cdd, cld, vs, ccs, csl, file, tf, ho, hcd, hcode, hvs, hfile, hline, hcell⟩ := T.fn
  obtain ⟨nm, q, N, bs, bm, sn, sub, ab, col, dd, k0, k1, k2, k3, k5, hC, hbm⟩ := T.cls
  have hcl : clsIn K C = some { name := nm, bases := bs, mro := .ref C :: bm, ns := N, qualname := q, hasDict := true, slotNames := sn, subclasses := sub, abstract := ab, collection := col, hasDel := false } := by unfold clsIn; rw [hC] <;> rfl
  refine ks_codeAny_call_defAt (fd := ksFn "__init__" qual (iA p1 p2) (iB txt q1 q2 q3 q4 q5 q6 r1 r2 r3 r4 kk) iS .none .none doc pm an (.ref cda) ct cc) (body := iB txt q1 q2 q3 q4 q5 q6 r1 r2 r3 r4 kk) (binds := [("self", .ref x), ("at", v)]) hroom (X _ _ ho) rfl hlim (codeRec_of X hcd) rfl
    (BindsTo.of_eq (by first | rfl | with_unfolding_all rfl)) (show ∀ y ∈ iS.names, y.2 ≠ NameKind.cell by decide) (by intro y hy; simp at hy; rcases hy with rfl | rfl <;> rfl) (fun h₁ hn hk₁ => ?_)
  obtain ⟨hp, g, dr, tk, os⟩ := s
  have X₁ : K.In h₁ := X.keeps hk₁
  have hx₁ := hk₁ _ _ hx
  have hxL : hp.objs.size ≠ x := Nat.ne_of_gt (Heap.lt_size hx)
  have hD1 := X₁ _ _ hC
  refine ks_wpAt_execs_cons (ks_wpAt_Expr_any (ks_wpAt_MethodCall (ks_wpAt_super_base (env := ksEnv qual iS hp.objs.size fI (.ref cda) cc) (by rfl) (by rfl) (by decide) rfl (X₁ _ _ ho) rfl rfl rfl (X₁ _ _ hcode) rfl hvs hfile T.top ?_) (super_eval hline)))
  have Gl₁ := G.keeps hk₁
  have Bn₁ := Bn.keeps hk₁
  refine ks_loadName_global rfl rfl (loadGlobal_builtin (env := ksEnv qual iS hp.objs.size fI (.ref cda) cc) Gl₁ T.noS Bn₁ ((hbb _ (by decide +kernel)).trans boot_super) ⟨rfl, ?_⟩)
  refine wpAny_loadName_free rfl rfl rfl ⟨_, X₁ _ _ hcell, rfl⟩ ?_
  refine wpAny_loadName_local rfl rfl hn (v := .ref x) (by first | rfl | with_unfolding_all rfl) ?_
  refine ks_wpAny_isType_cls hD1 rfl ⟨rfl, ?_⟩
  refine ks_wpAny_call_super hD1 rfl hx₁ rfl (fun c e => by cases e) (looks_mroIn X₁ T.mroC) (fun h₂ e₂ k₂ => ?_)
  have X₂ : K.In h₂ := X₁.keeps k₂
  have hx₂ := k₂ _ _ hx₁
  have inst₂ : InstAt h₂ x (excO C t0) C none := ⟨hx₂, rfl, rfl, trivial⟩
  have hxC : x ≠ C := fun z => by rw [z, hC] at hnx; cases hnx
  have hsup : alongIn K "__init__" (((Value.ref C :: bm).dropWhile (· != .ref C)).drop 1) = some (some (.builtin "Exception.__init__")) := by
    have z := T.sup
    unfold ks_superIn at z
    rw [hcl] at z
    exact z
  refine ESX.getMethod_super e₂ (looks_opaque X₂ T.opq) (l₀ := .ref C :: bm) (fun A Q E s k q => wpAny_bind ((looks_clsIn X₂ hcl) A _ E s k (wpAny_pure q))) rfl X₂ hsup hxC (by decide) (inst₂.type.andThen (looks_subIn X₂ T.isE)) ?_
  have hbw : (h₂.push (ESX.bw x)).get? h₂.objs.size = some (ESX.bw x) := Heap.get?_push_at rfl rfl
  have k₃ : ∀ b o, h₂.get? b = some o → (h₂.push (ESX.bw x)).get? b = some o := fun b o e => Heap.get?_push_of_some _ e
  refine ESX.callWith_bound (x := x) (Calls.spliced_cons (Calls.Constant_str (k := kk) (pos := q4) (Calls.spliced_nil ⟨hbw, ?_⟩))) rfl rfl
  refine ESX.call_bw (k₃ _ _ (k₂ _ _ (hk₁ _ _ (X _ _ hC)))) (k₃ _ _ hx₂) hbw (one_size _) (fun h₄ t1 k₄ hx₄ => ?_)
  have up : ∀ b o, b ≠ x → h₁.get? b = some o → h₄.get? b = some o := fun b o hb e => k₄ b o hb (k₃ _ _ (k₂ _ _ e))
  have X₄ : K.In h₄ := fun a o e => up a o (fun z => by rw [z, hnx] at e; cases e) (X₁ a o e)
  have hn₄ : h₄.Ns hp.objs.size (fun y => List.lookup y ([(("self" : Str), Value.ref x), ("at", v)] : List (Str × Value)).reverse) := by
    obtain ⟨o, es, ep, h1, r⟩ := hn
    exact ⟨o, es, ep, up _ _ hxL h1, r⟩
  refine wpAt_of_wpAny ?_
  show wpAny _ _ (execs _ _) _ _ _
  refine wpAny_execs_cons (plainObj_wpAny_Assign_Attribute ?_)
  refine wpAny_Name (wpAny_loadName_local (v := v) rfl rfl hn₄ (by first | rfl | with_unfolding_all rfl | kernel_rfl) ?_) (by decide)
  refine wpAny_Name (wpAny_loadName_local (v := .ref x) rfl rfl hn₄ (by first | rfl | with_unfolding_all rfl | kernel_rfl) ?_) (by decide)
  refine set_plain X₄ (ox := excO C t1) (od := none) ⟨hx₄, rfl, rfl, trivial⟩ T.sa ?_
  refine osa_ex X₄ hx₄ hcl (show refsEx (.ref C :: bm) = true from hbm) rfl T.noN (fun h₅ tk₅ dx k₅ dn dne hx₅ hn₅ => ?_)
  show wpAny _ _ (execs _ _) _ _ _
  refine wpAny_execs_nil (hq h₅ tk₅ dx t1 ⟨fun b o hb e => k₅ b o hb (up b o hb (hk₁ b o e)), hx₅, ?_, dne, hn₅⟩)
  have z : hp.objs.size < h₄.objs.size := by
    obtain ⟨o, es, ep, h1, r⟩ := hn₄
    exact Heap.lt_size h1
  exact Nat.le_of_lt (Nat.lt_of_lt_of_le z dn)
/-- a made error -/
structure Made (h h' : Heap) (e C d : Addr) (v : Value) : Prop where
  keep : ∀ b o, h.get? b = some o → h'.get? b = some o
  new : h.objs.size ≤ e
  obj : ∃ oe vs, h'.get? e = some oe ∧ oe.cls = .ref C ∧ oe.dict = some d ∧ oe.data = .fields vs ∧ vs[1]? = some .none
  dbig : h.objs.size ≤ d
  dne : d ≠ e
  ns : h'.Ns1 d (fun y => if y = "at" then some v else none)
theorem er_made (T : ErTxt K prog mg name C fI) {v : Value} (X : K.In s.heap) (G : s.heap.Ns mainGlobals mg) (Bn : s.heap.Ns builtinsNs mb) (hbb : ∀ x : Str, x ≠ "__name__" → mb x = bootBuiltins x) (hlim : s.heap.NoLimit) (hroom : A.depth + 1 < recursionLimit)
    (hq : ∀ h' tk e d, Made s.heap h' e C d v → R (.ok (.ret (.ref e))) { s with heap := h', toks := tk }) :
    codeAny (model prog w) A (.call (.ref C) ⟨[v], []⟩) R s := by
  obtain ⟨nm, q, N, bs, bm, sn, sub, ab, col, dd, k0, k1, k2, k3, k5, hC, hbm⟩ := T.cls
  obtain ⟨hp, g, dr, tk, os⟩ := s
  have up : ∀ b o, hp.get? b = some o → ((hp.push (kdv_tup [v])).push (excO C hp.objs.size)).get? b = some o := fun b o e => Heap.get?_push_of_some _ (Heap.get?_push_of_some _ e)
  have there : ((hp.push (kdv_tup [v])).push (excO C hp.objs.size)).get? (hp.objs.size + 1) = some (excO C hp.objs.size) := by heap_get
  have outK : K.lookup (hp.objs.size + 1) = none := by
    cases e : K.lookup (hp.objs.size + 1) with
    | none => rfl
    | some o =>
      have z : hp.get? (hp.objs.size + 1) = some o := X _ _ e
      exact absurd (Nat.lt_of_succ_lt (Heap.lt_size z)) (Nat.lt_irrefl _)
  refine call_own PySem.F.excBase_Exception (fun X => refsEx_has X bm hbm) (X _ _ hC) (looks_findIn X T.iC) (fun self => bind_fn X self T.tC) (one_size v) ?_
  refine er_init (s := ⟨(hp.push (kdv_tup [v])).push (excO C hp.objs.size), g, dr, tk, os⟩) T (X.keeps up) (G.keeps up) (Bn.keeps up) hbb (hlim.keeps up) there outK ?_ fun h' tk' dx t1 ⟨k', hx, dn, dne, hns⟩ => ?_
  · show A.depth + 1 < recursionLimit
    exact hroom
  · have old : ∀ b o, hp.get? b = some o → h'.get? b = some o := fun b o e => k' b o (Nat.ne_of_lt (Nat.lt_succ_of_lt (Heap.lt_size e))) (up b o e)
    have z : hp.objs.size + 1 + 1 ≤ dx := by
      first
        | (simpa only [Heap.size_push] using dn)
        | exact dn
        | (have q := dn; rw [Heap.size_push, Heap.size_push] at q; exact q)
    exact ⟨rfl, hq h' tk' (hp.objs.size + 1) dx ⟨old, Nat.le_succ _, ⟨_, _, hx, rfl, rfl, rfl, rfl⟩, Nat.le_trans (Nat.le_trans (Nat.le_succ _) (Nat.le_succ _)) z, dne, hns⟩⟩
theorem er_madeK (T : ErTxt K prog mg name C fI) {v : Value} (X : K.In s.heap) (G : s.heap.Ns mainGlobals mg) (Bn : s.heap.Ns builtinsNs mb) (hbb : ∀ x : Str, x ≠ "__name__" → mb x = bootBuiltins x) (hlim : s.heap.NoLimit) (hroom : A.depth + 1 < recursionLimit)
    (hq : ∀ h' tk e d, Made s.heap h' e C d v → R (.ok (.ret (.ref e))) { s with heap := h', toks := tk }) :
    codeAny (model prog w) A (.call (.ref C) ⟨[], [("at", v)]⟩) R s := by
  obtain ⟨nm, q, N, bs, bm, sn, sub, ab, col, dd, k0, k1, k2, k3, k5, hC, hbm⟩ := T.cls
  obtain ⟨hp, g, dr, tk, os⟩ := s
  have up : ∀ b o, hp.get? b = some o → ((hp.push (kdv_tup [])).push (excO C hp.objs.size)).get? b = some o := fun b o e => Heap.get?_push_of_some _ (Heap.get?_push_of_some _ e)
  have there : ((hp.push (kdv_tup [])).push (excO C hp.objs.size)).get? (hp.objs.size + 1) = some (excO C hp.objs.size) := by heap_get
  have outK : K.lookup (hp.objs.size + 1) = none := by
    cases e : K.lookup (hp.objs.size + 1) with
    | none => rfl
    | some o =>
      have z : hp.get? (hp.objs.size + 1) = some o := X _ _ e
      exact absurd (Nat.lt_of_succ_lt (Heap.lt_size z)) (Nat.lt_irrefl _)
  refine Ek.call_kw PySem.F.excBase_Exception (fun X => refsEx_has X bm hbm) (X _ _ hC) (looks_findIn X T.iC) (fun self => bind_fn X self T.tC) nil_size ?_
  refine er_initK (s := ⟨(hp.push (kdv_tup [])).push (excO C hp.objs.size), g, dr, tk, os⟩) T (X.keeps up) (G.keeps up) (Bn.keeps up) hbb (hlim.keeps up) there outK ?_ fun h' tk' dx t1 ⟨k', hx, dn, dne, hns⟩ => ?_
  · show A.depth + 1 < recursionLimit
    exact hroom
  · have old : ∀ b o, hp.get? b = some o → h'.get? b = some o := fun b o e => k' b o (Nat.ne_of_lt (Nat.lt_succ_of_lt (Heap.lt_size e))) (up b o e)
    have z : hp.objs.size + 1 + 1 ≤ dx := by
      first
        | (simpa only [Heap.size_push] using dn)
        | exact dn
        | (have q := dn; rw [Heap.size_push, Heap.size_push] at q; exact q)
    exact ⟨rfl, hq h' tk' (hp.objs.size + 1) dx ⟨old, Nat.le_succ _, ⟨_, _, hx, rfl, rfl, rfl, rfl⟩, Nat.le_trans (Nat.le_trans (Nat.le_succ _) (Nat.le_succ _)) z, dne, hns⟩⟩
end
end Er
end PV
end
section
set_option Elab.async false
set_option linter.all false
set_option maxRecDepth 100000
set_option maxHeartbeats 4000000
/-! PvY1: own errors of a word, of nothing. -/
namespace PV
namespace Ew
open PySem PySem.Spec PySem.W PySem.Calls PyProof.Rows PySem.HandSPX Builtin Builtin.ObjectAttr
open Er (nil_size refsEx refsEx_has refsEx_ne refsEx_cases refsEx_pass osa_ex one_size super_eval boot_super)
/-! the same, of a word -/
def iA (p1 p2 : Pos) : Arguments := { posonlyargs := [], args := [{ arg := "self", annotation := none, pos := p1 }, { arg := "word", annotation := none, pos := p2 }], vararg := none, kwonlyargs := [], kw_defaults := [], kwarg := none, defaults := [] }
def iB (txt : Str) (q1 q2 q3 q4 q5 q6 r1 r2 r3 r4 : Pos) (kk : Nat) : List Stmt :=
  [.Expr (.Call (.Attribute (.Call (.Name "super" q1) [] [] q2) "__init__" q3) [.Constant (.str txt) kk q4] [] q5) q6, .Assign [.Attribute (.Name "self" r1) "word" r2] (.Name "word" r3) r4]
def iS : Scope := { kind := .function, names := [(PySem.Str.ofString "self", .local), (PySem.Str.ofString "word", .local), (PySem.Str.ofString "__class__", .free), (PySem.Str.ofString "super", .globalImplicit)], isGenerator := false, isCoroutine := false, more := [] }
structure ErTxt (K : Frag) (P : Program) (mg : Str → Option Value) (name : Str) (C fI : Addr) : Prop where
  gC : mg name = some (.ref C)
  cls : ∃ nm q N bs bm sn sub ab col dd k0 k1 k2 k3 k5, K.lookup C = some (excClassObj nm q C N bs bm true sn sub ab col dd k0 k1 k2 k3 k5 "Exception.__new__") ∧ refsEx bm = true
  sa : findIn K (.ref C) "__setattr__" = some (some (.builtin "object.__setattr__"))
  ga : findIn K (.ref C) "__getattribute__" = some (some (.builtin "BaseException.__getattribute__"))
  gg : findIn K (.ref C) "__getattr__" = some none
  noN : findIn K (.ref C) "word" = some none
  iC : findIn K (.ref C) "__init__" = some (some (.ref fI))
  tC : typeIn K (.ref fI) = some (.type "function")
  kC : keepIn K (.ref C) = true
  exC : subIn K (.ref C) (.type "BaseException") = some true
  tyC : typeIn K (.ref C) = some (.type "type")
  hdC : hasDictIn K C = true
  sup : ks_superIn K C C "__init__" = some (some (.builtin "Exception.__init__"))
  isE : subIn K (.ref C) (.type "Exception") = some true
  mroC : mroIn K C (.ref C) = some true
  opq : nsIn K cStatics "thirdparty.any" = some none
  noS : mg "super" = none
  top : (P.main.scope.names.lookup ("super" : Str)).isSome = false
  fn : ∃ (oc : Value) (od : Option Addr) (doc pm : Value) (an : Option Addr) (cda : Addr) (ct : Value) (osl : Array (Option Value)) (cc : Addr) (qual txt : Str) (p1 p2 q1 q2 q3 q4 q5 q6 r1 r2 r3 r4 : Pos) (kk : Nat) (ccl cl : Value) (cdd cld : Option Addr) (vs : Array Value) (ccs csl : Array (Option Value)) (file : Str) (tf : Tok),
    K.lookup fI = some ⟨oc, od, .func (ksFn "__init__" qual (iA p1 p2) (iB txt q1 q2 q3 q4 q5 q6 r1 r2 r3 r4 kk) iS .none .none doc pm an (.ref cda) ct cc), osl⟩ ∧ codeIn K (.ref cda) qual = true ∧ K.lookup cda = some ⟨ccl, cdd, .fields vs, ccs⟩ ∧ vs[2]? = some (.str file tf) ∧
      ((P.main.file : Str) == file) = true ∧ (q3.endLine == q5.line) = true ∧ K.lookup cc = some ⟨cl, cld, .cell (some (.ref C)), csl⟩
structure InitEnd (h h' : Heap) (x C dx t1 : Addr) (v : Value) : Prop where
  keep : ∀ b o, b ≠ x → h.get? b = some o → h'.get? b = some o
  obj : h'.get? x = some { cls := .ref C, dict := some dx, data := .fields #[.ref t1, .none, .none, .none, .bool false, .none] }
  dbig : h.objs.size ≤ dx
  dne : dx ≠ x
  ns : h'.Ns1 dx (fun y => if y = "word" then some v else none)
section
variable {prog : Program} {w : World} {A : Around} {E : Value → Shared → Prop} {R : Result → Shared → Prop} {s : Shared} {K : Frag} {mg mb : Str → Option Value} {name : Str} {C fI : Addr}
theorem er_init (T : ErTxt K prog mg name C fI) {x t0 : Addr} {v : Value} (X : K.In s.heap) (G : s.heap.Ns mainGlobals mg) (Bn : s.heap.Ns builtinsNs mb) (hbb : ∀ x : Str, x ≠ "__name__" → mb x = bootBuiltins x) (hlim : s.heap.NoLimit) (hx : s.heap.get? x = some (excO C t0)) (hnx : K.lookup x = none) (hroom : A.depth < recursionLimit)
    (hq : ∀ h' tk dx t1, InitEnd s.heap h' x C dx t1 v → R (.ok (.ret .none)) { s with heap := h', toks := tk }) :
    codeAny (model prog w) A (.call (.ref fI) ⟨[.ref x, v], []⟩) R s := by
  obtain ⟨oc, od, doc, pm, an, cda, ct, osl, cc, qual, txt, p1, p2, q1, q2, q3, q4, q5, q6, r1, r2, r3, r4, kk, ccl, cl, cdd, cld, vs, ccs, csl, file, tf, ho, hcd, hcode, hvs, hfile, hline, hcell⟩ := T.fn
  obtain ⟨nm, q, N, bs, bm, sn, sub, ab, col, dd, k0, k1, k2, k3, k5, hC, hbm⟩ := T.cls
  have hcl : clsIn K C = some { name := nm, bases := bs, mro := .ref C :: bm, ns := N, qualname := q, hasDict := true, slotNames := sn, subclasses := sub, abstract := ab, collection := col, hasDel := false } := by unfold clsIn; rw [hC] <;> rfl
  refine ks_codeAny_call_defAt (fd := ksFn "__init__" qual (iA p1 p2) (iB txt q1 q2 q3 q4 q5 q6 r1 r2 r3 r4 kk) iS .none .none doc pm an (.ref cda) ct cc) (body := iB txt q1 q2 q3 q4 q5 q6 r1 r2 r3 r4 kk) (binds := [("self", .ref x), ("word", v)]) hroom (X _ _ ho) rfl hlim (codeRec_of X hcd) rfl
    (BindsTo.of_eq (by first | rfl | with_unfolding_all rfl)) (show ∀ y ∈ iS.names, y.2 ≠ NameKind.cell by decide) (by intro y hy; simp at hy; rcases hy with rfl | rfl <;> rfl) (fun h₁ hn hk₁ => ?_)
  obtain ⟨hp, g, dr, tk, os⟩ := s
  have X₁ : K.In h₁ := X.keeps hk₁
  have hx₁ := hk₁ _ _ hx
  have hxL : hp.objs.size ≠ x := Nat.ne_of_gt (Heap.lt_size hx)
  have hD1 := X₁ _ _ hC
  refine ks_wpAt_execs_cons (ks_wpAt_Expr_any (ks_wpAt_MethodCall (ks_wpAt_super_base (env := ksEnv qual iS hp.objs.size fI (.ref cda) cc) (by rfl) (by rfl) (by decide) rfl (X₁ _ _ ho) rfl rfl rfl (X₁ _ _ hcode) rfl hvs hfile T.top ?_) (super_eval hline)))
  have Gl₁ := G.keeps hk₁
  have Bn₁ := Bn.keeps hk₁
  refine ks_loadName_global rfl rfl (loadGlobal_builtin (env := ksEnv qual iS hp.objs.size fI (.ref cda) cc) Gl₁ T.noS Bn₁ ((hbb _ (by decide +kernel)).trans boot_super) ⟨rfl, ?_⟩)
  refine wpAny_loadName_free rfl rfl rfl ⟨_, X₁ _ _ hcell, rfl⟩ ?_
  refine wpAny_loadName_local rfl rfl hn (v := .ref x) (by first | rfl | with_unfolding_all rfl) ?_
  refine ks_wpAny_isType_cls hD1 rfl ⟨rfl, ?_⟩
  refine ks_wpAny_call_super hD1 rfl hx₁ rfl (fun c e => by cases e) (looks_mroIn X₁ T.mroC) (fun h₂ e₂ k₂ => ?_)
  have X₂ : K.In h₂ := X₁.keeps k₂
  have hx₂ := k₂ _ _ hx₁
  have inst₂ : InstAt h₂ x (excO C t0) C none := ⟨hx₂, rfl, rfl, trivial⟩
  have hxC : x ≠ C := fun z => by rw [z, hC] at hnx; cases hnx
  have hsup : alongIn K "__init__" (((Value.ref C :: bm).dropWhile (· != .ref C)).drop 1) = some (some (.builtin "Exception.__init__")) := by
    have z := T.sup
    unfold ks_superIn at z
    rw [hcl] at z
    exact z
  refine ESX.getMethod_super e₂ (looks_opaque X₂ T.opq) (l₀ := .ref C :: bm) (fun A Q E s k q => wpAny_bind ((looks_clsIn X₂ hcl) A _ E s k (wpAny_pure q))) rfl X₂ hsup hxC (by decide) (inst₂.type.andThen (looks_subIn X₂ T.isE)) ?_
  have hbw : (h₂.push (ESX.bw x)).get? h₂.objs.size = some (ESX.bw x) := Heap.get?_push_at rfl rfl
  have k₃ : ∀ b o, h₂.get? b = some o → (h₂.push (ESX.bw x)).get? b = some o := fun b o e => Heap.get?_push_of_some _ e
  refine ESX.callWith_bound (x := x) (Calls.spliced_cons (Calls.Constant_str (k := kk) (pos := q4) (Calls.spliced_nil ⟨hbw, ?_⟩))) rfl rfl
  refine ESX.call_bw (k₃ _ _ (k₂ _ _ (hk₁ _ _ (X _ _ hC)))) (k₃ _ _ hx₂) hbw (one_size _) (fun h₄ t1 k₄ hx₄ => ?_)
  have up : ∀ b o, b ≠ x → h₁.get? b = some o → h₄.get? b = some o := fun b o hb e => k₄ b o hb (k₃ _ _ (k₂ _ _ e))
  have X₄ : K.In h₄ := fun a o e => up a o (fun z => by rw [z, hnx] at e; cases e) (X₁ a o e)
  have hn₄ : h₄.Ns hp.objs.size (fun y => List.lookup y ([(("self" : Str), Value.ref x), ("word", v)] : List (Str × Value)).reverse) := by
    obtain ⟨o, es, ep, h1, r⟩ := hn
    exact ⟨o, es, ep, up _ _ hxL h1, r⟩
  refine wpAt_of_wpAny ?_
  show wpAny _ _ (execs _ _) _ _ _
  refine wpAny_execs_cons (plainObj_wpAny_Assign_Attribute ?_)
  refine wpAny_Name (wpAny_loadName_local (v := v) rfl rfl hn₄ (by first | rfl | with_unfolding_all rfl | kernel_rfl) ?_) (by decide)
  refine wpAny_Name (wpAny_loadName_local (v := .ref x) rfl rfl hn₄ (by first | rfl | with_unfolding_all rfl | kernel_rfl) ?_) (by decide)
  refine set_plain X₄ (ox := excO C t1) (od := none) ⟨hx₄, rfl, rfl, trivial⟩ T.sa ?_
  refine osa_ex X₄ hx₄ hcl (show refsEx (.ref C :: bm) = true from hbm) rfl T.noN (fun h₅ tk₅ dx k₅ dn dne hx₅ hn₅ => ?_)
  show wpAny _ _ (execs _ _) _ _ _
  refine wpAny_execs_nil (hq h₅ tk₅ dx t1 ⟨fun b o hb e => k₅ b o hb (up b o hb (hk₁ b o e)), hx₅, ?_, dne, hn₅⟩)
  have z : hp.objs.size < h₄.objs.size := by
    obtain ⟨o, es, ep, h1, r⟩ := hn₄
    exact Heap.lt_size h1
  exact Nat.le_of_lt (Nat.lt_of_lt_of_le z dn)
theorem er_initK (T : ErTxt K prog mg name C fI) {x t0 : Addr} {v : Value} (X : K.In s.heap) (G : s.heap.Ns mainGlobals mg) (Bn : s.heap.Ns builtinsNs mb) (hbb : ∀ x : Str, x ≠ "__name__" → mb x = bootBuiltins x) (hlim : s.heap.NoLimit) (hx : s.heap.get? x = some (excO C t0)) (hnx : K.lookup x = none) (hroom : A.depth < recursionLimit)
    (hq : ∀ h' tk dx t1, InitEnd s.heap h' x C dx t1 v → R (.ok (.ret .none)) { s with heap := h', toks := tk }) :
    codeAny (model prog w) A (.call (.ref fI) ⟨[.ref x], [("word", v)]⟩) R s := by
  obtain ⟨oc, od, doc, pm, an, cda, ct, osl, cc, qual, txt, p1, p2, q1, q2, q3, q4, q5, q6, r1, r2, r3, r4, kk, ccl, cl, cdd, cld, vs, ccs, csl, file, tf, ho, hcd, hcode, hvs, hfile, hline, hcell⟩ := T.fn
  obtain ⟨nm, q, N, bs, bm, sn, sub, ab, col, dd, k0, k1, k2, k3, k5, hC, hbm⟩ := T.cls
  have hcl : clsIn K C = some { name := nm, bases := bs, mro := .ref C :: bm, ns := N, qualname := q, hasDict := true, slotNames := sn, subclasses := sub, abstract := ab, collection := col, hasDel := false } := by unfold clsIn; rw [hC] <;> rfl
  refine ks_codeAny_call_defAt (fd := ksFn "__init__" qual (iA p1 p2) (iB txt q1 q2 q3 q4 q5 q6 r1 r2 r3 r4 kk) iS .none .none doc pm an (.ref cda) ct cc) (body := iB txt q1 q2 q3 q4 q5 q6 r1 r2 r3 r4 kk) (binds := [("self", .ref x), ("word", v)]) hroom (X _ _ ho) rfl hlim (codeRec_of X hcd) rfl
    (BindsTo.of_eq (by first | rfl | with_unfolding_all rfl)) (show ∀ y ∈ iS.names, y.2 ≠ NameKind.cell by decide) (by intro y hy; simp at hy; rcases hy with rfl | rfl <;> rfl) (fun h₁ hn hk₁ => ?_)
  obtain ⟨hp, g, dr, tk, os⟩ := s
  have X₁ : K.In h₁ := X.keeps hk₁
  have hx₁ := hk₁ _ _ hx
  have hxL : hp.objs.size ≠ x := Nat.ne_of_gt (Heap.lt_size hx)
  have hD1 := X₁ _ _ hC
  refine ks_wpAt_execs_cons (ks_wpAt_Expr_any (ks_wpAt_MethodCall (ks_wpAt_super_base (env := ksEnv qual iS hp.objs.size fI (.ref cda) cc) (by rfl) (by rfl) (by decide) rfl (X₁ _ _ ho) rfl rfl rfl (X₁ _ _ hcode) rfl hvs hfile T.top ?_) (super_eval hline)))
  have Gl₁ := G.keeps hk₁
  have Bn₁ := Bn.keeps hk₁
  refine ks_loadName_global rfl rfl (loadGlobal_builtin (env := ksEnv qual iS hp.objs.size fI (.ref cda) cc) Gl₁ T.noS Bn₁ ((hbb _ (by decide +kernel)).trans boot_super) ⟨rfl, ?_⟩)
  refine wpAny_loadName_free rfl rfl rfl ⟨_, X₁ _ _ hcell, rfl⟩ ?_
  refine wpAny_loadName_local rfl rfl hn (v := .ref x) (by first | rfl | with_unfolding_all rfl) ?_
  refine ks_wpAny_isType_cls hD1 rfl ⟨rfl, ?_⟩
  refine ks_wpAny_call_super hD1 rfl hx₁ rfl (fun c e => by cases e) (looks_mroIn X₁ T.mroC) (fun h₂ e₂ k₂ => ?_)
  have X₂ : K.In h₂ := X₁.keeps k₂
  have hx₂ := k₂ _ _ hx₁
  have inst₂ : InstAt h₂ x (excO C t0) C none := ⟨hx₂, rfl, rfl, trivial⟩
  have hxC : x ≠ C := fun z => by rw [z, hC] at hnx; cases hnx
  have hsup : alongIn K "__init__" (((Value.ref C :: bm).dropWhile (· != .ref C)).drop 1) = some (some (.builtin "Exception.__init__")) := by
    have z := T.sup
    unfold ks_superIn at z
    rw [hcl] at z
    exact z
  refine ESX.getMethod_super e₂ (looks_opaque X₂ T.opq) (l₀ := .ref C :: bm) (fun A Q E s k q => wpAny_bind ((looks_clsIn X₂ hcl) A _ E s k (wpAny_pure q))) rfl X₂ hsup hxC (by decide) (inst₂.type.andThen (looks_subIn X₂ T.isE)) ?_
  have hbw : (h₂.push (ESX.bw x)).get? h₂.objs.size = some (ESX.bw x) := Heap.get?_push_at rfl rfl
  have k₃ : ∀ b o, h₂.get? b = some o → (h₂.push (ESX.bw x)).get? b = some o := fun b o e => Heap.get?_push_of_some _ e
  refine ESX.callWith_bound (x := x) (Calls.spliced_cons (Calls.Constant_str (k := kk) (pos := q4) (Calls.spliced_nil ⟨hbw, ?_⟩))) rfl rfl
  refine ESX.call_bw (k₃ _ _ (k₂ _ _ (hk₁ _ _ (X _ _ hC)))) (k₃ _ _ hx₂) hbw (one_size _) (fun h₄ t1 k₄ hx₄ => ?_)
  have up : ∀ b o, b ≠ x → h₁.get? b = some o → h₄.get? b = some o := fun b o hb e => k₄ b o hb (k₃ _ _ (k₂ _ _ e))
  have X₄ : K.In h₄ := fun a o e => up a o (fun z => by rw [z, hnx] at e; cases e) (X₁ a o e)
  have hn₄ : h₄.Ns hp.objs.size (fun y => List.lookup y ([(("self" : Str), Value.ref x), ("word", v)] : List (Str × Value)).reverse) := by
    obtain ⟨o, es, ep, h1, r⟩ := hn
    exact ⟨o, es, ep, up _ _ hxL h1, r⟩
  refine wpAt_of_wpAny ?_
  show wpAny _ _ (execs _ _) _ _ _
  refine wpAny_execs_cons (plainObj_wpAny_Assign_Attribute ?_)
  refine wpAny_Name (wpAny_loadName_local (v := v) rfl rfl hn₄ (by first | rfl | with_unfolding_all rfl | kernel_rfl) ?_) (by decide)
  refine wpAny_Name (wpAny_loadName_local (v := .ref x) rfl rfl hn₄ (by first | rfl | with_unfolding_all rfl | kernel_rfl) ?_) (by decide)
  refine set_plain X₄ (ox := excO C t1) (od := none) ⟨hx₄, rfl, rfl, trivial⟩ T.sa ?_
  refine osa_ex X₄ hx₄ hcl (show refsEx (.ref C :: bm) = true from hbm) rfl T.noN (fun h₅ tk₅ dx k₅ dn dne hx₅ hn₅ => ?_)
  show wpAny _ _ (execs _ _) _ _ _
  refine wpAny_execs_nil (hq h₅ tk₅ dx t1 ⟨fun b o hb e => k₅ b o hb (up b o hb (hk₁ b o e)), hx₅, ?_, dne, hn₅⟩)
  have z : hp.objs.size < h₄.objs.size := by
    obtain ⟨o, es, ep, h1, r⟩ := hn₄
    exact Heap.lt_size h1
  exact Nat.le_of_lt (Nat.lt_of_lt_of_le z dn)
structure Made (h h' : Heap) (e C d : Addr) (v : Value) : Prop where
  keep : ∀ b o, h.get? b = some o → h'.get? b = some o
  new : h.objs.size ≤ e
  obj : ∃ oe vs, h'.get? e = some oe ∧ oe.cls = .ref C ∧ oe.dict = some d ∧ oe.data = .fields vs ∧ vs[1]? = some .none
  dbig : h.objs.size ≤ d
  dne : d ≠ e
  ns : h'.Ns1 d (fun y => if y = "word" then some v else none)
theorem er_made (T : ErTxt K prog mg name C fI) {v : Value} (X : K.In s.heap) (G : s.heap.Ns mainGlobals mg) (Bn : s.heap.Ns builtinsNs mb) (hbb : ∀ x : Str, x ≠ "__name__" → mb x = bootBuiltins x) (hlim : s.heap.NoLimit) (hroom : A.depth + 1 < recursionLimit)
    (hq : ∀ h' tk e d, Made s.heap h' e C d v → R (.ok (.ret (.ref e))) { s with heap := h', toks := tk }) :
    codeAny (model prog w) A (.call (.ref C) ⟨[v], []⟩) R s := by
  obtain ⟨nm, q, N, bs, bm, sn, sub, ab, col, dd, k0, k1, k2, k3, k5, hC, hbm⟩ := T.cls
  obtain ⟨hp, g, dr, tk, os⟩ := s
  have up : ∀ b o, hp.get? b = some o → ((hp.push (kdv_tup [v])).push (excO C hp.objs.size)).get? b = some o := fun b o e => Heap.get?_push_of_some _ (Heap.get?_push_of_some _ e)
  have there : ((hp.push (kdv_tup [v])).push (excO C hp.objs.size)).get? (hp.objs.size + 1) = some (excO C hp.objs.size) := by heap_get
  have outK : K.lookup (hp.objs.size + 1) = none := by
    cases e : K.lookup (hp.objs.size + 1) with
    | none => rfl
    | some o =>
      have z : hp.get? (hp.objs.size + 1) = some o := X _ _ e
      exact absurd (Nat.lt_of_succ_lt (Heap.lt_size z)) (Nat.lt_irrefl _)
  refine call_own PySem.F.excBase_Exception (fun X => refsEx_has X bm hbm) (X _ _ hC) (looks_findIn X T.iC) (fun self => bind_fn X self T.tC) (one_size v) ?_
  refine er_init (s := ⟨(hp.push (kdv_tup [v])).push (excO C hp.objs.size), g, dr, tk, os⟩) T (X.keeps up) (G.keeps up) (Bn.keeps up) hbb (hlim.keeps up) there outK ?_ fun h' tk' dx t1 ⟨k', hx, dn, dne, hns⟩ => ?_
  · show A.depth + 1 < recursionLimit
    exact hroom
  · have old : ∀ b o, hp.get? b = some o → h'.get? b = some o := fun b o e => k' b o (Nat.ne_of_lt (Nat.lt_succ_of_lt (Heap.lt_size e))) (up b o e)
    have z : hp.objs.size + 1 + 1 ≤ dx := by
      first
        | (simpa only [Heap.size_push] using dn)
        | exact dn
        | (have q := dn; rw [Heap.size_push, Heap.size_push] at q; exact q)
    exact ⟨rfl, hq h' tk' (hp.objs.size + 1) dx ⟨old, Nat.le_succ _, ⟨_, _, hx, rfl, rfl, rfl, rfl⟩, Nat.le_trans (Nat.le_trans (Nat.le_succ _) (Nat.le_succ _)) z, dne, hns⟩⟩
theorem er_madeK (T : ErTxt K prog mg name C fI) {v : Value} (X : K.In s.heap) (G : s.heap.Ns mainGlobals mg) (Bn : s.heap.Ns builtinsNs mb) (hbb : ∀ x : Str, x ≠ "__name__" → mb x = bootBuiltins x) (hlim : s.heap.NoLimit) (hroom : A.depth + 1 < recursionLimit)
    (hq : ∀ h' tk e d, Made s.heap h' e C d v → R (.ok (.ret (.ref e))) { s with heap := h', toks := tk }) :
    codeAny (model prog w) A (.call (.ref C) ⟨[], [("word", v)]⟩) R s := by
  obtain ⟨nm, q, N, bs, bm, sn, sub, ab, col, dd, k0, k1, k2, k3, k5, hC, hbm⟩ := T.cls
  obtain ⟨hp, g, dr, tk, os⟩ := s
  have up : ∀ b o, hp.get? b = some o → ((hp.push (kdv_tup [])).push (excO C hp.objs.size)).get? b = some o := fun b o e => Heap.get?_push_of_some _ (Heap.get?_push_of_some _ e)
  have there : ((hp.push (kdv_tup [])).push (excO C hp.objs.size)).get? (hp.objs.size + 1) = some (excO C hp.objs.size) := by heap_get
  have outK : K.lookup (hp.objs.size + 1) = none := by
    cases e : K.lookup (hp.objs.size + 1) with
    | none => rfl
    | some o =>
      have z : hp.get? (hp.objs.size + 1) = some o := X _ _ e
      exact absurd (Nat.lt_of_succ_lt (Heap.lt_size z)) (Nat.lt_irrefl _)
  refine Ek.call_kw PySem.F.excBase_Exception (fun X => refsEx_has X bm hbm) (X _ _ hC) (looks_findIn X T.iC) (fun self => bind_fn X self T.tC) nil_size ?_
  refine er_initK (s := ⟨(hp.push (kdv_tup [])).push (excO C hp.objs.size), g, dr, tk, os⟩) T (X.keeps up) (G.keeps up) (Bn.keeps up) hbb (hlim.keeps up) there outK ?_ fun h' tk' dx t1 ⟨k', hx, dn, dne, hns⟩ => ?_
  · show A.depth + 1 < recursionLimit
    exact hroom
  · have old : ∀ b o, hp.get? b = some o → h'.get? b = some o := fun b o e => k' b o (Nat.ne_of_lt (Nat.lt_succ_of_lt (Heap.lt_size e))) (up b o e)
    have z : hp.objs.size + 1 + 1 ≤ dx := by
      first
        | (simpa only [Heap.size_push] using dn)
        | exact dn
        | (have q := dn; rw [Heap.size_push, Heap.size_push] at q; exact q)
    exact ⟨rfl, hq h' tk' (hp.objs.size + 1) dx ⟨old, Nat.le_succ _, ⟨_, _, hx, rfl, rfl, rfl, rfl⟩, Nat.le_trans (Nat.le_trans (Nat.le_succ _) (Nat.le_succ _)) z, dne, hns⟩⟩
end
end Ew
namespace En
open PySem PySem.Spec PySem.W PySem.Calls PyProof.Rows PySem.HandSPX Builtin Builtin.ObjectAttr
open Er (nil_size refsEx refsEx_has refsEx_ne refsEx_cases refsEx_pass osa_ex one_size super_eval boot_super)
theorem zero_size : ([] : List Value).length ≤ sizeLine := by
  rw [sizeLine_eq]
  exact (by decide : 0 ≤ 16777216)
/-! an error of nothing -/
def iA (p1 : Pos) : Arguments := { posonlyargs := [], args := [{ arg := "self", annotation := none, pos := p1 }], vararg := none, kwonlyargs := [], kw_defaults := [], kwarg := none, defaults := [] }
def iB (txt : Str) (q1 q2 q3 q4 q5 q6 : Pos) (kk : Nat) : List Stmt :=
  [.Expr (.Call (.Attribute (.Call (.Name "super" q1) [] [] q2) "__init__" q3) [.Constant (.str txt) kk q4] [] q5) q6]
def iS : Scope := { kind := .function, names := [(PySem.Str.ofString "self", .local), (PySem.Str.ofString "__class__", .free), (PySem.Str.ofString "super", .globalImplicit)], isGenerator := false, isCoroutine := false, more := [] }
/-- what the written part says of an error's class at C, its __init__ at fI -/
structure ErTxt (K : Frag) (P : Program) (mg : Str → Option Value) (name : Str) (C fI : Addr) : Prop where
  gC : mg name = some (.ref C)
  cls : ∃ nm q N bs bm sn sub ab col dd k0 k1 k2 k3 k5, K.lookup C = some (excClassObj nm q C N bs bm true sn sub ab col dd k0 k1 k2 k3 k5 "Exception.__new__") ∧ refsEx bm = true
  sa : findIn K (.ref C) "__setattr__" = some (some (.builtin "object.__setattr__"))
  ga : findIn K (.ref C) "__getattribute__" = some (some (.builtin "BaseException.__getattribute__"))
  gg : findIn K (.ref C) "__getattr__" = some none
  iC : findIn K (.ref C) "__init__" = some (some (.ref fI))
  tC : typeIn K (.ref fI) = some (.type "function")
  kC : keepIn K (.ref C) = true
  exC : subIn K (.ref C) (.type "BaseException") = some true
  tyC : typeIn K (.ref C) = some (.type "type")
  hdC : hasDictIn K C = true
  sup : ks_superIn K C C "__init__" = some (some (.builtin "Exception.__init__"))
  isE : subIn K (.ref C) (.type "Exception") = some true
  mroC : mroIn K C (.ref C) = some true
  opq : nsIn K cStatics "thirdparty.any" = some none
  noS : mg "super" = none
  top : (P.main.scope.names.lookup ("super" : Str)).isSome = false
  fn : ∃ (oc : Value) (od : Option Addr) (doc pm : Value) (an : Option Addr) (cda : Addr) (ct : Value) (osl : Array (Option Value)) (cc : Addr) (qual txt : Str) (p1 q1 q2 q3 q4 q5 q6 : Pos) (kk : Nat) (ccl cl : Value) (cdd cld : Option Addr) (vs : Array Value) (ccs csl : Array (Option Value)) (file : Str) (tf : Tok),
    K.lookup fI = some ⟨oc, od, .func (ksFn "__init__" qual (iA p1) (iB txt q1 q2 q3 q4 q5 q6 kk) iS .none .none doc pm an (.ref cda) ct cc), osl⟩ ∧ codeIn K (.ref cda) qual = true ∧ K.lookup cda = some ⟨ccl, cdd, .fields vs, ccs⟩ ∧ vs[2]? = some (.str file tf) ∧
      ((P.main.file : Str) == file) = true ∧ (q3.endLine == q5.line) = true ∧ K.lookup cc = some ⟨cl, cld, .cell (some (.ref C)), csl⟩
structure InitEnd (h h' : Heap) (x C t1 : Addr) : Prop where
  keep : ∀ b o, b ≠ x → h.get? b = some o → h'.get? b = some o
  obj : h'.get? x = some (excO C t1)
section
variable {prog : Program} {w : World} {A : Around} {E : Value → Shared → Prop} {R : Result → Shared → Prop} {s : Shared} {K : Frag} {mg mb : Str → Option Value} {name : Str} {C fI : Addr}
theorem er_init (T : ErTxt K prog mg name C fI) {x t0 : Addr} (X : K.In s.heap) (G : s.heap.Ns mainGlobals mg) (Bn : s.heap.Ns builtinsNs mb) (hbb : ∀ x : Str, x ≠ "__name__" → mb x = bootBuiltins x) (hlim : s.heap.NoLimit) (hx : s.heap.get? x = some (excO C t0)) (hnx : K.lookup x = none) (hroom : A.depth < recursionLimit)
    (hq : ∀ h' tk t1, InitEnd s.heap h' x C t1 → R (.ok (.ret .none)) { s with heap := h', toks := tk }) :
    codeAny (model prog w) A (.call (.ref fI) ⟨[.ref x], []⟩) R s := by
  obtain ⟨oc, od, doc, pm, an, cda, ct, osl, cc, qual, txt, p1, q1, q2, q3, q4, q5, q6, kk, ccl, cl, cdd, cld, vs, ccs, csl, file, tf, ho, hcd, hcode, hvs, hfile, hline, hcell⟩ := T.fn
  obtain ⟨nm, q, N, bs, bm, sn, sub, ab, col, dd, k0, k1, k2, k3, k5, hC, hbm⟩ := T.cls
  have hcl : clsIn K C = some { name := nm, bases := bs, mro := .ref C :: bm, ns := N, qualname := q, hasDict := true, slotNames := sn, subclasses := sub, abstract := ab, collection := col, hasDel := false } := by unfold clsIn; rw [hC] <;> rfl
  refine ks_codeAny_call_defAt (fd := ksFn "__init__" qual (iA p1) (iB txt q1 q2 q3 q4 q5 q6 kk) iS .none .none doc pm an (.ref cda) ct cc) (body := iB txt q1 q2 q3 q4 q5 q6 kk) (binds := [("self", .ref x)]) hroom (X _ _ ho) rfl hlim (codeRec_of X hcd) rfl
    (BindsTo.of_eq (by first | rfl | with_unfolding_all rfl)) (show ∀ y ∈ iS.names, y.2 ≠ NameKind.cell by decide) (by intro y hy; simp at hy; subst hy; rfl) (fun h₁ hn hk₁ => ?_)
  obtain ⟨hp, g, dr, tk, os⟩ := s
  have X₁ : K.In h₁ := X.keeps hk₁
  have hx₁ := hk₁ _ _ hx
  have hxL : hp.objs.size ≠ x := Nat.ne_of_gt (Heap.lt_size hx)
  have hD1 := X₁ _ _ hC
  refine ks_wpAt_execs_cons (ks_wpAt_Expr_any (ks_wpAt_MethodCall (ks_wpAt_super_base (env := ksEnv qual iS hp.objs.size fI (.ref cda) cc) (by rfl) (by rfl) (by decide) rfl (X₁ _ _ ho) rfl rfl rfl (X₁ _ _ hcode) rfl hvs hfile T.top ?_) (super_eval hline)))
  have Gl₁ := G.keeps hk₁
  have Bn₁ := Bn.keeps hk₁
  refine ks_loadName_global rfl rfl (loadGlobal_builtin (env := ksEnv qual iS hp.objs.size fI (.ref cda) cc) Gl₁ T.noS Bn₁ ((hbb _ (by decide +kernel)).trans boot_super) ⟨rfl, ?_⟩)
  refine wpAny_loadName_free rfl rfl rfl ⟨_, X₁ _ _ hcell, rfl⟩ ?_
  refine wpAny_loadName_local rfl rfl hn (v := .ref x) (by first | rfl | with_unfolding_all rfl) ?_
  refine ks_wpAny_isType_cls hD1 rfl ⟨rfl, ?_⟩
  refine ks_wpAny_call_super hD1 rfl hx₁ rfl (fun c e => by cases e) (looks_mroIn X₁ T.mroC) (fun h₂ e₂ k₂ => ?_)
  have X₂ : K.In h₂ := X₁.keeps k₂
  have hx₂ := k₂ _ _ hx₁
  have inst₂ : InstAt h₂ x (excO C t0) C none := ⟨hx₂, rfl, rfl, trivial⟩
  have hxC : x ≠ C := fun z => by rw [z, hC] at hnx; cases hnx
  have hsup : alongIn K "__init__" (((Value.ref C :: bm).dropWhile (· != .ref C)).drop 1) = some (some (.builtin "Exception.__init__")) := by
    have z := T.sup
    unfold ks_superIn at z
    rw [hcl] at z
    exact z
  refine ESX.getMethod_super e₂ (looks_opaque X₂ T.opq) (l₀ := .ref C :: bm) (fun A Q E s k q => wpAny_bind ((looks_clsIn X₂ hcl) A _ E s k (wpAny_pure q))) rfl X₂ hsup hxC (by decide) (inst₂.type.andThen (looks_subIn X₂ T.isE)) ?_
  have hbw : (h₂.push (ESX.bw x)).get? h₂.objs.size = some (ESX.bw x) := Heap.get?_push_at rfl rfl
  have k₃ : ∀ b o, h₂.get? b = some o → (h₂.push (ESX.bw x)).get? b = some o := fun b o e => Heap.get?_push_of_some _ e
  refine ESX.callWith_bound (x := x) (Calls.spliced_cons (Calls.Constant_str (k := kk) (pos := q4) (Calls.spliced_nil ⟨hbw, ?_⟩))) rfl rfl
  refine ESX.call_bw (k₃ _ _ (k₂ _ _ (hk₁ _ _ (X _ _ hC)))) (k₃ _ _ hx₂) hbw (one_size _) (fun h₄ t1 k₄ hx₄ => ?_)
  have up : ∀ b o, b ≠ x → h₁.get? b = some o → h₄.get? b = some o := fun b o hb e => k₄ b o hb (k₃ _ _ (k₂ _ _ e))
  have X₄ : K.In h₄ := fun a o e => up a o (fun z => by rw [z, hnx] at e; cases e) (X₁ a o e)
  have hn₄ : h₄.Ns hp.objs.size (fun y => List.lookup y ([(("self" : Str), Value.ref x)] : List (Str × Value)).reverse) := by
    obtain ⟨o, es, ep, h1, r⟩ := hn
    exact ⟨o, es, ep, up _ _ hxL h1, r⟩
  refine wpAt_of_wpAny ?_
  show wpAny _ _ (execs _ _) _ _ _
  exact wpAny_execs_nil (hq h₄ _ t1 ⟨fun b o hb e => up b o hb (hk₁ b o e), hx₄⟩)
structure Made (h h' : Heap) (e C : Addr) : Prop where
  keep : ∀ b o, h.get? b = some o → h'.get? b = some o
  new : h.objs.size ≤ e
  obj : ∃ oe vs, h'.get? e = some oe ∧ oe.cls = .ref C ∧ oe.dict = none ∧ oe.data = .fields vs ∧ vs[1]? = some .none
theorem er_made (T : ErTxt K prog mg name C fI) (X : K.In s.heap) (G : s.heap.Ns mainGlobals mg) (Bn : s.heap.Ns builtinsNs mb) (hbb : ∀ x : Str, x ≠ "__name__" → mb x = bootBuiltins x) (hlim : s.heap.NoLimit) (hroom : A.depth + 1 < recursionLimit)
    (hq : ∀ h' tk e, Made s.heap h' e C → R (.ok (.ret (.ref e))) { s with heap := h', toks := tk }) :
    codeAny (model prog w) A (.call (.ref C) ⟨[], []⟩) R s := by
  obtain ⟨nm, q, N, bs, bm, sn, sub, ab, col, dd, k0, k1, k2, k3, k5, hC, hbm⟩ := T.cls
  obtain ⟨hp, g, dr, tk, os⟩ := s
  have up : ∀ b o, hp.get? b = some o → ((hp.push (kdv_tup [])).push (excO C hp.objs.size)).get? b = some o := fun b o e => Heap.get?_push_of_some _ (Heap.get?_push_of_some _ e)
  have there : ((hp.push (kdv_tup [])).push (excO C hp.objs.size)).get? (hp.objs.size + 1) = some (excO C hp.objs.size) := by heap_get
  have outK : K.lookup (hp.objs.size + 1) = none := by
    cases e : K.lookup (hp.objs.size + 1) with
    | none => rfl
    | some o =>
      have z : hp.get? (hp.objs.size + 1) = some o := X _ _ e
      exact absurd (Nat.lt_of_succ_lt (Heap.lt_size z)) (Nat.lt_irrefl _)
  refine call_own PySem.F.excBase_Exception (fun X => refsEx_has X bm hbm) (X _ _ hC) (looks_findIn X T.iC) (fun self => bind_fn X self T.tC) zero_size ?_
  refine er_init (s := ⟨(hp.push (kdv_tup [])).push (excO C hp.objs.size), g, dr, tk, os⟩) T (X.keeps up) (G.keeps up) (Bn.keeps up) hbb (hlim.keeps up) there outK ?_ fun h' tk' t1 ⟨k', hx⟩ => ?_
  · show A.depth + 1 < recursionLimit
    exact hroom
  · have old : ∀ b o, hp.get? b = some o → h'.get? b = some o := fun b o e => k' b o (Nat.ne_of_lt (Nat.lt_succ_of_lt (Heap.lt_size e))) (up b o e)
    exact ⟨rfl, hq h' tk' (hp.objs.size + 1) ⟨old, Nat.le_succ _, ⟨_, _, hx, rfl, rfl, rfl, rfl⟩⟩⟩
end
end En
end PV
end
section
set_option Elab.async false
set_option linter.all false
set_option maxRecDepth 100000
set_option maxHeartbeats 4000000
/-! PvY2: raise. -/
namespace PV
open PySem PySem.Spec PyProof.Rows L2
theorem relO_f {F : Str} {v : V} {v' : Value} (r : RelV v v') (f : Str) : RelO (List.lookup f [(F, v)]) (if f = F then some v' else none) := by
  by_cases hw : f = F
  · subst hw
    rw [if_pos rfl]
    have q : List.lookup f [(f, v)] = some v := by simp [List.lookup]
    rw [q]
    exact r
  · rw [if_neg hw]
    have qw : (f == F) = false := by simpa using hw
    have q2 : List.lookup f [(F, v)] = none := by simp [List.lookup, qw]
    rw [q2]
    trivial
/-- a made error with a field -/
structure MadeF (F : Str) (h h' : Heap) (e C d : Addr) (v : Value) : Prop where
  keep : ∀ b o, h.get? b = some o → h'.get? b = some o
  new : h.objs.size ≤ e
  obj : ∃ oe vs, h'.get? e = some oe ∧ oe.cls = .ref C ∧ oe.dict = some d ∧ oe.data = .fields vs ∧ vs[1]? = some .none
  dbig : h.objs.size ≤ d
  dne : d ≠ e
  ns : h'.Ns1 d (fun y => if y = F then some v else none)
/-- an error's class, its field F -/
structure ErP (P : Program) (K : PySem.W.Frag) (mg : Str → Option Value) (F nm : Str) (C : Addr) : Prop where
  gC : mg nm = some (.ref C)
  xf : XfC K C
  noN : PySem.W.findIn K (.ref C) F = some none
  kC : PySem.W.keepIn K (.ref C) = true
  tyC : PySem.W.typeIn K (.ref C) = some (.type "type")
  made : ∀ (w : World) (A : Around) (R : Result → Shared → Prop) (s : Shared) (mb : Str → Option Value) (v : Value), K.In s.heap → s.heap.Ns mainGlobals mg → s.heap.Ns builtinsNs mb → (∀ x : Str, x ≠ "__name__" → mb x = bootBuiltins x) → s.heap.NoLimit → A.depth + 1 < recursionLimit →
    (∀ h' tk e d, MadeF F s.heap h' e C d v → R (.ok (.ret (.ref e))) { s with heap := h', toks := tk }) → codeAny (model P w) A (.call (.ref C) ⟨[v], []⟩) R s
  madek : ∀ (w : World) (A : Around) (R : Result → Shared → Prop) (s : Shared) (mb : Str → Option Value) (v : Value), K.In s.heap → s.heap.Ns mainGlobals mg → s.heap.Ns builtinsNs mb → (∀ x : Str, x ≠ "__name__" → mb x = bootBuiltins x) → s.heap.NoLimit → A.depth + 1 < recursionLimit →
    (∀ h' tk e d, MadeF F s.heap h' e C d v → R (.ok (.ret (.ref e))) { s with heap := h', toks := tk }) → codeAny (model P w) A (.call (.ref C) ⟨[], [(F, v)]⟩) R s
/-- an error's class without a field -/
structure ErN (P : Program) (K : PySem.W.Frag) (mg : Str → Option Value) (nm : Str) (C : Addr) : Prop where
  gC : mg nm = some (.ref C)
  xf : XfC K C
  kC : PySem.W.keepIn K (.ref C) = true
  tyC : PySem.W.typeIn K (.ref C) = some (.type "type")
  made : ∀ (w : World) (A : Around) (R : Result → Shared → Prop) (s : Shared) (mb : Str → Option Value), K.In s.heap → s.heap.Ns mainGlobals mg → s.heap.Ns builtinsNs mb → (∀ x : Str, x ≠ "__name__" → mb x = bootBuiltins x) → s.heap.NoLimit → A.depth + 1 < recursionLimit →
    (∀ h' tk e, En.Made s.heap h' e C → R (.ok (.ret (.ref e))) { s with heap := h', toks := tk }) → codeAny (model P w) A (.call (.ref C) ⟨[], []⟩) R s
theorem Er.ErTxt.p {P : Program} {K : PySem.W.Frag} {mg : Str → Option Value} {nm : Str} {C fI : Addr} (T : Er.ErTxt K P mg nm C fI) : ErP P K mg "at" nm C :=
  ⟨T.gC, ⟨T.ga, T.gg, T.exC, T.hdC⟩, T.noN, T.kC, T.tyC, fun w A R s mb v h1 h2 h3 h4 h5 h6 h7 => Er.er_made T h1 h2 h3 h4 h5 h6 fun h' tk e d m => h7 h' tk e d ⟨m.keep, m.new, m.obj, m.dbig, m.dne, m.ns⟩, fun w A R s mb v h1 h2 h3 h4 h5 h6 h7 => Er.er_madeK T h1 h2 h3 h4 h5 h6 fun h' tk e d m => h7 h' tk e d ⟨m.keep, m.new, m.obj, m.dbig, m.dne, m.ns⟩⟩
theorem Ew.ErTxt.p {P : Program} {K : PySem.W.Frag} {mg : Str → Option Value} {nm : Str} {C fI : Addr} (T : Ew.ErTxt K P mg nm C fI) : ErP P K mg "word" nm C :=
  ⟨T.gC, ⟨T.ga, T.gg, T.exC, T.hdC⟩, T.noN, T.kC, T.tyC, fun w A R s mb v h1 h2 h3 h4 h5 h6 h7 => Ew.er_made T h1 h2 h3 h4 h5 h6 fun h' tk e d m => h7 h' tk e d ⟨m.keep, m.new, m.obj, m.dbig, m.dne, m.ns⟩, fun w A R s mb v h1 h2 h3 h4 h5 h6 h7 => Ew.er_madeK T h1 h2 h3 h4 h5 h6 fun h' tk e d m => h7 h' tk e d ⟨m.keep, m.new, m.obj, m.dbig, m.dne, m.ns⟩⟩
theorem En.ErTxt.p {P : Program} {K : PySem.W.Frag} {mg : Str → Option Value} {nm : Str} {C fI : Addr} (T : En.ErTxt K P mg nm C fI) : ErN P K mg nm C :=
  ⟨T.gC, ⟨T.ga, T.gg, T.exC, T.hdC⟩, T.kC, T.tyC, fun w A R s mb h1 h2 h3 h4 h5 h6 h7 => En.er_made T h1 h2 h3 h4 h5 h6 h7⟩
section
variable {X : Cx} {C : Addr} {name F : Str}
/-- E(e) -/
def tMkEr (F : Str) (C : Addr) (ta : TA) : L2.St → Hp → XK → Prop := fun σ H Q => ta σ H fun vs H1 => ∃ v, vs = [v] ∧ ∀ d, H1 d = none → Q (.ref C) (some d) (upd H1 d (.xd [(F, v)]))
/-- the made error, and the state without it -/
theorem mk_er {pins : List (Addr × Obj)} {σ : L2.St} {H1 : Hp} {Q : XK} {s1 : Shared} {v : V} {v' : Value} {k : Nat} (T : ErP X.prog X.K X.mg F name C) (hr : Room k X.A) (I1 : Inv X pins σ H1 s1) (rv : RelV v v') (q1 : ∀ d, H1 d = none → Q (.ref C) (some d) (upd H1 d (.xd [(F, v)]))) :
    codeAny (model X.prog X.w) X.A (.call (.ref C) ⟨[v'], []⟩) (fun r s => ∃ u, r = .ok (.ret u) ∧ MkP X pins σ Q u s) s1 := by
  have noLim := I1.nolimit
  have glob := I1.mod.glob.keeps I1.bk
  obtain ⟨mb, blt, hbb⟩ := I1.mod.blt
  have blt := blt.keeps I1.bk
  obtain ⟨hp, g, dr, tk, os⟩ := s1
  refine T.made X.w X.A _ _ mb v' I1.kIn glob blt hbb noLim (by have := hr.dp; omega) fun h' tk' e d Md => ⟨_, rfl, ?_⟩
  obtain ⟨oe, fv, hoe, hc, hdd, hdat, h1⟩ := Md.obj
  have dns := Md.ns
  obtain ⟨G', g1, g2⟩ := restrict h' fun b => decide (b ≠ e)
  have same : ∀ b, b ≠ e → G'.get? b = h'.get? b := fun b hb => g1 b (decide_eq_true hb)
  have gone : G'.get? e = none := g2 e (by simp)
  have old : ∀ b o, hp.get? b = some o → G'.get? b = some o := fun b o q => (same b (Nat.ne_of_lt (Nat.lt_of_lt_of_le (Heap.lt_size q) Md.new))).trans (Md.keep b o q)
  have ob : ObjOk X.prog X.w (upd H1 d (.xd [(F, v)])) G' d (.xd [(F, v)]) := ⟨_, dns.at (fun o q => (same d Md.dne).trans q), fun f => relO_f rv f⟩
  have J : Inv X pins σ (upd H1 d (.xd [(F, v)])) ⟨G', g, dr, tk', os⟩ := I1.laid (t' := tk') old Md.dbig ob
  refine ⟨e, oe, fv, ⟨G', g, dr, tk', os⟩, _, .ref C, some d, rfl, J, fun b o q => ?_, gone, hoe, ⟨hc, hdd⟩, hdat, h1, ?_, rfl, I1.bare, raises_own T.xf.exC T.tyC, q1 d (I1.hok.fresh Md.dbig)⟩
  · by_cases hb : b = e
    · have q' : G'.get? b = some o := q
      rw [hb, gone] at q'
      cases q'
    · exact (same b hb).symm.trans q
  · rw [upd_ne (Ne.symm Md.dne)]
    exact I1.hok.fresh Md.new
theorem pmk_er {a : Expr} {ta : TA} {p pos : Pos} {k : Nat} (T : ErP X.prog X.K X.mg F name C) (hr : Room k X.A) (ha : PA X [a] ta) (hg : Gl X name) (hd : (name == ("__debug__" : Str)) = false) (st : isStar a = false) :
    PMk X (.Call (.Name name p) [a] [] pos) (tMkEr F C ta) := by
  intro pins s σ H Q I h
  refine wpAny_Call_Name_kw (ld_glob I hg T.gC ?_ hd)
  refine PySem.W.callWith_K (h₀ := X.base) I.ok.mod.kin T.kC (thn (ha.run pos pins s σ H _ I h) fun us s1 hh => ?_) (starEach_no st) rfl
  obtain ⟨vs, H1, I1, r1, v, ev, q1⟩ := hh
  subst ev
  refine ⟨I1.kIn, ?_⟩
  obtain ⟨v', rfl, rv⟩ := vals1 r1
  show wpAny _ _ (call (.ref C) [v']) _ _ _
  refine wpAny_call (codeAny_mono (mk_er T hr I1 rv q1) fun r s2 hq => ?_)
  obtain ⟨u, rfl, m⟩ := hq
  exact m
/-- E() -/
theorem pmk_en {p pos : Pos} {k : Nat} (T : ErN X.prog X.K X.mg name C) (hr : Room k X.A) (hg : Gl X name) (hd : (name == ("__debug__" : Str)) = false) :
    PMk X (.Call (.Name name p) [] [] pos) (fun _ H Q => Q (.ref C) none H) := by
  intro pins s σ H Q I h
  refine wpAny_Call_Name_kw (ld_glob I hg T.gC ?_ hd)
  refine PySem.W.callWith_K0 I.kIn T.kC ?_
  show wpAny _ _ (call (.ref C) []) _ _ _
  have I1 := I
  have q1 := h
  have noLim := I1.nolimit
  have glob := I1.mod.glob.keeps I1.bk
  obtain ⟨mb, blt, hbb⟩ := I1.mod.blt
  have blt := blt.keeps I1.bk
  obtain ⟨hp, g, dr, tk, os⟩ := s
  refine wpAny_call (T.made X.w X.A _ _ mb I1.kIn glob blt hbb noLim (by have := hr.dp; omega) fun h' tk' e Md => ?_)
  show MkP X pins σ Q (.ref e) ⟨h', g, dr, tk', os⟩
  obtain ⟨oe, fv, hoe, hc, hdd, hdat, h1⟩ := Md.obj
  obtain ⟨G', g1, g2⟩ := restrict h' fun b => decide (b ≠ e)
  have same : ∀ b, b ≠ e → G'.get? b = h'.get? b := fun b hb => g1 b (decide_eq_true hb)
  have gone : G'.get? e = none := g2 e (by simp)
  have old : ∀ b o, hp.get? b = some o → G'.get? b = some o := fun b o q => (same b (Nat.ne_of_lt (Nat.lt_of_lt_of_le (Heap.lt_size q) Md.new))).trans (Md.keep b o q)
  have J : Inv X pins σ H ⟨G', g, dr, tk', os⟩ := I1.kept old
  refine ⟨e, oe, fv, ⟨G', g, dr, tk', os⟩, _, .ref C, none, rfl, J, fun b o q => ?_, gone, hoe, ⟨hc, hdd⟩, hdat, h1, I1.hok.fresh Md.new, rfl, I1.bare, raises_own T.xf.exC T.tyC, q1⟩
  by_cases hb : b = e
  · have q' : G'.get? b = some o := q
    rw [hb, gone] at q'
    cases q'
  · exact (same b hb).symm.trans q
end
section
variable {X : Cx} {C : Addr} {name F : Str}
/-- E(f = e).f -/
def tAtr (te : TE) : TE := fun σ H Q => tCons te tNil σ H fun zs H1 => ∃ v, zs = [v] ∧ Q v H1
theorem pe_atr {a : Expr} {te : TE} {p p2 p3 p4 : Pos} {k : Nat} (T : ErP X.prog X.K X.mg F name C) (hr : Room k X.A) (ha : PE X a te) (hg : Gl X name) (hd : (name == ("__debug__" : Str)) = false) :
    PE X (.Attribute (.Call (.Name name p) [] [⟨some F, a, p4⟩] p2) F p3) (tAtr te) := by
  refine ⟨fun pins s σ H Q I h => ?_⟩
  refine attr_of rfl ?_
  refine wpAny_Call_Name_kw (ld_glob I hg T.gC ?_ hd)
  refine PySem.W.callWith_KW0 (h₀ := X.base) I.ok.mod.kin T.kC rfl (thn ((pk_cons ha pk_nil).run p2 pins s σ H _ I h) fun ws s1 hh => ?_) rfl
  obtain ⟨zs, H1, I1, rz, v, ez, q1⟩ := hh
  subst ez
  obtain ⟨v', rfl, rv⟩ := vals1 rz
  refine ⟨I1.kIn, ?_⟩
  show wpAny _ _ (call (.ref C) [] [(F, v')]) _ _ _
  have noLim := I1.nolimit
  have glob := I1.mod.glob.keeps I1.bk
  obtain ⟨mb, blt, hbb⟩ := I1.mod.blt
  have blt := blt.keeps I1.bk
  obtain ⟨hp, g, dr, tk, os⟩ := s1
  refine wpAny_call (T.madek X.w X.A _ _ mb v' I1.kIn glob blt hbb noLim (by have := hr.dp; omega) fun h' tk' e d Md => ?_)
  obtain ⟨oe, fv, hoe, hc, hdd, hdat, h1⟩ := Md.obj
  have I2 : Inv X pins σ H1 ⟨h', g, dr, tk', os⟩ := I1.kept Md.keep
  obtain ⟨od, ho, hl⟩ := lookIn_ns Md.ns
  have J : PySem.W.InstAt h' e oe C (some od) := ⟨hoe, hc, by unfold PySem.W.notCls; rw [hdat] <;> rfl, by rw [hdd]; exact ho⟩
  exact HandSPX.exc_get I2.kIn J T.xf.ga T.xf.gg T.xf.exC (PySem.W.findObj_own T.xf.hdC T.noN rfl (by rw [hl, if_pos rfl])) (handed_of rv) ⟨v, H1, I2.tok _, rv, q1⟩
end
/-- a class that is raised -/
def Rs (fl : Str) : Prop := fl = "at" ∨ fl = "word" ∨ fl = "-"
theorem rsB_ok {fl : Str} (h : rsB fl = true) : Rs fl := by
  unfold rsB at h
  simp only [Bool.or_eq_true, decide_eq_true_eq] at h
  exact h
theorem at_ne : ¬(("at" : Str) = "-") := by decide
theorem word_ne : ¬(("word" : Str) = "-") := by decide
/-- the errors of the text -/
structure Ers (M : SM) (X : Cx) : Prop where
  gl : ∀ (c : Nat) (nm fl : Str), M.C.cls[c]? = some (nm, fl) → X.mg nm = some (.ref (M.ca c))
  mkr : ∀ (c : Nat) (nm fl : Str), M.C.cls[c]? = some (nm, fl) → Rs fl → fl ≠ "-" → ErP X.prog X.K X.mg fl nm (M.ca c)
  mkn : ∀ (c : Nat) (nm : Str), M.C.cls[c]? = some (nm, ("-" : Str)) → ErN X.prog X.K X.mg nm (M.ca c)
  exm : ∀ (c k : Nat) (nm nm' fl fl' : Str), M.C.cls[c]? = some (nm, fl) → Rs fl → M.C.cls[k]? = some (nm', fl') → PySem.W.exmOne X.K (.ref (M.ca c)) (.ref (M.ca k)) = some ((M.C.sub.getD k []).contains c)
theorem Ers.xf {M : SM} {X : Cx} (er : Ers M X) {c : Nat} {nm fl : Str} (h : M.C.cls[c]? = some (nm, fl)) (r : Rs fl) : XfC X.K (M.ca c) := by
  by_cases e : fl = "-"
  · subst e; exact (er.mkn c nm h).xf
  · exact (er.mkr c nm fl h r e).xf
section
variable {M : SM} {X : Cx} {W : WX} {c : CC} {k : Nat} {pos : Pos}
theorem fl_of {cc : Nat} {nm fl : Str} (hc : M.C.cls[cc]? = some (nm, fl)) : M.C.fl cc = fl := by
  unfold Cfg.fl
  rw [List.getD_eq_getElem?_getD, hc]
  rfl
theorem XH_f {cc : Nat} {nm fl : Str} {d : D} {x : V} {dx : Addr} (hc : M.C.cls[cc]? = some (nm, fl)) (h : fl ≠ "-") : XH M cc d x dx = [(.ov (.imm d), x), (.raw (.xd [(fl, x)]), .ref dx)] ∧ XD M cc dx = some dx := by
  unfold XH XD
  rw [fl_of hc, if_neg h, if_neg h]
  exact ⟨rfl, rfl⟩
theorem XH_n {cc : Nat} {nm : Str} {d : D} {x : V} {dx : Addr} (hc : M.C.cls[cc]? = some (nm, ("-" : Str))) : XH M cc d x dx = [] ∧ XD M cc dx = none := by
  unfold XH XD
  rw [fl_of hc, if_pos rfl, if_pos rfl]
  exact ⟨rfl, rfl⟩
end
end PV
end
section
set_option Elab.async false
set_option linter.all false
set_option maxRecDepth 100000
set_option maxHeartbeats 4000000
/-! PvZ: try with several clauses, named or not. -/
namespace PV
open PySem PySem.Spec PyProof.Rows L2
/-- a clause: the class, the slot of its name, its suite -/
structure ClR where
  c : Value
  i : Option Nat
  ts : Addr → Value → Option Addr → TS
def goneE (i : Option Nat) (D : Ends) : Ends := match i with
  | some i => { nx := fun σ' H' => D.nx (σ'.set i none) H', rt := D.rt, bk := fun σ' H' => D.bk (σ'.set i none) H', ct := fun σ' H' => D.ct (σ'.set i none) H' }
  | none => D
def goneS (i : Option Nat) (a : Addr) (σ : L2.St) : L2.St := match i with
  | some i => σ.set i (some (.ref a))
  | none => σ
/-- what the clauses wish of an exception -/
def wCl (K : PySem.W.Frag) (Wout : WX) (D : Ends) : List ClR → WX
  | [] => Wout
  | h :: r => fun cls d σ H => ∃ b, PySem.W.exmOne K cls h.c = some b ∧ (b = true → ∀ a, H a = none → h.ts a cls d (goneE h.i D) (goneS h.i a σ) H) ∧ (b = false → wCl K Wout D r cls d σ H)
inductive ClOk (X : Cx) : List ExceptHandler → List ClR → Prop
  | nil : ClOk X [] []
  | one {x : Str} {h : ClR} {nm : Option Str} {b₀ : Stmt} {suite : List Stmt} {np pos' : Pos} {hds : List ExceptHandler} {l : List ClR} (hc : Names X x h.c)
      (hn : ∀ n, nm = some n → ∃ i, h.i = some i ∧ X.N[i]? = some n ∧ X.env.kindOf n = some .local) (hn0 : nm = none → h.i = none)
      (run : ∀ (a : Addr) (oe : Obj) (cls : Value) (d : Option Addr) (pn : List (Addr × Obj)), Zc cls d oe → (∃ vs, oe.data = .fields vs) → PSs (X.suite a ((a, oe) :: pn)) (b₀ :: suite) (h.ts a cls d)) (r : ClOk X hds l) :
      ClOk X (.ExceptHandler (some (.Name x np)) nm (b₀ :: suite) pos' :: hds) (h :: l)
section
variable {X : Cx} {body : List Stmt} {h₀ : ExceptHandler} {hds : List ExceptHandler} {l : List ClR} {pos : Pos} {tb : WX → TS} {Wout : WX}
theorem ps_tryX (hN : X.N.Nodup) (hs : X.stack = X.env :: X.outer) (hf : X.env.frame = some X.env.locals) (tk : Takes X Wout)
    (hb : ∀ (W : WX) (pn : List (Addr × Obj)) (xe : Value → Shared → Prop), Takes (X.tr pn xe) W → PassesOwn (model X.prog X.w) X.A X.env xe → PSs (X.tr pn xe) body (tb W))
    (hh : ClOk X (h₀ :: hds) l) : PS X (.Try body (h₀ :: hds) [] [] pos) (fun D σ H => tb (wCl X.K Wout D l) D σ H) := by
  refine ⟨fun pins s σ H D I h => ?_⟩
  have ok := I.ok
  have frs0 : X.A.frames = some (X.env :: X.outer) := by rw [ok.frames, hs]
  refine wpAny_Try_except (wpAny_mono ((hb (wCl X.K Wout D l) (X.pn ++ pins) (fun e s₁ => wpAny (model X.prog X.w) X.A (noteFrame e X.env) (fun _ s₂ => wpAny (model X.prog X.w) X.A (setFlight e none)
    (fun _ s₃ => wpAny (model X.prog X.w) X.A (handleBy e X.env (h₀ :: hds)) (SP X pins D) X.xe s₃) X.xe s₂) X.xe s₁) (fun u s' xx => ?_) PassesOwn.looking).run [] s σ H D (I.toTry _) h) (fun f s1 hsp => ?_) (fun e s1 he => he))
  · obtain ⟨a, B, sI, pins', σ', H', cls, d, rfl, J', nb, up, sky, na, os, ag, w⟩ := xx
    have J : Inv X pins σ' H' sI := J'.ofTry ok
    have sky2 : Sky B (X.env :: X.outer) a (Zc cls d) X.env.locals s'.heap := by rw [← hs]; exact sky
    show wpAny (model X.prog X.w) X.A (noteFrame (.ref a) X.env) _ _ _
    refine Sky.land Zc.steady frs0 hf sky2 fun h3 fl3 up3 => ?_
    have J3 : Inv X pins σ' H' { s' with heap := h3 } := J.landed nb fl3.1 (up.trans up3) os ag
    obtain ⟨oe3, vs3, he3, hz3, hd3⟩ := fl3.there
    have nfr : a ∉ frs (X.env :: X.outer) := fun hm => by
      obtain ⟨_, o', e', hnf⟩ := (fl3.2.2.1).mem hm
      rw [he3] at e'
      cases e'
      exact hnf _ hd3
    have nL : a ≠ X.env.locals := fun z => nfr (List.mem_filterMap.mpr ⟨X.env, List.mem_cons_self, by rw [hf, z]⟩)
    have nF : a ∉ X.fs := fun hm => by
      obtain ⟨e, he, q⟩ := List.mem_filterMap.mp hm
      exact nfr (List.mem_filterMap.mpr ⟨e, List.mem_cons_of_mem _ he, q⟩)
    have S3 := J3.suite he3 hd3 na nL nF
    have go : ∀ {hds' : List ExceptHandler} {l' : List ClR}, ClOk X hds' l' → wCl X.K Wout D l' cls d σ' H' → wpAny (model X.prog X.w) X.A (handleBy (.ref a) X.env hds') (SP X pins D) X.xe { s' with heap := h3 } := by
      intro hds' l' hk
      induction hk with
      | nil =>
        intro w
        refine wpAny_handleBy_nil ?_
        obtain ⟨k1, k2, k3, oe, vs, T, oT, ts', he, hz, hd, h1, hr⟩ := id fl3
        have fin : wpAny (model X.prog X.w) X.A (setFlight (.ref a) X.env.frame) (fun _ s4 => wpAny (model X.prog X.w) X.A (throw (.ref a) : Sem Flow) (SP X pins D) X.xe s4) X.xe { s' with heap := h3 } := by
          rw [hf]
          exact HandSPX.setFlight_upZ fl3 fun h4 hh4 up4 => wpAny_throw (tk _ _ ⟨a, B, sI, pins, σ', H', cls, d, rfl, J, nb, (up.trans up3).trans up4, .inr (.inr (by rw [hs]; exact hh4)), na, os, ag, w⟩)
        unfold PySem.passOn
        refine wpAny_bind (wpAny_field he hd h1 ?_)
        rw [if_neg (show ¬ ((Value.ref T == Value.none) = true) from by simp)]
        first
          | exact wpAny_bind (wpAny_pure (wpAny_bind fin))
          | exact wpAny_bind fin
      | @one x hcl nm b₀ suite np pos' hds2 l2 hc hn hn0 run r ih =>
        intro w
        obtain ⟨b, hb1, hyes, hno⟩ := w
        have LT : PySem.W.Looks (model X.prog X.w) h3 (typeOf (.ref a)) cls := fun A Q E s k q => wpAny_typeOf_ref (k _ _ he3) (by rw [hz3.1]; exact q)
        have LM := PySem.W.exm_one (M := model X.prog X.w) (J3.kIn) LT hb1
        have test : ∀ {Q : Value → Shared → Prop} {E : Value → Shared → Prop}, Q hcl.c { s' with heap := h3 } → wpAny (model X.prog X.w) (X.A.mark (some (.ref a))) (eval (.Name x np) X.env) Q E { s' with heap := h3 } := fun {Q E} q => by
          obtain ⟨hg, hdbg, hm | ⟨hm, hv, hnn⟩⟩ := hc
          · exact ld_glob (X := X.suite a ((a, oe3) :: (X.pn ++ pins))) S3 hg hm q hdbg
          · exact ld_blt (X := X.suite a ((a, oe3) :: (X.pn ++ pins))) S3 hg hm hv q hnn hdbg
        refine wpAny_handleBy_cons (codeAny_handlers_test ?_) (by intro q; cases q)
        refine test (LM.here ?_)
        cases b with
        | true =>
          have hyes := hyes rfl a na
          cases nm with
          | none =>
            rw [hn0 rfl] at hyes
            refine codeAny_handlers_suite (HandSPX.lands_againZ fl3 fun h4 fl4 up4 => ?_)
            have J4 : Inv X pins σ' H' { s' with heap := h4 } := J.landed nb fl4.1 ((up.trans up3).trans up4) os ag
            obtain ⟨oe4, vs4, he4, hz4, hd4⟩ := fl4.there
            have S4 := J4.suite he4 hd4 na nL nF
            refine wpAny_mono ((run a oe4 cls d (X.pn ++ pins) hz4 ⟨_, hd4⟩).run [] _ _ H' _ S4 hyes) (fun f s6 hsp => ?_) (fun _ _ z => False.elim z)
            cases f with
            | ret u =>
              obtain ⟨v6, σ6, H6, S6, r6, q6⟩ := hsp
              exact ⟨_, _, _, S6.unsuite ok, r6, q6⟩
            | _ =>
              obtain ⟨σ6, H6, S6, q6⟩ := hsp
              exact ⟨_, _, S6.unsuite ok, q6⟩
          | some n =>
            obtain ⟨i, hi, hNi, hln⟩ := hn n rfl
            rw [hi] at hyes
            refine codeAny_handlers_suite_as (HandSPX.lands_againZ fl3 fun h4 fl4 up4 => ?_)
            have J4 : Inv X pins σ' H' { s' with heap := h4 } := J.landed nb fl4.1 ((up.trans up3).trans up4) os ag
            obtain ⟨oe4, vs4, he4, hz4, hd4⟩ := fl4.there
            have S4 := J4.suite he4 hd4 na nL nF
            refine store_ok (X := X.suite a ((a, oe4) :: (X.pn ++ pins))) (v := .ref a) S4 hN hNi (.inl hln) rfl (fun s5 S5 => ?_) (.inr hln)
            refine wpAny_mono ((run a oe4 cls d (X.pn ++ pins) hz4 ⟨_, hd4⟩).run [] s5 _ H' _ S5 hyes) (fun f s6 hsp => ?_) (fun _ _ z => False.elim z)
            have out : ∀ {σ6 : L2.St} {H6 : Hp} {Q : Shared → Prop}, Inv (X.suite a ((a, oe4) :: (X.pn ++ pins))) [] σ6 H6 s6 → (∀ s7, Inv X pins (σ6.set i none) H6 s7 → Q s7) →
                wpAny (model X.prog X.w) X.A (do bindName X.env n .none; unbindBehindTheSuite X.env n pos') (fun _ s7 => Q s7) X.xe s6 := fun {σ6 H6 Q} S6 hq => gone_ok (S6.unsuite ok) hN hNi hln hq
            cases f with
            | ret u =>
              obtain ⟨v6, σ6, H6, S6, r6, q6⟩ := hsp
              exact out S6 fun s7 J7 => ⟨_, _, _, J7, r6, q6⟩
            | _ =>
              obtain ⟨σ6, H6, S6, q6⟩ := hsp
              exact out S6 fun s7 J7 => ⟨_, _, J7, q6⟩
        | false =>
          show wpAny _ X.A (handleBy (.ref a) X.env hds2) _ _ _
          exact ih (hno rfl)
    exact go hh w
  · cases f with
    | next =>
      obtain ⟨σ', H', J', q⟩ := hsp
      exact wpAny_execs_nil ⟨σ', H', J'.ofTry ok, q⟩
    | ret u =>
      obtain ⟨v, σ', H', J', r, q⟩ := hsp
      exact ⟨v, σ', H', J'.ofTry ok, r, q⟩
    | _ =>
      obtain ⟨σ', H', J', q⟩ := hsp
      exact ⟨σ', H', J'.ofTry ok, q⟩
end
end PV
end
section
set_option Elab.async false
set_option linter.all false
set_option maxRecDepth 100000
set_option maxHeartbeats 4000000
/-! PvT0: a lambda handed to a def that tells what it caught. -/
namespace PV
open PySem PySem.Spec PyProof.Rows L2
/-! ### the tables -/
section
variable {K : PySem.W.Frag} {G H H1 : Hp} {s : Sl} {T : List (Hd × V)} {σ : L2.St}
theorem HdR.tb {A : List Addr} : ∀ {T : List (Hd × V)} {B : List Addr}, hasTb T → HdR K G H A T B → ∃ b, (∀ a ∈ b, a ∈ B) ∧ TbR K G H b
  | [], _, h, _ => h.elim
  | (.ov _, _) :: T, B, h, r => by
    obtain ⟨b, c, rfl, _, r⟩ := r
    obtain ⟨b', k, t⟩ := HdR.tb (T := T) h r
    exact ⟨b', fun a ha => by simp [k a ha], t⟩
  | (.od _, _) :: T, B, h, r => HdR.tb (T := T) h r.2
  | (.raw _, _) :: T, B, h, r => by
    obtain ⟨a', c, _, rfl, _, r⟩ := r
    obtain ⟨b', k, t⟩ := HdR.tb (T := T) h r
    exact ⟨b', fun a ha => by simp [k a ha], t⟩
  | (.tbs, _) :: T, B, h, r => by
    obtain ⟨b, c, rfl, t, _⟩ := r
    exact ⟨b, fun a ha => by simp [ha], t⟩
theorem WI.tabs (np : noPk T) (w : WI K s T σ H) : LamX.Tabs (tbOf K) H := by
  obtain ⟨G, A, B, e, hs, hd, nd, n⟩ := w
  obtain ⟨b, _, t⟩ := HdR.tb (noPk_iff.mp np).2 hd
  intro p hp
  obtain ⟨_, ps, h2, h3, h4⟩ := t.2 p hp
  refine ⟨ps, h2, h3, fun pos cv q => ?_⟩
  obtain ⟨c, e1, e2⟩ := h4 pos cv q
  exact ⟨c, e1, e _ _ e2⟩
/-- the settled part stays what it was, but for tables; the code objects join it -/
def SubG (G G' : Hp) : Prop := ∀ a o, G a = some o → Ob o → G' a = some o
theorem SubG.rd {G' : Hp} {a : Addr} {xs : List V} (e : SubG G G') (r : Rd G a (.lst xs)) : Rd G' a (.lst xs) := by
  rcases r with r | ⟨o, r⟩
  · exact .inl (e _ _ r ⟨nofun, nofun⟩)
  · exact .inr ⟨o, e _ _ r ⟨nofun, nofun⟩⟩
theorem SubG.tup {G' : Hp} {a : Addr} {xs : List V} (e : SubG G G') (r : TupR K G a xs) : TupR K G' a xs := by
  rcases r with ⟨o, h, t⟩ | r
  · exact .inl ⟨o, e _ _ h ⟨nofun, nofun⟩, t⟩
  · exact .inr r
mutual
theorem Dq.sub {G' : Hp} (e : SubG G G') : ∀ (d : D) (v : V), Dq K G v d → Dq K G' v d
  | .none, _, h => by cases h; exact .non
  | .bool _, _, h => by cases h; exact .bl _
  | .int _, _, h => by cases h; exact .int _
  | .str _, _, h => by cases h; exact .str _
  | .list ds, _, h => by
    cases h with
    | lst a b => exact .lst (e.rd a) (Dq.subAll e ds _ b)
  | .tuple ds, _, h => by
    cases h with
    | tup a b => exact .tup (e.tup a) (Dq.subAll e ds _ b)
  | .dict _, _, h => by
    cases h with
    | fn a => exact .fn a
theorem Dq.subAll {G' : Hp} (e : SubG G G') : ∀ (ds : List D) (vs : List V), DqAll K G vs ds → DqAll K G' vs ds
  | [], _, h => by cases h; exact .nil
  | d :: ds, _, h => by
    cases h with
    | cons a b => exact .cons (Dq.sub e d _ a) (Dq.subAll e ds _ b)
end
mutual
theorem OR.sub {G' : Hp} (e : SubG G G') : ∀ (x : OV) (v : V) (A : List Addr), (∀ a ∈ A, ∀ o, H a = some o → Ob o → H1 a = some o) → (∀ a ∈ A, G' a = none) → OR K G H x v A → OR K G' H1 x v A
  | .imm d, v, A, _, _, h => ⟨h.1, Dq.sub e _ _ h.2⟩
  | .ol xs, v, A, k, n, h => by
    obtain ⟨p, vs, B, rfl, rfl, g, hp, r⟩ := h
    exact ⟨p, vs, B, rfl, rfl, n p (by simp), k p (by simp) _ hp ⟨nofun, nofun⟩, ORs.sub e xs vs B (fun a ha => k a (by simp [ha])) (fun a ha => n a (by simp [ha])) r⟩
theorem ORs.sub {G' : Hp} (e : SubG G G') : ∀ (xs : List OV) (vs : List V) (A : List Addr), (∀ a ∈ A, ∀ o, H a = some o → Ob o → H1 a = some o) → (∀ a ∈ A, G' a = none) → ORs K G H xs vs A → ORs K G' H1 xs vs A
  | [], _, _, _, _, h => h
  | x :: xs, vs, A, k, n, h => by
    obtain ⟨v, vr, B, C, rfl, rfl, h1, h2⟩ := h
    exact ⟨v, vr, B, C, rfl, rfl, OR.sub e x v B (fun a ha => k a (by simp [ha])) (fun a ha => n a (by simp [ha])) h1,
      ORs.sub e xs vr C (fun a ha => k a (by simp [ha])) (fun a ha => n a (by simp [ha])) h2⟩
end
theorem SlR.sub {G' : Hp} (e : SubG G G') : ∀ (s : Sl) (σ : L2.St) (A : List Addr), (∀ a ∈ A, ∀ o, H a = some o → Ob o → H1 a = some o) → (∀ a ∈ A, G' a = none) → SlR K G H s σ A → SlR K G' H1 s σ A
  | [], _, _, _, _, h => h
  | none :: s, σ, A, k, n, h => by
    obtain ⟨y, r, rfl, h⟩ := h
    exact ⟨y, r, rfl, SlR.sub e s r A k n h⟩
  | some ov :: s, σ, A, k, n, h => by
    obtain ⟨v, r, B, C, rfl, rfl, h1, h2⟩ := h
    exact ⟨v, r, B, C, rfl, rfl, OR.sub e ov v B (fun a ha => k a (by simp [ha])) (fun a ha => n a (by simp [ha])) h1,
      SlR.sub e s r C (fun a ha => k a (by simp [ha])) (fun a ha => n a (by simp [ha])) h2⟩
/-- what an owned place holds -/
def Owned (K : PySem.W.Frag) (H : Hp) (a : Addr) : Prop := ∃ o, H a = some o ∧ (Ob o ∨ ((∃ ps, o = .tbl ps) ∧ ∃ q, (a, q) ∈ tbOf K))
mutual
theorem OR.own : ∀ (x : OV) (v : V) (A : List Addr), OR K G H x v A → ∀ a ∈ A, Owned K H a
  | .imm d, v, A, h, a, ha => by rw [h.1] at ha; cases ha
  | .ol xs, v, A, h, a, ha => by
    obtain ⟨p, vs, B, rfl, rfl, g, hp, r⟩ := h
    rcases List.mem_cons.mp ha with rfl | ha
    · exact ⟨_, hp, .inl ⟨nofun, nofun⟩⟩
    · exact ORs.own xs vs B r a ha
theorem ORs.own : ∀ (xs : List OV) (vs : List V) (A : List Addr), ORs K G H xs vs A → ∀ a ∈ A, Owned K H a
  | [], _, _, h, a, ha => by rw [h.2] at ha; cases ha
  | x :: xs, vs, A, h, a, ha => by
    obtain ⟨v, vr, B, C, rfl, rfl, h1, h2⟩ := h
    rcases List.mem_append.mp ha with ha | ha
    · exact OR.own x v B h1 a ha
    · exact ORs.own xs vr C h2 a ha
end
theorem SlR.own : ∀ (s : Sl) (σ : L2.St) (A : List Addr), SlR K G H s σ A → ∀ a ∈ A, Owned K H a
  | [], _, _, h, a, ha => by rw [h.2] at ha; cases ha
  | none :: s, σ, A, h, a, ha => by
    obtain ⟨y, r, rfl, h⟩ := h
    exact SlR.own s r A h a ha
  | some ov :: s, σ, A, h, a, ha => by
    obtain ⟨v, r, B, C, rfl, rfl, h1, h2⟩ := h
    rcases List.mem_append.mp ha with ha | ha
    · exact OR.own ov v B h1 a ha
    · exact SlR.own s r C h2 a ha
theorem HdR.own {A : List Addr} : ∀ {T : List (Hd × V)} {B : List Addr}, HdR K G H A T B → ∀ a ∈ B, Owned K H a
  | [], _, h, a, ha => by
    have h : _ = [] := h
    rw [h] at ha; cases ha
  | (.ov v, x) :: T, B, h, a, ha => by
    obtain ⟨b, c, rfl, h1, h2⟩ := h
    rcases List.mem_append.mp ha with ha | ha
    · exact OR.own v x b h1 a ha
    · exact HdR.own (T := T) h2 a ha
  | (.od d, x) :: T, B, h, a, ha => HdR.own (T := T) h.2 a ha
  | (.raw o, x) :: T, B, h, a, ha => by
    obtain ⟨a', c, rfl, rfl, h1, h2⟩ := h
    rcases List.mem_cons.mp ha with rfl | ha
    · exact ⟨_, h1.1, .inl h1.2⟩
    · exact HdR.own (T := T) h2 a ha
  | (.tbs, x) :: T, B, h, a, ha => by
    obtain ⟨b, c, rfl, h1, h2⟩ := h
    rcases List.mem_append.mp ha with ha | ha
    · obtain ⟨hq, ps, z⟩ := h1.1 a ha
      exact ⟨_, z, .inr ⟨⟨ps, rfl⟩, hq⟩⟩
    · exact HdR.own (T := T) h2 a ha
theorem HdR.sub {G' : Hp} {A : List Addr} (e : SubG G G') (tb : LamX.Tabs (tbOf K) H1) (cd : ∀ c q, H1 c = some (LamX.CodeO c q) → G' c = some (LamX.CodeO c q)) (k : LamX.ExtN H H1) : ∀ (T : List (Hd × V)) (B : List Addr), noPk0 T → (∀ a ∈ B, G' a = none) → HdR K G H A T B → HdR K G' H1 A T B
  | [], _, _, _, h => h
  | (.ov v, x) :: T, B, z, n, h => by
    obtain ⟨b, c, rfl, h1, h2⟩ := h
    exact ⟨b, c, rfl, OR.sub e v x b (fun a ha o ho q => k a o ho q.1) (fun a ha => n a (by simp [ha])) h1, HdR.sub e tb cd k T c z (fun a ha => n a (by simp [ha])) h2⟩
  | (.od _, _) :: _, _, z, _, _ => z.elim
  | (.raw o, x) :: T, B, z, n, h => by
    obtain ⟨a', c, rfl, rfl, h1, h2⟩ := h
    exact ⟨a', c, rfl, rfl, ⟨k _ _ h1.1 h1.2.1, h1.2⟩, HdR.sub e tb cd k T c z (fun a ha => n a (by simp [ha])) h2⟩
  | (.tbs, x) :: T, B, z, n, h => by
    obtain ⟨b, c, rfl, h1, h2⟩ := h
    refine ⟨b, c, rfl, ⟨fun a ha => ?_, fun p hp => ?_⟩, HdR.sub e tb cd k T c z (fun a ha => n a (by simp [ha])) h2⟩
    · obtain ⟨⟨q, hq⟩, ps, _⟩ := h1.1 a ha
      obtain ⟨ps', z, _⟩ := tb _ hq
      exact ⟨⟨q, hq⟩, ps', z⟩
    · obtain ⟨i1, _⟩ := h1.2 p hp
      obtain ⟨ps', z1, z2, z3⟩ := tb _ hp
      refine ⟨i1, ps', z1, z2, fun pos cv q => ?_⟩
      obtain ⟨c', e1, e2⟩ := z3 pos cv q
      exact ⟨c', e1, cd _ _ e2⟩
/-- what is held stands behind the making of a lambda -/
theorem WI.made (np : noPk T) (k : LamX.ExtN H H1) (tb : LamX.Tabs (tbOf K) H1) (w : WI K s T σ H) : WI K s T σ H1 := by
  obtain ⟨G, A, B, e, hs, hd, nd, n⟩ := w
  let G' : Hp := fun a => if a ∈ A ++ B then none else match H1 a with
    | some (.ext f) => some (.ext f)
    | _ => (match G a with
      | some (.tbl _) => none
      | o => o)
  have own : ∀ a ∈ A ++ B, ∃ o, H1 a = some o ∧ ∀ f, o ≠ .ext f := fun a ha => by
    have : Owned K H a := by
      rcases List.mem_append.mp ha with ha | ha
      · exact SlR.own s σ A hs a ha
      · exact HdR.own hd a ha
    obtain ⟨o, h1, h2 | ⟨⟨ps, rfl⟩, q, hq⟩⟩ := this
    · exact ⟨o, k _ _ h1 h2.1, h2.2⟩
    · obtain ⟨ps', z, _⟩ := tb _ hq
      exact ⟨_, z, nofun⟩
  have nG : ∀ a ∈ A ++ B, G' a = none := fun a ha => if_pos ha
  have eG : SubG G G' := fun a o g ho => by
    have na : a ∉ A ++ B := fun ha => by rw [n a ha] at g; cases g
    have h1 : H1 a = some o := k _ _ (e _ _ g) ho.1
    show (if a ∈ A ++ B then none else _) = _
    rw [if_neg na, h1, g]
    cases o with
    | ext f => exact absurd rfl (ho.2 f)
    | tbl ps => exact absurd rfl (ho.1 ps)
    | _ => rfl
  have cd : ∀ c q, H1 c = some (LamX.CodeO c q) → G' c = some (LamX.CodeO c q) := fun c q h => by
    have na : c ∉ A ++ B := fun ha => by
      obtain ⟨o, h1, h2⟩ := own c ha
      rw [h] at h1
      unfold LamX.CodeO at h1
      exact h2 _ (Option.some.inj h1).symm
    show (if c ∈ A ++ B then none else _) = _
    rw [if_neg na, h]
    rfl
  refine ⟨G', A, B, fun a o g => ?_, SlR.sub eG s σ A (fun a ha o ho q => k a o ho q.1) (fun a ha => nG a (by simp [ha])) hs, HdR.sub eG tb cd k T B np.to0 (fun a ha => nG a (by simp [ha])) hd, nd, nG⟩
  have g : (if a ∈ A ++ B then none else match H1 a with
    | some (.ext f) => some (.ext f)
    | _ => (match G a with
      | some (.tbl _) => none
      | o => o)) = some o := g
  by_cases ha : a ∈ A ++ B
  · rw [if_pos ha] at g; cases g
  · rw [if_neg ha] at g
    split at g
    · rename_i f h; rw [h]; exact g
    · split at g
      · cases g
      · rename_i hne
        have g2 : G a = some o := g
        refine k _ _ (e _ _ g2) fun ps z => ?_
        subst z
        exact hne ps g2
end
end PV
end
section
set_option Elab.async false
set_option linter.all false
set_option maxRecDepth 100000
set_option maxHeartbeats 4000000
/-! PvT1: f(lambda: ..), f a def that tells what it caught. -/
namespace PV
open PySem PySem.Spec PyProof.Rows L2
/-! ### what such a def hands back -/
def tHt (M : SM) (c0 : Nat) (K : PySem.W.Frag) (i : Option Nat) (a : Addr) (d : Option Addr) (e : HE) : TE := fun σZ H Q => ∃ σ s T f x dx, WI K s (XH M c0 f x dx ++ T) σ H ∧ (∀ j, i = some j → j < σZ.length → σZ[j]? = some (some (.ref a))) ∧ d = XD M c0 dx ∧
  ∃ r, e.ev f [] = some r ∧ ∀ y H', WI K s ((.ov (.imm r), y) :: (XH M c0 f x dx ++ T)) σ H' → Q y H'
def tHts (M : SM) (c0 : Nat) (K : PySem.W.Frag) (i : Option Nat) (a : Addr) (d : Option Addr) (es : List HE) : TA := fun σZ H Q => ∃ σ s T f x dx, WI K s (XH M c0 f x dx ++ T) σ H ∧ (∀ j, i = some j → j < σZ.length → σZ[j]? = some (some (.ref a))) ∧ d = XD M c0 dx ∧
  ∃ rs, HE.evs es f [] = some rs ∧ ∀ ys H', ys.length = es.length → rs.length = es.length → WI K s (zipH (rs.map .imm) ys ++ (XH M c0 f x dx ++ T)) σ H' → Q ys H'
section
variable {M : SM} {X : Cx} {c : CC} {nm F F' : Str} {c0 : Nat} {a : Addr} {oe : Obj} {cls : Value} {d : Option Addr} {pn : List (Addr × Obj)} {i : Option Nat}
theorem suite_nm (hN : X.N = c.N) (hsc : X.env.scope = c.sc) {j : Nat} {x : Str} {pos : Pos} (h : nameB c j x = true) : PE (X.suite a ((a, oe) :: pn)) (.Name x pos) (tVar j) := by
  simp only [nameB, Bool.and_eq_true, decide_eq_true_eq, Bool.not_eq_true'] at h
  exact pe_var (X := X.suite a ((a, oe) :: pn)) (show X.N[j]? = some x by rw [hN]; exact h.1.1.1) (show Vis X.env.scope x by rw [hsc]; exact vis_of h.1.1.2) h.1.2 h.2
theorem scal_of {X : Cx} {v : D} {k : Const} {n : Nat} {p : Pos} (h : scB v k = true) : ∃ x, (∀ K H, Dq K H x v) ∧ PE X (.Constant k n p) (tC x) := by
  cases v <;> cases k <;> simp only [scB, beq_iff_eq, decide_eq_true_eq] at h <;> try contradiction
  · exact ⟨.non, fun _ _ => .non, pe_non⟩
  · subst h; exact ⟨.bl _, fun _ _ => .bl _, pe_bl⟩
  · subst h; exact ⟨.int _, fun _ _ => .int _, pe_int⟩
  · subst h; exact ⟨.str _, fun _ _ => .str _, pe_str⟩
mutual
theorem ht_ok (hN : X.N = c.N) (hsc : X.env.scope = c.sc) (er : Ers M X) (hc0 : M.C.cls[c0]? = some (nm, F)) (hF : Rs F) (hFl : F = F' ∨ F' = "-") (hcls : cls = .ref (M.ca c0)) (hz : Zc cls d oe) (hf : ∃ vs, oe.data = .fields vs) :
    ∀ (e : HE) (ast : Expr), chkHT F' e c i ast = true → PE (X.suite a ((a, oe) :: pn)) ast (tHt M c0 X.K i a d e)
  | .lit v, ast, h0 => by
    obtain ⟨k, hx, h⟩ := seen_of (show seen (vConst ast) _ = true from h0)
    obtain ⟨n, p, rfl⟩ := vConst_of hx
    obtain ⟨x, hd, hp⟩ := scal_of (X := X.suite a ((a, oe) :: pn)) (n := n) (p := p) h
    refine ⟨fun pins s σ H Q I hw => hp.run pins s σ H Q I ?_⟩
    obtain ⟨σ0, s', T', f, y, dx, w, ha, hdd, r, hr, q⟩ := hw
    simp only [HE.ev] at hr
    cases hr
    exact q x H (w.scal (hd _))
  | .fld, ast, h0 => by
    obtain ⟨⟨n, f⟩, hx, h⟩ := seen_of (show seen (vFld ast) _ = true from h0)
    obtain ⟨p, p2, rfl⟩ := vFld_of hx
    simp only [Bool.and_eq_true, decide_eq_true_eq, Bool.not_eq_true', decide_eq_false_iff_not] at h
    obtain ⟨rfl, hnF, hi0⟩ := h
    obtain ⟨j, rfl, h⟩ := seen_of hi0
    clear hi0
    have hFF : F = f := hFl.resolve_right hnF
    subst hFF
    have base := pe_xf (X := X) (pn := pn) (pos := p2) (n := F) (er.xf hc0 hF) (er.mkr c0 nm F hc0 hF hnF).noN hz hf (suite_nm (a := a) (oe := oe) (pn := pn) (pos := p) hN hsc h) rfl
    refine ⟨fun pins s σ H Q I hw => base.run pins s σ H Q I ?_⟩
    obtain ⟨σ0, s', T', f, y, dx, w, ha, hd, r, hr, q⟩ := hw
    simp only [HE.ev] at hr
    cases hr
    have hj : X.N[j]? = some n := by
      simp only [nameB, Bool.and_eq_true, decide_eq_true_eq] at h
      rw [hN]
      exact h.1.1.1
    have hlt : j < σ.length := by
      have := (List.getElem?_eq_some_iff.mp hj).1
      have e : σ.length = X.N.length := I.len
      omega
    obtain ⟨y1, y2⟩ := XH_f (M := M) (d := f) (x := y) (dx := dx) hc0 hnF
    rw [y1] at w q
    rw [y2] at hd
    have w : WI X.K s' ((.ov (.imm f), y) :: (.raw (.xd [(F, y)]), .ref dx) :: T') σ0 H := w
    exact ⟨_, ha j rfl hlt, rfl, hcls, dx, _, y, hd, w.swap.rawAt, by simp [List.lookup], q y H w.dup⟩
  | .var j, ast, h0 => by cases (show false = true from h0)
  | .tup es, ast, h0 => by
    obtain ⟨as, hx, h⟩ := seen_of (show seen (vTup ast) _ = true from h0)
    obtain ⟨k, p, rfl⟩ := vTup_of hx
    simp only [Bool.and_eq_true, decide_eq_true_eq] at h
    refine ⟨fun pins s σ H Q I hw => (pe_tupO (hts_ok hN hsc er hc0 hF hFl hcls hz hf es as h.2)).run pins s σ H Q I ?_⟩
    obtain ⟨σ0, s', T', f, y, dx, w, ha, hd, r, hr, q⟩ := hw
    simp only [HE.ev] at hr
    cases e : HE.evs es f [] with
    | none => rw [e] at hr; cases hr
    | some rs =>
      rw [e] at hr
      cases hr
      refine ⟨σ0, s', T', f, y, dx, w, ha, hd, rs, e, fun ys H1 l1 l2 w1 => ⟨by have := k1000; omega, fun p o ho hp => q _ _ (w1.newTup ho hp (by omega))⟩⟩
theorem hts_ok (hN : X.N = c.N) (hsc : X.env.scope = c.sc) (er : Ers M X) (hc0 : M.C.cls[c0]? = some (nm, F)) (hF : Rs F) (hFl : F = F' ∨ F' = "-") (hcls : cls = .ref (M.ca c0)) (hz : Zc cls d oe) (hf : ∃ vs, oe.data = .fields vs) :
    ∀ (es : List HE) (as : List Expr), chkHTs F' es c i as = true → PA (X.suite a ((a, oe) :: pn)) as (tHts M c0 X.K i a d es)
  | [], as, h => by
    have : as = [] := List.isEmpty_iff.mp (show as.isEmpty = true from h)
    subst this
    refine ⟨fun pos pins s σ H Q I hw => pa_nil.run pos pins s σ H Q I ?_⟩
    obtain ⟨σ0, s', T', f, y, dx, w, ha, hd, rs, hr, q⟩ := hw
    simp only [HE.evs] at hr
    cases hr
    exact q [] H rfl rfl w
  | e :: es, as, h => by
    cases as with
    | nil => cases (show false = true from h)
    | cons x as =>
      have h : (chkHT F' e c i x && !isStar x && chkHTs F' es c i as) = true := h
      simp only [Bool.and_eq_true, Bool.not_eq_true'] at h
      refine ⟨fun pos pins s σ H Q I hw => (pa_cons (ht_ok hN hsc er hc0 hF hFl hcls hz hf e x h.1.1) (hts_ok hN hsc er hc0 hF hFl hcls hz hf es as h.2) (starEach_no h.1.2)).run pos pins s σ H Q I ?_⟩
      obtain ⟨σ0, s', T', f, y, dx, w, ha, hd, rs, hr, q⟩ := hw
      simp only [HE.evs] at hr
      cases e1 : e.ev f [] with
      | none => rw [e1] at hr; cases hr
      | some r =>
        rw [e1] at hr
        have hr : (HE.evs es f []).map (r :: ·) = some rs := hr
        cases e2 : HE.evs es f [] with
        | none => rw [e2] at hr; cases hr
        | some rs' =>
          rw [e2] at hr
          cases hr
          refine ⟨σ0, s', T', f, y, dx, w, ha, hd, r, e1, fun z H1 w1 => ?_⟩
          have w2 : WI X.K s' (XH M c0 f y dx ++ ((.ov (.imm r), z) :: T')) σ0 H1 := w1.perm List.perm_middle.symm
          refine ⟨σ0, s', _, f, y, dx, w2, ha, hd, rs', e2, fun zs H2 l1 l2 w3 => q (z :: zs) H2 (by rw [List.length_cons, List.length_cons, l1]) (by rw [List.length_cons, List.length_cons, l2]) ?_⟩
          show WI X.K s' ((.ov (.imm r), z) :: (zipH (rs'.map .imm) zs ++ (XH M c0 f y dx ++ T'))) σ0 H2
          refine w3.perm ?_
          exact (List.perm_middle.append_left _).trans List.perm_middle
end
end
/-- .. where nothing was caught -/
def tHc (K : PySem.W.Frag) (e : HE) : TE := fun _ H Q => ∃ σ s T, WI K s T σ H ∧ ∃ r, e.ev .none [] = some r ∧ ∀ y H', WI K s ((.ov (.imm r), y) :: T) σ H' → Q y H'
def tHcs (K : PySem.W.Frag) (es : List HE) : TA := fun _ H Q => ∃ σ s T, WI K s T σ H ∧ ∃ rs, HE.evs es .none [] = some rs ∧ ∀ ys H', ys.length = es.length → rs.length = es.length → WI K s (zipH (rs.map .imm) ys ++ T) σ H' → Q ys H'
section
variable {X : Cx}
mutual
theorem hc_ok : ∀ (e : HE) (ast : Expr), chkHC e ast = true → PE X ast (tHc X.K e)
  | .lit v, ast, h0 => by
    obtain ⟨k, hx, h⟩ := seen_of (show seen (vConst ast) _ = true from h0)
    obtain ⟨n, p, rfl⟩ := vConst_of hx
    obtain ⟨x, hd, hp⟩ := scal_of (X := X) (n := n) (p := p) h
    refine ⟨fun pins s σ H Q I hw => hp.run pins s σ H Q I ?_⟩
    obtain ⟨σ0, s', T', w, r, hr, q⟩ := hw
    simp only [HE.ev] at hr
    cases hr
    exact q x H (w.scal (hd _))
  | .fld, ast, h0 => by cases (show false = true from h0)
  | .var j, ast, h0 => by cases (show false = true from h0)
  | .tup es, ast, h0 => by
    obtain ⟨as, hx, h⟩ := seen_of (show seen (vTup ast) _ = true from h0)
    obtain ⟨k, p, rfl⟩ := vTup_of hx
    simp only [Bool.and_eq_true, decide_eq_true_eq] at h
    refine ⟨fun pins s σ H Q I hw => (pe_tupO (hcs_ok es as h.2)).run pins s σ H Q I ?_⟩
    obtain ⟨σ0, s', T', w, r, hr, q⟩ := hw
    simp only [HE.ev] at hr
    cases e : HE.evs es .none [] with
    | none => rw [e] at hr; cases hr
    | some rs =>
      rw [e] at hr
      cases hr
      refine ⟨σ0, s', T', w, rs, e, fun ys H1 l1 l2 w1 => ⟨by have := k1000; omega, fun p o ho hp => q _ _ (w1.newTup ho hp (by omega))⟩⟩
theorem hcs_ok : ∀ (es : List HE) (as : List Expr), chkHCs es as = true → PA X as (tHcs X.K es)
  | [], as, h => by
    have : as = [] := List.isEmpty_iff.mp (show as.isEmpty = true from h)
    subst this
    refine ⟨fun pos pins s σ H Q I hw => pa_nil.run pos pins s σ H Q I ?_⟩
    obtain ⟨σ0, s', T', w, rs, hr, q⟩ := hw
    simp only [HE.evs] at hr
    cases hr
    exact q [] H rfl rfl w
  | e :: es, as, h => by
    cases as with
    | nil => cases (show false = true from h)
    | cons x as =>
      have h : (chkHC e x && !isStar x && chkHCs es as) = true := h
      simp only [Bool.and_eq_true, Bool.not_eq_true'] at h
      refine ⟨fun pos pins s σ H Q I hw => (pa_cons (hc_ok e x h.1.1) (hcs_ok es as h.2) (starEach_no h.1.2)).run pos pins s σ H Q I ?_⟩
      obtain ⟨σ0, s', T', w, rs, hr, q⟩ := hw
      simp only [HE.evs] at hr
      cases e1 : e.ev .none [] with
      | none => rw [e1] at hr; cases hr
      | some r =>
        rw [e1] at hr
        have hr : (HE.evs es .none []).map (r :: ·) = some rs := hr
        cases e2 : HE.evs es .none [] with
        | none => rw [e2] at hr; cases hr
        | some rs' =>
          rw [e2] at hr
          cases hr
          refine ⟨σ0, s', T', w, r, e1, fun z H1 w1 => ?_⟩
          refine ⟨σ0, s', _, w1, rs', e2, fun zs H2 l1 l2 w3 => q (z :: zs) H2 (by rw [List.length_cons, List.length_cons, l1]) (by rw [List.length_cons, List.length_cons, l2]) ?_⟩
          show WI X.K s' ((.ov (.imm r), z) :: (zipH (rs'.map .imm) zs ++ T')) σ0 H2
          exact w3.perm List.perm_middle
end
end
/-! ### its clauses -/
def clT (M : SM) (K : PySem.W.Frag) (h : Cl) : ClR where
  c := .ref (M.ca h.k)
  i := h.i
  ts := fun a cls d D σ H => ∃ c0 nm0 F e, M.C.cls[c0]? = some (nm0, F) ∧ Rs F ∧ (F = M.C.hf h ∨ M.C.hf h = "-") ∧ cls = .ref (M.ca c0) ∧ h.a = .ret e ∧ tRet (tHt M c0 K h.i a d e) D σ H
structure ClT (C : Cfg) (h : Cl) : Prop where
  cls : ∃ nm fl, C.cls[h.k]? = some (nm, fl)
  cs : h.cs = C.sub.getD h.k []
  ret : ∃ e, h.a = .ret e
section
variable {M : SM} {X : Cx} {c : CC}
theorem clT_of {C : Cfg} : ∀ {hs : List Cl} {xs : List ExceptHandler}, chkTcs C hs c xs = true → ∀ h ∈ hs, ClT C h
  | [], _, _, h, hm => by cases hm
  | h :: r, xs, hh, h', hm => by
    cases xs with
    | nil => cases (show false = true from hh)
    | cons x xs =>
      have hh : (chkTc C h c x && chkTcs C r c xs) = true := hh
      simp only [Bool.and_eq_true] at hh
      obtain ⟨h1, h2⟩ := hh
      rcases List.mem_cons.mp hm with rfl | hm
      · unfold chkTc at h1
        split at h1
        · simp only [Bool.and_eq_true, decide_eq_true_eq] at h1
          obtain ⟨⟨⟨⟨g1, g2⟩, g3⟩, g4⟩, g5⟩ := h1
          obtain ⟨⟨n', fl⟩, e1, e2⟩ := seen_of g2
          refine ⟨⟨n', fl, e1⟩, g4, ?_⟩
          cases ha : h'.a with
          | ret e => exact ⟨e, rfl⟩
          | _ => rw [ha] at g5; cases g5
        · cases h1
      · exact clT_of h2 h' hm
theorem clsT_ok (hN : X.N = c.N) (hnd : c.N.Nodup) (hsc : X.env.scope = c.sc) (hfn : X.fn = c.fn) (er : Ers M X) : ∀ {hs : List Cl} {xs : List ExceptHandler}, chkTcs M.C hs c xs = true → ClOk X xs (hs.map (clT M X.K))
  | [], xs, h => by
    have : xs = [] := List.isEmpty_iff.mp (show xs.isEmpty = true from h)
    subst this
    exact .nil
  | h :: r, xs, hh => by
    cases xs with
    | nil => cases (show false = true from hh)
    | cons x xs =>
      have hh : (chkTc M.C h c x && chkTcs M.C r c xs) = true := hh
      simp only [Bool.and_eq_true] at hh
      obtain ⟨h1, h2⟩ := hh
      have ih := clsT_ok hN hnd hsc hfn er h2
      unfold chkTc at h1
      split at h1
      · rename_i x np nm st pos'
        simp only [Bool.and_eq_true, decide_eq_true_eq] at h1
        obtain ⟨⟨⟨⟨g1, g2⟩, g3⟩, g4⟩, g5⟩ := h1
        obtain ⟨⟨n', fl⟩, e1, e2⟩ := seen_of g2
        have e2 : n' = x := by simpa using e2
        subst e2
        have hg : Gl X n' ∧ (n' == ("__debug__" : Str)) = false := by
          simp only [glB, Bool.and_eq_true, decide_eq_true_eq, Bool.not_eq_true'] at g1
          refine ⟨?_, g1.1.2⟩
          show X.env.scope.names.lookup n' = _
          rw [hsc]
          exact g1.1.1
        refine .one (h := clT M X.K h) ⟨hg.1, hg.2, .inl (er.gl _ _ _ e1)⟩ (fun n hn => ?_) (fun hn => ?_) ?_ ih
        · subst hn
          obtain ⟨i, hi, g3⟩ := seen_of g3
          simp only [Bool.and_eq_true, decide_eq_true_eq] at g3
          have f2 : c.N[i]? = some n := by
            have z := g3.1
            simp only [stB, Bool.and_eq_true, decide_eq_true_eq] at z
            exact z.1.1
          exact ⟨i, hi, by rw [hN]; exact f2, by show X.env.scope.names.lookup n = _; rw [hsc]; exact g3.2⟩
        · subst hn
          exact Option.isNone_iff_eq_none.mp g3
        · intro a oe cls d pn hz hf
          refine ⟨fun pins s σ H D I hw => ?_⟩
          obtain ⟨c0, nm0, F, e, hc0, hF, hFl, hcls, hae, hw⟩ := hw
          rw [hae] at g5
          obtain ⟨ast, k1, k2⟩ := seen_of (show seen (vRet st) _ = true from g5)
          obtain ⟨p, rfl⟩ := vRet_of k1
          exact (pss_one (ps_ret (ht_ok hN hsc er hc0 hF hFl hcls hz hf e ast k2))).run pins s σ H D I hw
      · cases h1
theorem hfT_of {C : Cfg} {h : Cl} {c0 : Nat} {nm0 F : Str} (hc0 : C.cls[c0]? = some (nm0, F)) (hb : h.cs.contains c0 = true) : F = C.hf h ∨ C.hf h = "-" := by
  unfold Cfg.hf
  split
  · rename_i ha
    left
    have hm : c0 ∈ h.cs := by simpa using hb
    have := of_decide_eq_true (List.all_eq_true.mp ha c0 hm)
    rw [← this]
    unfold Cfg.fl
    rw [List.getD_eq_getElem?_getD, hc0]
    rfl
  · exact .inr rfl
/-- what is raised within, and caught or not -/
theorem cl_told (er : Ers M X) {W : WX} {T : List (Hd × V)} {σ : L2.St} {DZ : Ends} {WZ : WX} {P : OV → Sl → Prop} {c0 : Nat} {nm0 F0 : Str} (hc0 : M.C.cls[c0]? = some (nm0, F0)) (hF0 : Rs F0) {d : D} {s1 : Sl} {x : V} {dx : Addr} {H' : Hp} {σZ : L2.St}
    (hW : ∀ cls d σ' H', W cls d σ H' → WZ cls d σ' H') (hP : ∀ r s2, P (.imm r) s2 → ∀ y H2, WI X.K s2 ((.ov (.imm r), y) :: T) σ H2 → DZ.rt y H2)
    (w : WI X.K s1 (XH M c0 d x dx ++ T) σ H') : ∀ {hs : List Cl}, (∀ h ∈ hs, ClT M.C h) → Res M X.K W T σ P (told hs c0 d s1) → wCl X.K WZ DZ (hs.map (clT M X.K)) (.ref (M.ca c0)) (XD M c0 dx) σZ H'
  | [], _, h => by
    have h : XW M X.K W s1 T σ c0 d := h
    exact hW _ _ _ _ (h x dx H' w)
  | h :: r, F, hr => by
    obtain ⟨⟨nm, fl, e1⟩, e2, ⟨e, e3⟩⟩ := F h (by simp)
    refine ⟨h.cs.contains c0, by rw [e2]; exact er.exm _ _ _ _ _ _ hc0 hF0 e1, fun hb a ha => ?_, fun hb => ?_⟩
    · refine ⟨c0, nm0, F0, e, hc0, hF0, hfT_of hc0 hb, rfl, e3, ?_⟩
      have hr : Res M X.K W T σ P (if h.cs.contains c0 then (match h.a with
        | .ret e => R.ofO ((e.ev d []).map .imm) s1
        | _ => .bad) else told r c0 d s1) := hr
      rw [hb, if_pos rfl, e3] at hr
      obtain ⟨v, hv, hr⟩ := Res.ofO.mp hr
      obtain ⟨rr, hev, rfl⟩ := Option.map_eq_some_iff.mp hv
      refine ⟨σ, s1, T, d, x, dx, w, ?_, rfl, rr, hev, fun y H2 w2 => ?_⟩
      · intro j hj hlt
        unfold goneS at hlt ⊢
        have hj : h.i = some j := hj
        have hi : (clT M X.K h).i = some j := hj
        rw [hi] at hlt ⊢
        simp only [List.length_set] at hlt
        show (σZ.set j (some (.ref a)))[j]? = _
        rw [List.getElem?_set]
        simp [hlt]
      · have w3 : WI X.K s1 (XH M c0 d x dx ++ ((.ov (.imm rr), y) :: T)) σ H2 := w2.perm List.perm_middle.symm
        have q := hP rr s1 hr y H2 w3.drops
        show (goneE (clT M X.K h).i DZ).rt y H2
        unfold goneE
        cases (clT M X.K h).i <;> exact q
    · refine cl_told er hc0 hF0 hW hP w (fun h hm => F h (by simp [hm])) ?_
      have hr : Res M X.K W T σ P (if h.cs.contains c0 then (match h.a with
        | .ret e => R.ofO ((e.ev d []).map .imm) s1
        | _ => .bad) else told r c0 d s1) := hr
      rw [hb, if_neg (by simp)] at hr
      exact hr
end
end PV
end
section
set_option Elab.async false
set_option linter.all false
set_option maxRecDepth 100000
set_option maxHeartbeats 4000000
/-! PvT2: .. called. -/
namespace PV
open PySem PySem.Spec PyProof.Rows L2 LamX
/-- the table of the def around -/
structure TabF (X : Cx) : Prop where
  ex : ∃ c P, X.env.code = .ref c ∧ TabB X.base X.mg c P ∧ (P, X.env.qual ++ "<lambda>") ∈ tbOf X.K
  un : ∀ p ∈ tbOf X.K, ∀ q ∈ tbOf X.K, p.1 = q.1 → p.2 = q.2
/-- a def that tells, as it stands -/
structure TdOk (K : PySem.W.Frag) (mg : Str → Option Value) (td : TdI) : Prop where
  ex : ∃ (ga : Addr) (oc : Value) (od : Option Addr) (dV kV doc pm : Value) (an : Option Addr) (cdv ct : Value) (osl : Array (Option Value)), mg td.name = some (.ref ga) ∧ PySem.W.keepIn K (.ref ga) = true ∧
    K.lookup ga = some ⟨oc, od, .func (PySem.W.fnOf td.name td.name td.params td.body td.scope dV kV doc pm an cdv ct), osl⟩ ∧ PySem.W.codeIn K cdv td.name = true ∧ KB K (PySem.W.fnOf td.name td.name td.params td.body td.scope dV kV doc pm an cdv ct) [td.a] 1 [] [0]
  sc : FnScope td.N [td.a] td.scope
section
variable {X : Cx} {pins : List (Addr × Obj)} {σ : L2.St} {H : Hp} {s : Shared}
/-- the lambda called within the def that got it, guards and all -/
theorem act_g {CXg : CXT} {Eg : XK} {Ng : List Str} {qg : Str} {sg : Scope} {g f c' : Addr} {cdg pm ctv : Value} {params : Arguments} {body : Expr} {scope : Scope} {k i : Nat} {a : Str} {pn : List (Addr × Obj)} {xe : Value → Shared → Prop} {W : WX} {E : XK} {tb : TE} {p1 p2 : Pos}
    (I : Inv X pins σ H s) (L : LamS X.env.scope scope) (hf : s.heap.get? f = some (PySem.W.kla_obj "<lambda>" (X.env.qual ++ "<lambda>") params body scope (cloFrom X.env.cells scope.names []) pm c' ctv)) (hfn : H f = none) (hfr : f ∉ frs X.stack)
    (hbind : bindArgs (PySem.W.kla_fn "<lambda>" (X.env.qual ++ "<lambda>") params body scope (cloFrom X.env.cells scope.names []) pm (.ref c') ctv) ⟨[], []⟩ = pure [])
    (tk : Takes ((cxOf CXg X.prog X.w X.K X.mg X.base Ng qg sg g cdg X.A X.stack s H Eg).tr pn xe) W) (hW : ∀ cls d σ' H', E cls d H' → W cls d σ' H') (hr : Room (k + 1) (X.A.deeper (envOfC qg sg s.heap.objs.size g cdg)))
    (hbody : ∀ (sZ : Shared) (HZ : Hp), Room k ((X.A.deeper (envOfC qg sg s.heap.objs.size g cdg)).deeper (lamEnv X scope sZ.heap.objs.size f c')) → PE (lamCx X (X.A.deeper (envOfC qg sg s.heap.objs.size g cdg)) (envOfC qg sg s.heap.objs.size g cdg :: X.stack) sZ HZ E scope f c') body tb)
    (hN : Ng[i]? = some a) (hv : Vis sg a) (hd : (a == ("__debug__" : Str)) = false) (hcd : (a == ("__classdict__" : Str)) = false) :
    PE ((cxOf CXg X.prog X.w X.K X.mg X.base Ng qg sg g cdg X.A X.stack s H Eg).tr pn xe) (.Call (.Name a p1) [] [] p2)
      (fun σZ HZ Q => σZ[i]? = some (some (.ref f)) ∧ HZ c' = some (CodeO c' (X.env.qual ++ "<lambda>")) ∧ tb σ HZ Q) := by
  refine ⟨fun pz sZ σZ HZ Q IZ ⟨slot, code, want⟩ => ?_⟩
  have nm := (pe_var (X := (cxOf CXg X.prog X.w X.K X.mg X.base Ng qg sg g cdg X.A X.stack s H Eg).tr pn xe) (pos := p1) (i := i) hN hv hd hcd).run pz sZ σZ HZ (fun v H1 => v = .ref f ∧ H1 = HZ) IZ ⟨.ref f, slot, rfl, rfl⟩
  refine wpAny_Call_Name_kw (thn nm fun u s1 got => ?_)
  obtain ⟨v, H1, I1, r1, rfl, rfl⟩ := got
  obtain rfl : u = Value.ref f := r1
  have there := I1.base.keep f _ hf hfn hfr (fun z => nomatch (show f ∈ ([] : List Addr) from z))
  refine PySem.W.callWith_F0 ⟨_, _, _, _, there⟩ ?_
  have since : Un (frs X.stack) [] H H1 s.heap s1.heap := I1.base
  obtain ⟨⟨oc, vs, t, hoc, hdc, hvc⟩, _, _⟩ := I1.hok c' _ code
  have rc : codeAny (model X.prog X.w) (X.A.deeper (envOfC qg sg s.heap.objs.size g cdg)) (.call (.ref f) ⟨[], []⟩) (CR (L2.CX X.prog X.w) (envOfC qg sg s.heap.objs.size g cdg :: X.stack) X.prog X.w H1 s1 Q E) s1 := by
    refine PySem.W.kla_callFunE hr.depth there rfl L.co L.gen rfl ⟨c', oc, vs, t, rfl, hoc, hdc, hvc⟩ ?_
    rw [hbind]
    refine wpAny_pure (wpAny_newFunctionEnv (fun y hy => (L.own y hy).2) (fun y hy => absurd hy (by simp)) (fun h₁ hns hsb => ⟨I1.nolimit.fresh _ hsb, ?_⟩) L.kind)
    show codeAny _ _ (.expr body (lamEnv X scope s1.heap.objs.size f c')) _ _
    have old : ∀ b o, s1.heap.get? b = some o → h₁.get? b = some o := fun b o e => hsb.extBut b o (Nat.ne_of_lt (Heap.lt_size e)) (Heap.get?_push_of_some _ e)
    have J := lam_start2 (E := E) (f := f) (c' := c') (tk := s1.toks + ([] : List (Str × Value)).length) I L I1.env0 hr.hd since hns old
    refine PySem.W.kla_codeExpr (wpAny_mono ((hbody s1 H1 (hr.deeper _)).run [] _ _ H1 Q J want) (fun u s' got => ?_) fun _ _ x => x)
    obtain ⟨w', H', J', rv, q⟩ := got
    exact ⟨w', H', J'.os, J'.bare, J'.base, J'.hok, rv, q⟩
  have out : Passes (L2.CX X.prog X.w) ((cxOf CXg X.prog X.w X.K X.mg X.base Ng qg sg g cdg X.A X.stack s H Eg).tr pn xe) E := passes_call tk hW
  refine wpAny_call (codeAny_mono rc fun r s' got => ?_)
  cases r with
  | error e => exact out pz σZ H1 s1 e s' I1 got
  | ok fl => cases fl <;> first | exact I1.after got | exact False.elim got
end
theorem defs_none {env : Env} : defaultsOf { posonlyargs := [], args := [], vararg := none, kwonlyargs := [], kw_defaults := [], kwarg := none, defaults := [] } env = ([], []) := rfl
theorem binds_none (q : Str) (body : Expr) (scope : Scope) (cl : List (Str × Addr)) (pm cv ctv : Value) : bindArgs (PySem.W.kla_fn "<lambda>" q { posonlyargs := [], args := [], vararg := none, kwonlyargs := [], kw_defaults := [], kwarg := none, defaults := [] } body scope cl pm cv ctv) ⟨[], []⟩ = pure [] := rfl
section
variable {M : SM} {X : Cx} {W : WX} {c : CC} {pos : Pos}
theorem s_told (gd : Gd M X c) (tk : Takes X W) {k : Nat} (hr : Room (k + 3) X.A) (er : Ers M X) (tf : TabF X) {g : Nat} {td : TdI} {e : E} {fin : HE} {hs : List Cl} {all : List Nat} {params : Arguments} {body : Expr} {scope : Scope} {p p2 : Pos}
    (hgl : glB c td.name = true) (ht : TdOk X.K X.mg td) (hck : chkTd M.C td fin hs all = true) (hps : noPs params = true) (hL : lamSB c.sc scope = true) (hpk : e.isPk = false)
    (hbody : ∀ (A : Around) (outer : List Env) (s : Shared) (H : Hp) (E : XK) (f c' : Addr), Room k (A.deeper (lamEnv X scope s.heap.objs.size f c')) → A.guards = some [] → PE (lamCx X A outer s H E scope f c') body (tE M X.K (fun cls d _ H' => E cls d H') e)) :
    PE X (.Call (.Name td.name p) [.Lambda params body scope p2] [] pos) (tE M X.K W (.told g e fin hs all)) := by
  obtain ⟨ga, oc, od, dV, kV, doc, pm, an, cdv, ct, osl, hm, hk, lk, hcg, hkb⟩ := ht.ex
  obtain ⟨h1, h2, h3⟩ := gl_of gd hgl
  obtain ⟨⟨y, h0, hds, rr⟩, hb1, hb2⟩ := seen_of hck
  obtain ⟨b1, b2, b3, b4, b5, hb⟩ := vTell_of hb1
  simp only [Bool.and_eq_true, decide_eq_true_eq, List.all_eq_true] at hb2
  obtain ⟨⟨⟨⟨rfl, hnm⟩, hfin⟩, hcs⟩, hall⟩ := hb2
  have hp0 := noPs_of hps
  have hdef : defaultsOf params X.env = ([], []) := by rw [hp0]; exact defs_none
  have hbnd : ∀ (q : Str) (cl : List (Str × Addr)) (pm cv ctv : Value), bindArgs (PySem.W.kla_fn "<lambda>" q params body scope cl pm cv ctv) ⟨[], []⟩ = pure [] := by rw [hp0]; exact fun q cl pm cv ctv => binds_none q body scope cl pm cv ctv
  have L : LamS X.env.scope scope := by rw [gd.sc]; exact lamS_by hL
  obtain ⟨cc, P, hcode, TB, hmT⟩ := tf.ex
  have hu : ∀ p ∈ tbOf X.K, p.1 = P → p.2 = X.env.qual ++ "<lambda>" := fun p hp e => tf.un p hp _ hmT e
  simp only [nameB, Bool.and_eq_true, decide_eq_true_eq, Bool.not_eq_true'] at hnm
  obtain ⟨⟨⟨n0, nv⟩, n1⟩, n2⟩ := hnm
  refine ⟨fun pins s σ H Q I hw => ?_⟩
  obtain ⟨s', T, w, np, hres⟩ := hw
  have np : noPk T := np.resolve_right (by simp [E.quiet])
  simp only [evE] at hres
  have hres : Res M X.K W T σ (fun v s' => ∀ x H', WI X.K s' ((.ov v, x) :: T) σ H' → Q x H') (match evE M.ft e s' with
    | .ok _ s1 => R.ofO ((fin.ev .none []).map .imm) s1
    | .exc c d s1 => if all.contains c then told hs c d s1 else .bad
    | .bad => .bad) := hres
  refine wpAny_Call_Name_kw (ld_glob I h1 hm ?_ h2)
  refine PySem.W.callWith_K (h₀ := X.base) I.ok.mod.kin hk ?_ (by rfl) (by rfl)
  show wpAny _ _ (spliced ((false, eval (.Lambda params body scope p2) X.env) :: backTo pos (starEach [] X.env))) _ _ s
  refine Calls.spliced_cons (lam_make2 I TB hcode hmT hu (w.tabs np) hdef (L.has I.ok) fun f c' pm' ctv H1 s1 I1 eN T1 hf hfn hfr hco => ?_)
  refine Calls.spliced_nil ⟨I1.kIn, ?_⟩
  have w1 := w.made np eN T1
  let E : XK := fun cls d H' => W cls d σ H'
  let Z : Cx := cxOf (L2.CX X.prog X.w) X.prog X.w X.K X.mg X.base td.N td.name td.scope ga cdv X.A X.stack s1 H1 E
  have erZ : Ers M Z := ⟨er.gl, er.mkr, er.mkn, er.exm⟩
  have rc : codeAny (model X.prog X.w) X.A (.call (.ref ga) ⟨[.ref f], []⟩) (CR (L2.CX X.prog X.w) X.stack X.prog X.w H1 s1 Q E) s1 := by
    refine run_ofS (N := td.N) (ps := [td.a]) (us := [.ref f]) (vs := [.ref f]) (k := k + 2) lk hcg ht.sc hr I1.env0 (hkb s1 [.ref f] [] I1.kIn rfl rfl) (.cons rfl .nil) rfl fun hr' => ?_
    rw [hb]
    let tact : WX → TE := fun W' σZ HZ Q => σZ[0]? = some (some (.ref f)) ∧ HZ c' = some (CodeO c' (X.env.qual ++ "<lambda>")) ∧ tE M X.K (fun cls d _ H' => ∀ σ', W' cls d σ' H') e σ HZ Q
    have tkZ : Takes Z (fun cls d _ H' => E cls d H') := takes_of rfl rfl rfl rfl
    have try_ := ps_tryX (X := Z) (pos := b4) (tb := fun W' => tDrop (tact W')) (Wout := fun cls d _ H' => E cls d H') ht.sc.nd rfl rfl tkZ
      (fun W' pn xe tk' _ => pss_one (ps_expr (pos := b3) (act_g (tb := tE M X.K (fun cls d _ H' => ∀ σ', W' cls d σ' H') e) (E := fun cls d H' => ∀ σ', W' cls d σ' H') (k := k) (p1 := b1) (p2 := b2) I1 L hf hfn hfr (hbnd _ _ _ _ _) tk' (fun cls d σ' H' h => h σ') (hr'.mono (by omega))
        (fun sZ HZ hrr => hbody _ _ sZ HZ _ f c' hrr gd.grd) n0 (vis_of nv) n1 n2)))
      (clsT_ok (c := td.cc) (X := Z) rfl ht.sc.nd rfl rfl erZ hcs)
    refine ⟨_, pss_cons try_ (pss_one (ps_ret (pos := b5) (hc_ok (X := Z) fin rr hfin))), ?_⟩
    show tDrop (tact _) _ _ _
    have st0 : (L2.start td.N [V.ref f])[0]? = some (some (V.ref f)) := by
      unfold L2.start
      rfl
    refine ⟨st0, hco, s', T, w1, .inl np, ?_⟩
    cases q : evE M.ft e s' with
    | bad => rw [q] at hres; exact hres.elim
    | ok v s2 =>
      rw [q] at hres
      obtain ⟨v2, hv2, k2⟩ := Res.ofO.mp hres
      obtain ⟨r2, hr2, rfl⟩ := Option.map_eq_some_iff.mp hv2
      intro x H' w2
      exact ⟨σ, s2, T, w2.drop, r2, hr2, fun z H'' w3 => k2 z H'' w3⟩
    | exc c0 d s2 =>
      rw [q] at hres
      have hres : Res M X.K W T σ (fun v s' => ∀ x H', WI X.K s' ((.ov v, x) :: T) σ H' → Q x H') (if all.contains c0 then told hs c0 d s2 else .bad) := hres
      split at hres
      · rename_i hc
        have hm0 : c0 ∈ all := by simpa using hc
        obtain ⟨⟨nm0, F0⟩, e1, e2⟩ := seen_of (hall c0 hm0)
        intro x dx H' w2 σ'
        exact cl_told er e1 (rsB_ok e2) (fun _ _ _ _ z => z) (fun r s3 hP z H3 w3 => hP z H3 w3) w2 (clT_of hcs) hres
      · exact hres.elim
  refine wpAny_call (codeAny_mono rc fun r s2 got => ?_)
  cases r with
  | error e => exact tk e s2 (XE.of_call I1 (fun _ _ _ h => h) got)
  | ok fl => cases fl <;> first | exact I1.after got | exact False.elim got
end
end PV
end
section
set_option Elab.async false
set_option linter.all false
set_option maxRecDepth 100000
set_option maxHeartbeats 8000000
/-! PvT: what the checker passes, the text does: expressions. -/
namespace PV
open PySem PySem.Spec PyProof.Rows L2
/-- where a lambda may stand -/
structure Lm (M : SM) (X : Cx) (k : Nat) : Prop where
  rm : Room (k + 3) X.A
  er : Ers M X
  tf : TabF X
  td : ∀ (g : Nat) (td : TdI), M.C.tds[g]? = some td → TdOk X.K X.mg td
/-- what the module's names mean -/
structure BlF (C : Cfg) (K : PySem.W.Frag) (mg : Str → Option Value) : Prop where
  rg : mg "range" = none
  en : mg "enumerate" = none
  zp : mg "zip" = none
  rv : mg "reversed" = none
  st : mg "set" = none
  dc : mg "dict" = none
  gc : C.gcd = true → mg "gcd" = some (.builtin "math.gcd")
  fx : ∀ y a, PySem.W.nsIn K mainGlobals y = some (some (.ref a)) → mg y = some (.ref a)
/-- the place where a piece of the text stands -/
structure Ev (M : SM) (X : Cx) (W : WX) (c : CC) (k : Nat) : Prop where
  gd : Gd M X c
  tk : Takes X W
  rm : Room k X.A
  df : Defs M X.prog X.w X.K X.mg X.base k
  b : BlF M.C X.K X.mg
  lm : c.lm = true → Lm M X k
section
variable {M : SM} {X : Cx} {W : WX} {c : CC} {k : Nat}
theorem Ev.blk (ev : Ev M X W c k) (s : Shared) (H : Hp) (scope : Scope) (cl : List (Str × Addr)) (C : Addr) (fp : List Addr) : Ev M (X.blk s H scope (compEnvC scope cl C X.env) fp) WF (c.blk scope) k where
  gd := {
    N := ev.gd.N
    nd := ev.gd.nd
    sc := by
      show relS scope X.env.scope = relS scope c.sc
      rw [ev.gd.sc]
    fn := rfl
    calm := ev.gd.calm
    units := ev.gd.units
    grd := ev.gd.grd
    blt := ev.gd.blt
    isi := ev.gd.isi
    tys := ev.gd.tys
    ks := ev.gd.ks }
  tk := takes_F
  rm := ev.rm
  df := ev.df
  b := ev.b
  lm := fun h => have l := ev.lm h; ⟨l.rm, ⟨l.er.gl, l.er.mkr, l.er.mkn, l.er.exm⟩, ⟨l.tf.ex, l.tf.un⟩, l.td⟩
theorem Ev.lam (ev : Ev M X W c k) {scope : Scope} {A : Around} {outer : List Env} {s : Shared} {H : Hp} {E : XK} {f c' : Addr} (hr : Room k (A.deeper (LamX.lamEnv X scope s.heap.objs.size f c'))) (hg : A.guards = some []) : Ev M (LamX.lamCx X A outer s H E scope f c') (fun cls d _ H' => E cls d H') (c.lam scope) k where
  gd := {
    N := ev.gd.N
    nd := ev.gd.nd
    sc := rfl
    fn := rfl
    calm := rfl
    units := by
      have := hr.un
      show (A.deeper (LamX.lamEnv X scope s.heap.objs.size f c')).units + 80 < cLine
      omega
    grd := hg
    blt := ev.gd.blt
    isi := ev.gd.isi
    tys := ev.gd.tys
    ks := ev.gd.ks }
  tk := takes_of rfl rfl rfl rfl
  rm := hr
  df := ev.df
  b := ev.b
  lm := fun h => by cases h
/-- arguments, each by itself -/
def ArgsOk (M : SM) (X : Cx) (W : WX) : List E → List Expr → Prop
  | [], [] => True
  | e :: es, a :: as => (e.isPk = false ∧ PE X a (tArg M X.K W e) ∧ (e.isIo = false → isStar a = false)) ∧ ArgsOk M X W es as
  | _, _ => False
theorem ArgsOk.len : ∀ {es : List E} {as : List Expr}, ArgsOk M X W es as → es.length = as.length
  | [], [], _ => rfl
  | [], _ :: _, h => h.elim
  | _ :: _, [], h => h.elim
  | _ :: es, _ :: as, h => by rw [List.length_cons, List.length_cons, h.2.len]
theorem ArgsOk.take : ∀ {es : List E} {as bs : List Expr}, ArgsOk M X W es (as ++ bs) → ArgsOk M X W (es.take as.length) as ∧ ArgsOk M X W (es.drop as.length) bs
  | es, [], bs, h => by simpa [ArgsOk] using h
  | [], _ :: _, bs, h => h.elim
  | e :: es, a :: as, bs, h => by
    obtain ⟨h1, h2⟩ := h
    obtain ⟨k1, k2⟩ := ArgsOk.take h2
    exact ⟨⟨h1, k1⟩, k2⟩
theorem ArgsOk.pa : ∀ {es : List E} {as : List Expr}, ArgsOk M X W es as → as.any isStar = false → PA X as (tA M X.K W es)
  | [], [], _, _ => s_aNil
  | [], _ :: _, h, _ => h.elim
  | _ :: _, [], h, _ => h.elim
  | e :: es, a :: as, h, st => by
    have st : isStar a = false ∧ as.any isStar = false := by simpa [Bool.or_eq_false_iff] using st
    exact s_aCons h.1.1 h.1.2.1 (h.2.pa st.2) st.1
theorem ArgsOk.pk : ∀ {es : List E} {kws : List Keyword}, ArgsOk M X W es (kwVals kws) → PK X kws (tA M X.K W es)
  | [], [], _ => s_kNil
  | [], ⟨_, _, _⟩ :: _, h => h.elim
  | _ :: _, [], h => h.elim
  | _ :: es, ⟨_, _, _⟩ :: kws, h => s_kCons h.1.1 h.1.2.1 h.2.pk
theorem argVal {e : E} {a : Expr} (h : e.isIo = false) (p : PE X a (tE M X.K W e)) : PE X a (tArg M X.K W e) := by
  cases e <;> first | exact p | (simp [E.isIo] at h)
theorem io_arg (g : Gd M X c) {e : E} {a : Expr} (h : ioB e c a = true) : e.isPk = false ∧ PE X a (tArg M X.K W e) ∧ (e.isIo = false → isStar a = false) := by
  cases e with
  | io i =>
    cases a with
    | Name x p => exact ⟨rfl, nm_var g h, fun z => by simp [E.isIo] at z⟩
    | _ => simp [ioB] at h
  | _ => simp [ioB] at h
theorem own_slots {t : Tgt} : (c.own t).map (·.2) = t.slots := by
  unfold CC.own
  rw [List.map_map]
  have : ((fun x : Str × Nat => x.2) ∘ fun i => (c.N.getD i Str.empty, i)) = id := rfl
  rw [this, List.map_id]
theorem fold_no {iter : Expr} {env : Env} (h : isSet iter = false) : ∀ x, foldedSetIterable iter env x = pure x := by
  intro x
  cases iter <;> first | rfl | (simp [isSet] at h)
theorem s_src (ev : Ev M X W c k) {kk : SK} {es : List E} {t : Tgt} {tg iter : Expr} (hb : srcB kk c es.length tg iter = true) (h : PA X (srcArgs kk iter) (tDs M X.K W es)) (hst : (srcArgs kk iter).any isStar = false) (hl : (srcArgs kk iter).length = es.length)
    (hseq : kk = .seq → ∀ e, es = [e] → PE X iter (tE M X.K W e)) (hone : ∀ a, srcArgs kk iter = [a] → ∀ e, es = [e] → PE X a (tE M X.K W e)) : PI X tg iter (tPI M X.K W kk es) := by
  cases kk with
  | seq =>
    have hb : decide (es.length = 1) = true := hb
    have hb := of_decide_eq_true hb
    match es, hb, hseq with
    | [e], _, hseq => exact s_srcSeq (hseq rfl e rfl)
  | range =>
    cases iter <;> simp only [srcB, Bool.false_eq_true] at hb
    rename_i f as kws p
    cases f <;> cases kws <;> simp only [srcB, Bool.false_eq_true, Bool.and_eq_true, decide_eq_true_eq] at hb
    obtain ⟨⟨hx, hg⟩, hn⟩ := hb
    have h : PA X as (tDs M X.K W es) := h
    have hst : as.any isStar = false := hst
    have hl : as.length = es.length := hl
    rcases hn with hn | hn | hn
    · match es, as, hl, hn, h, hst with
      | [e], [a], _, _, h, hst => exact s_srcRange1 ev.gd hx hg ev.b.rg (by simpa using hst) h
    · match es, as, hl, hn, h, hst with
      | [e, e'], [a, b], _, _, h, hst =>
        have hst : isStar a = false ∧ isStar b = false := by simpa using hst
        exact s_srcRange2 ev.gd hx hg ev.b.rg hst.1 hst.2 h
    · match es, as, hl, hn, h, hst with
      | [e, e', e''], [a, b, d], _, _, h, hst =>
        have hst : isStar a = false ∧ isStar b = false ∧ isStar d = false := by simpa using hst
        exact s_srcRange3 ev.gd hx hg ev.b.rg hst.1 hst.2.1 hst.2.2 h
  | enum =>
    cases tg <;> cases iter <;> simp only [srcB, Bool.false_eq_true] at hb
    rename_i f as kws p
    cases f <;> cases kws <;> simp only [srcB, Bool.false_eq_true, Bool.and_eq_true, decide_eq_true_eq] at hb
    obtain ⟨⟨hx, hg⟩, hn⟩ := hb
    have h : PA X as (tDs M X.K W es) := h
    have hst : as.any isStar = false := hst
    have hl : as.length = es.length := hl
    match es, as, hl, hn, h, hst with
    | [e], [a], _, _, h, hst => exact s_srcEnum ev.gd hx hg ev.b.en (by simpa using hst) h
  | zip =>
    cases tg <;> cases iter <;> simp only [srcB, Bool.false_eq_true] at hb
    rename_i f as kws p
    cases f <;> cases kws <;> simp only [srcB, Bool.false_eq_true, Bool.and_eq_true, decide_eq_true_eq] at hb
    obtain ⟨⟨hx, hg⟩, hn⟩ := hb
    have h : PA X as (tDs M X.K W es) := h
    have hst : as.any isStar = false := hst
    have hl : as.length = es.length := hl
    match es, as, hl, hn, h, hst with
    | [e, e'], [a, b], _, _, h, hst =>
      have hst : isStar a = false ∧ isStar b = false := by simpa using hst
      exact s_srcZip ev.gd hx hg ev.b.zp hst.1 hst.2 h
  | rev =>
    cases iter <;> simp only [srcB, Bool.false_eq_true] at hb
    rename_i f as kws p
    cases f <;> cases kws <;> simp only [srcB, Bool.false_eq_true, Bool.and_eq_true, decide_eq_true_eq] at hb
    obtain ⟨⟨hx, hg⟩, hn⟩ := hb
    have hst : as.any isStar = false := hst
    have hl : as.length = es.length := hl
    match es, as, hl, hn, hst, hone with
    | [e], [a], _, _, hst, hone => exact s_srcRev ev.gd hx hg ev.b.rv (by simpa using hst) (hone a rfl e rfl)
theorem mt_indexLB (hu : X.A.units + 65 < cLine) : MtR X "list.index" (rMT X.K (rME X.K .index) true) := by
  intro pins s₁ σ₁ H x xs v us Q I rx rxs h
  obtain ⟨⟨ds, hq⟩, h⟩ := h
  have hq : Dq X.K H x (.list ds) := hq
  have hp : ∃ p, x = .ref p := by cases hq; exact ⟨_, rfl⟩
  obtain ⟨p, rfl⟩ := hp
  exact mt_indexL hu pins s₁ σ₁ H _ xs v us Q I rx rxs ⟨⟨ds, p, rfl, hq⟩, h⟩
theorem mt_indexTB (hu : X.A.units + 65 < cLine) : MtR X "tuple.index" (rMT X.K (rME X.K .index) false) := by
  intro pins s₁ σ₁ H x xs v us Q I rx rxs h
  obtain ⟨⟨ds, hq⟩, h⟩ := h
  have hq : Dq X.K H x (.tuple ds) := hq
  have hp : ∃ p, x = .ref p := by cases hq; exact ⟨_, rfl⟩
  obtain ⟨p, rfl⟩ := hp
  exact mt_indexT hu pins s₁ σ₁ H _ xs v us Q I rx rxs ⟨⟨ds, p, rfl, hq⟩, h⟩
theorem told_case {M : SM} {g : Nat} {e : PV.E} {fin : HE} {hs : List Cl} {all : List Nat} {X : Cx} {W : WX} {c : CC} {k : Nat} {ast : Expr} (ev : Ev M X W c k) (h0 : chkE M.C (.told g e fin hs all) c ast = true)
    (ih : ∀ {X : Cx} {W : WX} {c : CC} {k : Nat} {ast : Expr}, Ev M X W c k → chkE M.C e c ast = true → PE X ast (tE M X.K W e)) : PE X ast (tE M X.K W (.told g e fin hs all)) ∧ ((PV.E.told g e fin hs all).tst = true → PT X ast (tT M X.K W (.told g e fin hs all))) := by
  obtain ⟨hl, h0⟩ := Bool.and_eq_true_iff.mp (show (c.lm && seen (vLam ast) _) = true from h0)
  obtain ⟨⟨nm, params, body, scope⟩, hx, h⟩ := seen_of h0
  obtain ⟨p, p2, pos, rfl⟩ := vLam_of hx
  simp only [Bool.and_eq_true, Bool.not_eq_true'] at h
  obtain ⟨⟨⟨⟨⟨h1, h2⟩, h3⟩, h4⟩, h5⟩, h6⟩ := h
  obtain ⟨td, e1, e2⟩ := seen_of h2
  simp only [Bool.and_eq_true, decide_eq_true_eq] at e2
  obtain ⟨rfl, e3⟩ := e2
  have l := ev.lm hl
  have hb : ∀ (A : Around) (outer : List Env) (s : Shared) (H : Hp) (E : XK) (f c' : Addr), Room k (A.deeper (LamX.lamEnv X scope s.heap.objs.size f c')) → A.guards = some [] → PE (LamX.lamCx X A outer s H E scope f c') body (tE M X.K (fun cls d _ H' => E cls d H') e) := fun A outer s H E f c' hr hg => ih (X := LamX.lamCx X A outer s H E scope f c') (ev.lam hr hg) h6
  have pe := s_told (W := W) (pos := pos) (p := p) (p2 := p2) (g := g) ev.gd ev.tk l.rm l.er l.tf h1 (l.td g td e1) e3 h3 h4 h5 hb
  exact ⟨pe, fun _ => pt_plain pe rfl⟩
theorem s_atr {M : SM} {X : Cx} {W : WX} {c : CC} {k : Nat} (ev : Ev M X W c k) (er : Ers M X) {cc : Nat} {e : E} {a : Expr} {nm fl : Str} {p p2 p3 p4 : Pos} (hc : M.C.cls[cc]? = some (nm, fl)) (hf : Rs fl) (hn : fl ≠ "-") (hg : glB c nm = true) (he : PE X a (tE M X.K W e)) (hp : e.isPk = false) :
    PE X (.Attribute (.Call (.Name nm p) [] [⟨some fl, a, p4⟩] p2) fl p3) (tE M X.K W (.atr cc e)) := by
  have T := er.mkr cc nm fl hc hf hn
  obtain ⟨h1, h2, h3⟩ := gl_of ev.gd hg
  have base := pe_atr (p := p) (p2 := p2) (p3 := p3) (p4 := p4) T ev.rm he h1 h2
  refine ⟨fun pins s σ H Q I hw => base.run pins s σ H Q I ?_⟩
  obtain ⟨s', T', w, np, hr⟩ := hw
  have np : noPk T' := np.resolve_right (fun z => by cases (show false = true from z))
  have hr : Res M X.K W T' σ _ (evE M.ft e s') := hr
  refine ⟨s', T', w, .inl np, hr.imp fun v s1 k x H1 w1 => ⟨x, rfl, k x H1 ?_⟩⟩
  rw [hp] at w1
  exact w1
theorem atr_case {M : SM} {cc : Nat} {e : PV.E} {X : Cx} {W : WX} {c : CC} {k : Nat} {ast : Expr} (ev : Ev M X W c k) (h0 : chkE M.C (.atr cc e) c ast = true)
    (ih : ∀ {a : Expr}, chkE M.C e c a = true → PE X a (tE M X.K W e)) : PE X ast (tE M X.K W (.atr cc e)) ∧ ((PV.E.atr cc e).tst = true → PT X ast (tT M X.K W (.atr cc e))) := by
  obtain ⟨hl, h0⟩ := Bool.and_eq_true_iff.mp (show (c.lm && seen (vAtr ast) _) = true from h0)
  obtain ⟨⟨nm, f, g, a⟩, hx, h⟩ := seen_of h0
  obtain ⟨p, p2, p3, p4, rfl⟩ := vAtr_of hx
  simp only [Bool.and_eq_true, Bool.not_eq_true', decide_eq_true_eq] at h
  obtain ⟨⟨⟨⟨h1, h2⟩, h3⟩, h4⟩, h5⟩ := h
  subst h1
  obtain ⟨q, e1, e2⟩ := seen_of h3
  simp only [Bool.and_eq_true, decide_eq_true_eq, Bool.not_eq_true', decide_eq_false_iff_not] at e2
  obtain ⟨⟨rfl, e3⟩, e4⟩ := e2
  have pe := s_atr (W := W) (p := p) (p2 := p2) (p3 := p3) (p4 := p4) ev (ev.lm hl).er e1 (rsB_ok e3) e4 h2 (ih h5) h4
  exact ⟨pe, fun _ => pt_plain pe rfl⟩
/-- what stands where a list of values does -/
def PEs (M : SM) (X : Cx) (W : WX) (es : List E) (as : List Expr) : Prop := as.any isStar = false ∧ as.length = es.length ∧ (∀ e ∈ es, e.isPk = false) ∧ PA X as (tEs M X.K W es) ∧ PA X as (tDs M X.K W es)
mutual
theorem sE : ∀ (e : E) {X : Cx} {W : WX} {c : CC} {k : Nat} {ast : Expr}, Ev M X W c k → chkE M.C e c ast = true → PE X ast (tE M X.K W e) ∧ (e.tst = true → PT X ast (tT M X.K W e))
  | .var i, X, W, c, k, ast, ev, h0 => by
    obtain ⟨x, hx, h⟩ := seen_of (show seen (vName ast) _ = true from h0)
    obtain ⟨p, rfl⟩ := vName_of hx
    have pe := s_var (pos := p) (W := W) ev.gd h
    exact ⟨pe, fun _ => pt_plain pe rfl⟩
  | .mv i, X, W, c, k, ast, ev, h0 => by
    obtain ⟨x, hx, h⟩ := seen_of (show seen (vName ast) _ = true from h0)
    obtain ⟨p, rfl⟩ := vName_of hx
    have pe := s_mv (pos := p) (W := W) ev.gd h
    exact ⟨pe, fun _ => pt_plain pe rfl⟩
  | .pk i, X, W, c, k, ast, ev, h0 => by
    obtain ⟨x, hx, h⟩ := seen_of (show seen (vName ast) _ = true from h0)
    obtain ⟨p, rfl⟩ := vName_of hx
    have pe := s_pk (pos := p) (W := W) ev.gd h
    exact ⟨pe, fun _ => pt_plain pe rfl⟩
  | .io _, _, _, _, _, _, _, h => by cases (show false = true from h)
  | .pop _ _, _, _, _, _, _, _, h => by cases (show false = true from h)
  | .ixk i b, X, W, c, k, ast, ev, h0 => by
    obtain ⟨⟨x, y⟩, hx, h⟩ := seen_of (show seen (vSub ast) _ = true from h0)
    obtain ⟨p, rfl⟩ := vSub_of hx
    simp only [Bool.and_eq_true, Bool.not_eq_true'] at h
    obtain ⟨nm, hn, h1⟩ := seen_of h.1.1
    obtain ⟨p2, rfl⟩ := vName_of hn
    have pe := s_ixk (pos := p) (p2 := p2) (W := W) ev.gd h1 (sE b ev h.1.2).1 h.2
    exact ⟨pe, fun _ => pt_plain pe rfl⟩
  | .lit d, X, W, c, k, ast, ev, h0 => by
    obtain ⟨x, hx, h⟩ := seen_of (show seen (vConst ast) _ = true from h0)
    obtain ⟨n, p, rfl⟩ := vConst_of hx
    have pe := s_scal (M := M) (X := X) (W := W) (n := n) (pos := p) h
    exact ⟨pe, fun _ => pt_plain pe rfl⟩
  | .glb i d, X, W, c, k, ast, ev, h0 => by
    obtain ⟨x, hx, h⟩ := seen_of (show seen (vName ast) _ = true from h0)
    obtain ⟨p, rfl⟩ := vName_of hx
    simp only [Bool.and_eq_true] at h
    obtain ⟨⟨y, e⟩, hy, h2⟩ := seen_of h.2
    simp only [Bool.and_eq_true, decide_eq_true_eq] at h2
    obtain ⟨e1, e2⟩ := h2
    have e2 := scE_eq e2
    subst e1 e2
    have pe := s_glb (pos := p) (W := W) ev.gd h.1 hy
    exact ⟨pe, fun _ => pt_plain pe rfl⟩
  | .tup es, X, W, c, k, ast, ev, h0 => by
    obtain ⟨x, hx, h⟩ := seen_of (show seen (vTup ast) _ = true from h0)
    obtain ⟨n, p, rfl⟩ := vTup_of hx
    simp only [Bool.and_eq_true, decide_eq_true_eq] at h
    have q := sEs es ev h.2
    have pe := s_tup (pos := p) (x1 := n) h.1 q.2.2.1 q.2.2.2.2
    exact ⟨pe, fun _ => pt_plain pe rfl⟩
  | .lst es, X, W, c, k, ast, ev, h0 => by
    obtain ⟨x, hx, h⟩ := seen_of (show seen (vLst ast) _ = true from h0)
    obtain ⟨p, rfl⟩ := vLst_of hx
    simp only [Bool.and_eq_true, decide_eq_true_eq] at h
    have q := sEs es ev h.2
    have pe := s_lst (pos := p) h.1 q.2.2.2.1
    exact ⟨pe, fun _ => pt_plain pe rfl⟩
  | .frz e, X, W, c, k, ast, ev, h => by
    have h : (!e.isPk && chkE M.C e c ast) = true := h
    simp only [Bool.and_eq_true, Bool.not_eq_true'] at h
    exact ⟨s_frz h.1 (sE e ev h.2).1, fun z => by cases (show false = true from z)⟩
  | .op2 o a b, X, W, c, k, ast, ev, h0 => by
    obtain ⟨⟨x, op, y⟩, hx, h⟩ := seen_of (show seen (vBin ast) _ = true from h0)
    obtain ⟨p, rfl⟩ := vBin_of hx
    simp only [Bool.and_eq_true, decide_eq_true_eq] at h
    obtain ⟨⟨⟨rfl, h1⟩, h2⟩, h3⟩ := h
    have pe := s_op2 (pos := p) (o := o) (sE a ev h1).1 (sE b ev h2).1 h3
    exact ⟨pe, fun _ => pt_plain pe rfl⟩
  | .neg a, X, W, c, k, ast, ev, h0 => by
    obtain ⟨⟨op, x⟩, hx, h⟩ := seen_of (show seen (vUn ast) _ = true from h0)
    obtain ⟨p, rfl⟩ := vUn_of hx
    simp only [Bool.and_eq_true, decide_eq_true_eq] at h
    obtain ⟨rfl, h1⟩ := h
    have pe := s_neg (pos := p) (sE a ev h1).1
    exact ⟨pe, fun _ => pt_plain pe rfl⟩
  | .cmp o a b, X, W, c, k, ast, ev, h0 => by
    obtain ⟨⟨x, op, y⟩, hx, h⟩ := seen_of (show seen (vCmp1 ast) _ = true from h0)
    obtain ⟨p, rfl⟩ := vCmp1_of hx
    simp only [Bool.and_eq_true, decide_eq_true_eq, Bool.not_eq_true'] at h
    obtain ⟨⟨⟨⟨rfl, h1⟩, h2⟩, h3⟩, h4⟩ := h
    have q := s_cmp (pos := p) (o := o) ev.gd (sE a ev h1).1 (sE b ev h2).1 h3 h4
    exact ⟨q.1, fun _ => q.2⟩
  | .chn o o' a b d, X, W, c, k, ast, ev, h0 => by
    obtain ⟨⟨x, op, op', y, z⟩, hx, h⟩ := seen_of (show seen (vCmp2 ast) _ = true from h0)
    obtain ⟨p, rfl⟩ := vCmp2_of hx
    simp only [Bool.and_eq_true, decide_eq_true_eq, Bool.not_eq_true'] at h
    obtain ⟨⟨⟨⟨⟨⟨⟨rfl, rfl⟩, h1⟩, h2⟩, h3⟩, h4⟩, h5⟩, h6⟩ := h
    have q := s_chn (pos := p) (o := o) (o' := o') ev.gd (sE a ev h1).1 (sE b ev h2).1 (sE d ev h3).1 (by simpa using h4) h5 h6
    exact ⟨q.1, fun _ => q.2⟩
  | .and_ a b, X, W, c, k, ast, ev, h0 => by
    obtain ⟨⟨op, xs⟩, hx, h⟩ := seen_of (show seen (vBool ast) _ = true from h0)
    obtain ⟨p, rfl⟩ := vBool_of hx
    simp only [Bool.and_eq_true, decide_eq_true_eq] at h
    obtain ⟨rfl, h⟩ := h
    match xs, h with
    | [x, y], h =>
      simp only [Bool.and_eq_true, Bool.not_eq_true'] at h
      obtain ⟨⟨⟨⟨t1, t2⟩, pb⟩, h1⟩, h2⟩ := h
      have qa := sE a ev h1
      have qb := sE b ev h2
      exact ⟨s_and qa.1 (pe_one qb.1) pb, fun _ => (s_andW (qa.2 t1) (pw_and1 (qb.2 t2))).pt⟩
    | x :: y :: z :: r, h =>
      simp only [Bool.and_eq_true] at h
      obtain ⟨⟨t1, h1⟩, h2⟩ := h
      have qa := sE a ev h1
      have qb := sAnd b (pos := p) ev h2
      exact ⟨s_and qa.1 qb.1 qb.2.2, fun _ => (s_andW (qa.2 t1) qb.2.1).pt⟩
    | [], h => cases h
    | [_], h => cases h
  | .or_ a b, X, W, c, k, ast, ev, h0 => by
    obtain ⟨⟨op, xs⟩, hx, h⟩ := seen_of (show seen (vBool ast) _ = true from h0)
    obtain ⟨p, rfl⟩ := vBool_of hx
    simp only [Bool.and_eq_true, decide_eq_true_eq] at h
    obtain ⟨rfl, h⟩ := h
    match xs, h with
    | [x, y], h =>
      simp only [Bool.and_eq_true, Bool.not_eq_true'] at h
      obtain ⟨⟨⟨⟨t1, t2⟩, pb⟩, h1⟩, h2⟩ := h
      have qa := sE a ev h1
      have qb := sE b ev h2
      exact ⟨s_or qa.1 (pe_one qb.1) pb, fun _ => (s_orW (qa.2 t1) (pw_or1 (qb.2 t2))).pt⟩
    | x :: y :: z :: r, h =>
      simp only [Bool.and_eq_true] at h
      obtain ⟨⟨t1, h1⟩, h2⟩ := h
      have qa := sE a ev h1
      have qb := sOr b (pos := p) ev h2
      exact ⟨s_or qa.1 qb.1 qb.2.2, fun _ => (s_orW (qa.2 t1) qb.2.1).pt⟩
    | [], h => cases h
    | [_], h => cases h
  | .not_ a, X, W, c, k, ast, ev, h0 => by
    obtain ⟨⟨op, x⟩, hx, h⟩ := seen_of (show seen (vUn ast) _ = true from h0)
    obtain ⟨p, rfl⟩ := vUn_of hx
    simp only [Bool.and_eq_true, decide_eq_true_eq] at h
    obtain ⟨⟨rfl, t1⟩, h1⟩ := h
    have q := sE a ev h1
    exact ⟨s_not q.1, fun _ => s_notT (q.2 t1)⟩
  | .ite d a b, X, W, c, k, ast, ev, h0 => by
    obtain ⟨⟨x, y, z⟩, hx, h⟩ := seen_of (show seen (vIf ast) _ = true from h0)
    obtain ⟨p, rfl⟩ := vIf_of hx
    simp only [Bool.and_eq_true, Bool.not_eq_true'] at h
    obtain ⟨⟨⟨⟨⟨t1, p1⟩, p2⟩, h1⟩, h2⟩, h3⟩ := h
    exact ⟨s_ite ((sE d ev h1).2 t1) (sE a ev h2).1 (sE b ev h3).1 p1 p2, fun z => by cases (show false = true from z)⟩
  | .ix a b, X, W, c, k, ast, ev, h0 => by
    obtain ⟨⟨x, y⟩, hx, h⟩ := seen_of (show seen (vSub ast) _ = true from h0)
    obtain ⟨p, rfl⟩ := vSub_of hx
    simp only [Bool.and_eq_true, Bool.not_eq_true'] at h
    obtain ⟨⟨⟨h1, h2⟩, h3⟩, h4⟩ := h
    have pe := s_ix (pos := p) (sE a ev h1).1 (sE b ev h2).1 h3 h4
    exact ⟨pe, fun _ => pt_plain pe rfl⟩
  | .slc a lo hi, X, W, c, k, ast, ev, h0 => by
    obtain ⟨⟨x, l, u⟩, hx, h⟩ := seen_of (show seen (vSlc ast) _ = true from h0)
    obtain ⟨p, p2, rfl⟩ := vSlc_of hx
    simp only [Bool.and_eq_true] at h
    obtain ⟨⟨⟨h1, h2⟩, h3⟩, h4⟩ := h
    have pe := s_slc (pos := p2) (p2 := p) (sE a ev h1).1 (sI lo ev h2) (sI hi ev h3) (by simpa using h4)
    exact ⟨pe, fun _ => pt_plain pe rfl⟩
  | .call f es pm, X, W, c, k, ast, ev, h0 => by
    obtain ⟨⟨x, as, kws⟩, hx, h⟩ := seen_of (show seen (vCall ast) _ = true from h0)
    obtain ⟨p, p2, rfl⟩ := vCall_of hx
    simp only [Bool.and_eq_true, decide_eq_true_eq, Bool.not_eq_true'] at h
    obtain ⟨⟨⟨⟨⟨⟨⟨h1, h2⟩, h3⟩, h4⟩, h5⟩, h6⟩, h7⟩, h8⟩ := h
    obtain ⟨fi, hf, h2⟩ := seen_of h2
    simp only [Bool.and_eq_true, decide_eq_true_eq, Bool.or_eq_true] at h2
    obtain ⟨⟨⟨n1, n2⟩, n3⟩, n4⟩ := h2
    have q := (sAs es ev h7).take
    have pe := s_call (pos := p2) (p2 := p) ev.gd ev.tk ev.rm ev.df hf n1 h1 h3 h4 h6 (q.1.pa h8) q.2.pk h8 (List.isPerm_iff.mp h5) n4 n2 n3
    exact ⟨pe, fun _ => pt_plain pe rfl⟩
  | .blt b es, X, W, c, k, ast, ev, h0 => by
    obtain ⟨⟨x, as, kws⟩, hx, h⟩ := seen_of (show seen (vCall ast) _ = true from h0)
    obtain ⟨p, p2, rfl⟩ := vCall_of hx
    simp only [Bool.and_eq_true, decide_eq_true_eq, List.isEmpty_iff] at h
    obtain ⟨⟨⟨⟨rfl, h1⟩, h2⟩, h3⟩, h4⟩ := h
    have q := sOs es ev h1
    have pe := s_blt (pos := p2) (p2 := p) ev.gd h3 h4 q.1 h2 q.2.1 q.2.2.1
    exact ⟨pe, fun _ => pt_plain pe rfl⟩
  | .isi a ts, X, W, c, k, ast, ev, h0 => by
    obtain ⟨⟨x, as, kws⟩, hx, h⟩ := seen_of (show seen (vCall ast) _ = true from h0)
    obtain ⟨p, p2, rfl⟩ := vCall_of hx
    simp only [Bool.and_eq_true, decide_eq_true_eq, List.isEmpty_iff] at h
    obtain ⟨⟨⟨rfl, h1⟩, h2⟩, h3⟩ := h
    match as, h3 with
    | [y, t], h3 =>
      simp only [Bool.and_eq_true, Bool.not_eq_true'] at h3
      obtain ⟨⟨h3, h4⟩, h5⟩ := h3
      have pa := (sE a ev h3).1
      have pe : PE X (.Call (.Name x p) [y, t] [] p2) (tE M X.K W (.isi a ts)) := by
        have tup : ∀ {ts : List Ty}, seen (vTup t) (fun as => decide (ts.length ≤ 5) && tysB c ts as) = true → PE X (.Call (.Name x p) [y, t] [] p2) (tE M X.K W (.isi a ts)) := fun {ts} h5 => by
          obtain ⟨tas, ht, h6⟩ := seen_of h5
          clear h5
          obtain ⟨n, p3, rfl⟩ := vTup_of ht
          simp only [Bool.and_eq_true, decide_eq_true_eq] at h6
          exact s_isiT ev.gd h1 h2 pa h4 (s_tys ev.gd h6.2) h6.1
        match ts, h5 with
        | [ty], h5 =>
          obtain ⟨z, hz, h6⟩ := seen_of h5
          clear tup h5
          obtain ⟨p3, rfl⟩ := vName_of hz
          simp only [Bool.and_eq_true, decide_eq_true_eq] at h6
          exact s_isi1 ev.gd h1 h2 pa h4 (s_ty ev.gd h6.1 h6.2) rfl
        | [], h5 => exact tup h5
        | _ :: _ :: _, h5 => exact tup h5
      exact ⟨pe, fun _ => pt_plain pe rfl⟩
    | [], h3 => cases h3
    | [_], h3 => cases h3
    | _ :: _ :: _ :: _, h3 => cases h3
  | .meth m a es, X, W, c, k, ast, ev, h0 => by
    obtain ⟨⟨x, n, as, l⟩, hx, h⟩ := seen_of (show seen (vMeth ast) _ = true from h0)
    clear h0
    obtain ⟨apos, p, rfl, hl⟩ := vMeth_of hx
    simp only [Bool.and_eq_true, decide_eq_true_eq, Bool.not_eq_true'] at h
    obtain ⟨⟨⟨⟨⟨⟨⟨rfl, rfl⟩, h1⟩, h2⟩, h3⟩, h4⟩, h5⟩, rfl⟩ := h
    have q := sOs es ev h3
    have hu : X.A.units + 65 < cLine := by have := ev.gd.units; omega
    have pa := (sE a ev h1).1
    match es, as, h2, q, h4 with
    | [e], [y], _, q, h4 =>
      have pe := s_meth (pos := p) (apos := apos) (m := .index) (nm := "index") (W := W) (mt_indexLB hu) (mt_indexTB hu) PySem.F.slot_list_index PySem.F.slot_tuple_index pa (q.2.2.2 y rfl e rfl) (by simpa [E.quietA] using h4) h5 (by simpa using q.1) hl
      exact ⟨pe, fun _ => pt_plain pe rfl⟩
  | .comp t kk es cs e, X, W, c, k, ast, ev, h0 => by
    obtain ⟨⟨elt, tg, iter, ifs, scope⟩, hx, h⟩ := seen_of (show seen (vComp ast) _ = true from h0)
    obtain ⟨p, rfl⟩ := vComp_of hx
    simp only [Bool.and_eq_true, Bool.not_eq_true'] at h
    obtain ⟨⟨⟨⟨⟨⟨⟨⟨⟨h1, h2⟩, h3⟩, h4⟩, h5⟩, h6⟩, h7⟩, h8⟩, h9⟩, h10⟩ := h
    have q := sOs es ev h2
    have pi := s_src ev (t := t) h1 q.2.2.1 q.1 q.2.1 (fun hk e he => by
      subst hk
      exact q.2.2.2 iter rfl e he) q.2.2.2
    have ok : BlkOk X.N X.env.scope scope (c.own t) := blkOk_by (by rw [ev.gd.N, ev.gd.sc]; exact h9)
    have pe := s_comp (pos := p) ev.gd.calm (by rw [ev.gd.N]; exact ev.gd.nd) pi (by
        rcases Bool.or_eq_true_iff.mp h3 with z | z
        · refine .inl fun e he => ?_
          simpa using List.all_eq_true.mp z e he
        · exact .inr z) ok own_slots
      (fun s H C cl fp => s_tgtK (ev.blk s H scope cl C fp).gd h4 h5)
      (fun s H C cl fp => sCs cs (ev.blk s H scope cl C fp) h6)
      (fun s H C cl fp => (sE e (ev.blk s H scope cl C fp) h7).1) h8 (fold_no h10)
    exact ⟨pe, fun _ => pt_plain pe rfl⟩
  | .atr cc e, X, W, c, k, ast, ev, h0 => atr_case ev h0 fun h' => (sE e ev h').1
  | .told g e fin hs all, X, W, c, k, ast, ev, h0 => told_case ev h0 fun ev' h' => (sE e ev' h').1
  | .rev a, X, W, c, k, ast, ev, h0 => by
    obtain ⟨x, hx, h⟩ := seen_of (show seen (vRev ast) _ = true from h0)
    obtain ⟨n, p1, p2, p3, p4, rfl⟩ := vRev_of hx
    have pe := s_rev (k := n) (p1 := p1) (p2 := p2) (p3 := p3) (pos := p4) (sE a ev h).1
    exact ⟨pe, fun _ => pt_plain pe rfl⟩
  | .gcd a b, X, W, c, k, ast, ev, h0 => by
    obtain ⟨hgc, h0⟩ := Bool.and_eq_true_iff.mp (show (M.C.gcd && seen (vCall ast) _) = true from h0)
    obtain ⟨⟨x, as, kws⟩, hx, h⟩ := seen_of h0
    obtain ⟨p, p2, rfl⟩ := vCall_of hx
    simp only [Bool.and_eq_true, decide_eq_true_eq, List.isEmpty_iff] at h
    obtain ⟨⟨⟨rfl, h1⟩, h2⟩, h3⟩ := h
    match as, h3 with
    | [y, z], h3 =>
      simp only [Bool.and_eq_true, Bool.not_eq_true'] at h3
      obtain ⟨⟨⟨⟨h3, h4⟩, h5⟩, h6⟩, h7⟩ := h3
      have pe := s_gcd (pos := p2) (p := p) ev.gd h1 h2 (ev.b.gc hgc) h5 h6 (sE a ev h3).1 (sE b ev h4).1 h7
      exact ⟨pe, fun _ => pt_plain pe rfl⟩
    | [], h3 => cases h3
    | [_], h3 => cases h3
    | _ :: _ :: _ :: _, h3 => cases h3
  | .popk i b, X, W, c, k, ast, ev, h0 => by
    obtain ⟨⟨x, y, l⟩, hx, h⟩ := seen_of (show seen (vPopk ast) _ = true from h0)
    obtain ⟨p, p2, apos, pos, rfl, hl⟩ := vPopk_of hx
    simp only [Bool.and_eq_true, Bool.not_eq_true'] at h
    obtain ⟨⟨⟨h1, h2⟩, h3⟩, rfl⟩ := h
    have pe := s_popk (p1 := p) (p2 := p2) ev.gd h1 (sE b ev h2).1 h3 hl
    exact ⟨pe, fun _ => pt_plain pe rfl⟩
  | .callv i fs es, X, W, c, k, ast, ev, h0 => by
    obtain ⟨⟨x, as, kws⟩, hx, h⟩ := seen_of (show seen (vCall ast) _ = true from h0)
    obtain ⟨p, p2, rfl⟩ := vCall_of hx
    simp only [Bool.and_eq_true, decide_eq_true_eq, Bool.not_eq_true', List.isEmpty_iff, List.all_eq_true] at h
    obtain ⟨⟨⟨⟨⟨⟨h1, rfl⟩, h3⟩, h4⟩, h5⟩, h6⟩, h7⟩ := h
    have q := sAs es ev h6
    have pe := s_callv (pos := p2) (p2 := p) ev.gd ev.tk ev.rm ev.df h1 ev.b.fx (fun q hq => by
      obtain ⟨fi, hf, h8⟩ := seen_of (h3 q hq)
      simp only [Bool.and_eq_true, decide_eq_true_eq] at h8
      exact ⟨fi, hf, h8.1.1.1, h8.1.1.2, h8.1.2, h8.2⟩) h5 (q.pa h7) h7 h4
    exact ⟨pe, fun _ => pt_plain pe rfl⟩
  | .comp2 _ _ _ _ _ _ _ _, _, _, _, _, _, _, h => by cases (show false = true from h)
  | .bad, X, W, c, k, ast, ev, h0 => by
    have pe : PE X ast (tE M X.K W .bad) := ⟨fun pins s σ H Q I hw => by
      obtain ⟨s', T, w, np, hr⟩ := hw
      simp only [evE] at hr
      exact hr.elim⟩
    exact ⟨pe, fun _ => ⟨fun pins s σ H Q I hw => by
      obtain ⟨s', T, w, np, hr⟩ := hw
      simp only [evE] at hr
      exact hr.elim⟩⟩
theorem sAnd : ∀ (e : E) {X : Cx} {W : WX} {c : CC} {k : Nat} {y z : Expr} {r : List Expr} {pos : Pos}, Ev M X W c k → chkAnd M.C e c (y :: z :: r) = true → PE X (.BoolOp .And (y :: z :: r) pos) (tE M X.K W e) ∧ PW X (.BoolOp .And (y :: z :: r) pos) (tT M X.K W e) ∧ e.isPk = false
  | .and_ a b, X, W, c, k, y, z, r, pos, ev, h => by
    match r, h with
    | [], h =>
      have h : (a.tst && b.tst && !b.isPk && chkE M.C a c y && chkE M.C b c z) = true := h
      simp only [Bool.and_eq_true, Bool.not_eq_true'] at h
      obtain ⟨⟨⟨⟨t1, t2⟩, pb⟩, h1⟩, h2⟩ := h
      have qa := sE a ev h1
      have qb := sE b ev h2
      exact ⟨s_and qa.1 (pe_one qb.1) pb, s_andW (qa.2 t1) (pw_and1 (qb.2 t2)), rfl⟩
    | w :: r, h =>
      have h : (a.tst && chkE M.C a c y && chkAnd M.C b c (z :: w :: r)) = true := h
      simp only [Bool.and_eq_true] at h
      obtain ⟨⟨t1, h1⟩, h2⟩ := h
      have qa := sE a ev h1
      have qb := sAnd b (pos := pos) ev h2
      exact ⟨s_and qa.1 qb.1 qb.2.2, s_andW (qa.2 t1) qb.2.1, rfl⟩
  | .var _, _, _, _, _, _, _, _, _, _, h => by cases (show false = true from h)
  | .mv _, _, _, _, _, _, _, _, _, _, h => by cases (show false = true from h)
  | .pk _, _, _, _, _, _, _, _, _, _, h => by cases (show false = true from h)
  | .io _, _, _, _, _, _, _, _, _, _, h => by cases (show false = true from h)
  | .lit _, _, _, _, _, _, _, _, _, _, h => by cases (show false = true from h)
  | .glb _ _, _, _, _, _, _, _, _, _, _, h => by cases (show false = true from h)
  | .tup _, _, _, _, _, _, _, _, _, _, h => by cases (show false = true from h)
  | .lst _, _, _, _, _, _, _, _, _, _, h => by cases (show false = true from h)
  | .frz _, _, _, _, _, _, _, _, _, _, h => by cases (show false = true from h)
  | .op2 _ _ _, _, _, _, _, _, _, _, _, _, h => by cases (show false = true from h)
  | .neg _, _, _, _, _, _, _, _, _, _, h => by cases (show false = true from h)
  | .cmp _ _ _, _, _, _, _, _, _, _, _, _, h => by cases (show false = true from h)
  | .chn _ _ _ _ _, _, _, _, _, _, _, _, _, _, h => by cases (show false = true from h)
  | .or_ _ _, _, _, _, _, _, _, _, _, _, h => by cases (show false = true from h)
  | .not_ _, _, _, _, _, _, _, _, _, _, h => by cases (show false = true from h)
  | .ite _ _ _, _, _, _, _, _, _, _, _, _, h => by cases (show false = true from h)
  | .ix _ _, _, _, _, _, _, _, _, _, _, h => by cases (show false = true from h)
  | .ixk _ _, _, _, _, _, _, _, _, _, _, h => by cases (show false = true from h)
  | .slc _ _ _, _, _, _, _, _, _, _, _, _, h => by cases (show false = true from h)
  | .call _ _ _, _, _, _, _, _, _, _, _, _, h => by cases (show false = true from h)
  | .blt _ _, _, _, _, _, _, _, _, _, _, h => by cases (show false = true from h)
  | .isi _ _, _, _, _, _, _, _, _, _, _, h => by cases (show false = true from h)
  | .meth _ _ _, _, _, _, _, _, _, _, _, _, h => by cases (show false = true from h)
  | .pop _ _, _, _, _, _, _, _, _, _, _, h => by cases (show false = true from h)
  | .comp _ _ _ _ _, _, _, _, _, _, _, _, _, _, h => by cases (show false = true from h)
  | .told _ _ _ _ _, _, _, _, _, _, _, _, _, _, h => by cases (show false = true from h)
  | .atr _ _, _, _, _, _, _, _, _, _, _, h => by cases (show false = true from h)
  | .rev _, _, _, _, _, _, _, _, _, _, h => by cases (show false = true from h)
  | .gcd _ _, _, _, _, _, _, _, _, _, _, h => by cases (show false = true from h)
  | .popk _ _, _, _, _, _, _, _, _, _, _, h => by cases (show false = true from h)
  | .callv _ _ _, _, _, _, _, _, _, _, _, _, h => by cases (show false = true from h)
  | .comp2 _ _ _ _ _ _ _ _, _, _, _, _, _, _, _, _, _, h => by cases (show false = true from h)
  | .bad, _, _, _, _, _, _, _, _, _, h => by cases (show false = true from h)
theorem sOr : ∀ (e : E) {X : Cx} {W : WX} {c : CC} {k : Nat} {y z : Expr} {r : List Expr} {pos : Pos}, Ev M X W c k → chkOr M.C e c (y :: z :: r) = true → PE X (.BoolOp .Or (y :: z :: r) pos) (tE M X.K W e) ∧ PW X (.BoolOp .Or (y :: z :: r) pos) (tT M X.K W e) ∧ e.isPk = false
  | .or_ a b, X, W, c, k, y, z, r, pos, ev, h => by
    match r, h with
    | [], h =>
      have h : (a.tst && b.tst && !b.isPk && chkE M.C a c y && chkE M.C b c z) = true := h
      simp only [Bool.and_eq_true, Bool.not_eq_true'] at h
      obtain ⟨⟨⟨⟨t1, t2⟩, pb⟩, h1⟩, h2⟩ := h
      have qa := sE a ev h1
      have qb := sE b ev h2
      exact ⟨s_or qa.1 (pe_one qb.1) pb, s_orW (qa.2 t1) (pw_or1 (qb.2 t2)), rfl⟩
    | w :: r, h =>
      have h : (a.tst && chkE M.C a c y && chkOr M.C b c (z :: w :: r)) = true := h
      simp only [Bool.and_eq_true] at h
      obtain ⟨⟨t1, h1⟩, h2⟩ := h
      have qa := sE a ev h1
      have qb := sOr b (pos := pos) ev h2
      exact ⟨s_or qa.1 qb.1 qb.2.2, s_orW (qa.2 t1) qb.2.1, rfl⟩
  | .var _, _, _, _, _, _, _, _, _, _, h => by cases (show false = true from h)
  | .mv _, _, _, _, _, _, _, _, _, _, h => by cases (show false = true from h)
  | .pk _, _, _, _, _, _, _, _, _, _, h => by cases (show false = true from h)
  | .io _, _, _, _, _, _, _, _, _, _, h => by cases (show false = true from h)
  | .lit _, _, _, _, _, _, _, _, _, _, h => by cases (show false = true from h)
  | .glb _ _, _, _, _, _, _, _, _, _, _, h => by cases (show false = true from h)
  | .tup _, _, _, _, _, _, _, _, _, _, h => by cases (show false = true from h)
  | .lst _, _, _, _, _, _, _, _, _, _, h => by cases (show false = true from h)
  | .frz _, _, _, _, _, _, _, _, _, _, h => by cases (show false = true from h)
  | .op2 _ _ _, _, _, _, _, _, _, _, _, _, h => by cases (show false = true from h)
  | .neg _, _, _, _, _, _, _, _, _, _, h => by cases (show false = true from h)
  | .cmp _ _ _, _, _, _, _, _, _, _, _, _, h => by cases (show false = true from h)
  | .chn _ _ _ _ _, _, _, _, _, _, _, _, _, _, h => by cases (show false = true from h)
  | .and_ _ _, _, _, _, _, _, _, _, _, _, h => by cases (show false = true from h)
  | .not_ _, _, _, _, _, _, _, _, _, _, h => by cases (show false = true from h)
  | .ite _ _ _, _, _, _, _, _, _, _, _, _, h => by cases (show false = true from h)
  | .ix _ _, _, _, _, _, _, _, _, _, _, h => by cases (show false = true from h)
  | .ixk _ _, _, _, _, _, _, _, _, _, _, h => by cases (show false = true from h)
  | .slc _ _ _, _, _, _, _, _, _, _, _, _, h => by cases (show false = true from h)
  | .call _ _ _, _, _, _, _, _, _, _, _, _, h => by cases (show false = true from h)
  | .blt _ _, _, _, _, _, _, _, _, _, _, h => by cases (show false = true from h)
  | .isi _ _, _, _, _, _, _, _, _, _, _, h => by cases (show false = true from h)
  | .meth _ _ _, _, _, _, _, _, _, _, _, _, h => by cases (show false = true from h)
  | .pop _ _, _, _, _, _, _, _, _, _, _, h => by cases (show false = true from h)
  | .comp _ _ _ _ _, _, _, _, _, _, _, _, _, _, h => by cases (show false = true from h)
  | .told _ _ _ _ _, _, _, _, _, _, _, _, _, _, h => by cases (show false = true from h)
  | .atr _ _, _, _, _, _, _, _, _, _, _, h => by cases (show false = true from h)
  | .rev _, _, _, _, _, _, _, _, _, _, h => by cases (show false = true from h)
  | .gcd _ _, _, _, _, _, _, _, _, _, _, h => by cases (show false = true from h)
  | .popk _ _, _, _, _, _, _, _, _, _, _, h => by cases (show false = true from h)
  | .callv _ _ _, _, _, _, _, _, _, _, _, _, h => by cases (show false = true from h)
  | .comp2 _ _ _ _ _ _ _ _, _, _, _, _, _, _, _, _, _, h => by cases (show false = true from h)
  | .bad, _, _, _, _, _, _, _, _, _, h => by cases (show false = true from h)
theorem sI : ∀ (o : Option E) {X : Cx} {W : WX} {c : CC} {k : Nat} {x : Option Expr}, Ev M X W c k → chkI M.C o c x = true → PO X x (tI M X.K W o)
  | none, X, W, c, k, x, ev, h => by
    cases x with
    | none => exact s_nopart
    | some x => cases (show false = true from h)
  | some e, X, W, c, k, x, ev, h0 => by
    obtain ⟨x, rfl, h⟩ := seen_of (show seen x _ = true from h0)
    exact s_part (sE e ev h).1
theorem sEs : ∀ (es : List E) {X : Cx} {W : WX} {c : CC} {k : Nat} {as : List Expr}, Ev M X W c k → chkEs M.C es c as = true → PEs M X W es as
  | [], X, W, c, k, as, ev, h => by
    have : as = [] := List.isEmpty_iff.mp (show as.isEmpty = true from h)
    subst this
    exact ⟨rfl, rfl, (fun e he => absurd he (List.not_mem_nil)), s_esNil, s_dsNil⟩
  | e :: es, X, W, c, k, as, ev, h => by
    cases as with
    | nil => cases (show false = true from h)
    | cons a as =>
      have h : (!e.isPk && chkE M.C e c a && !isStar a && chkEs M.C es c as) = true := h
      simp only [Bool.and_eq_true, Bool.not_eq_true'] at h
      obtain ⟨⟨⟨h1, h2⟩, h3⟩, h4⟩ := h
      have qe := (sE e ev h2).1
      obtain ⟨q1, q2, q3, q4, q5⟩ := sEs es ev h4
      refine ⟨by simp [h3, q1], by simp [q2], fun e' he => ?_, s_esCons qe q4 h3 h1, s_dsCons qe q5 h3 (by simp [h1])⟩
      rcases List.mem_cons.mp he with rfl | he
      · exact h1
      · exact q3 e' he
theorem sOs : ∀ (es : List E) {X : Cx} {W : WX} {c : CC} {k : Nat} {as : List Expr}, Ev M X W c k → chkOs M.C es c as = true →
    as.any isStar = false ∧ as.length = es.length ∧ PA X as (tDs M X.K W es) ∧ ∀ a, as = [a] → ∀ e, es = [e] → PE X a (tE M X.K W e)
  | [], X, W, c, k, as, ev, h => by
    have : as = [] := List.isEmpty_iff.mp (show as.isEmpty = true from h)
    subst this
    exact ⟨rfl, rfl, s_dsNil, fun a h => by cases h⟩
  | e :: es, X, W, c, k, as, ev, h => by
    cases as with
    | nil => cases (show false = true from h)
    | cons a as =>
      have h : (chkE M.C e c a && !isStar a && (!e.isPk || E.quietA es) && chkOs M.C es c as) = true := h
      simp only [Bool.and_eq_true, Bool.not_eq_true'] at h
      obtain ⟨⟨⟨h1, h2⟩, h3⟩, h4⟩ := h
      have qe := (sE e ev h1).1
      obtain ⟨q1, q2, q3, _⟩ := sOs es ev h4
      refine ⟨by simp [h2, q1], by simp [q2], s_dsCons qe q3 h2 h3, fun a' ha e' he => ?_⟩
      cases ha
      cases he
      exact qe
theorem sAs : ∀ (es : List E) {X : Cx} {W : WX} {c : CC} {k : Nat} {as : List Expr}, Ev M X W c k → chkA M.C es c as = true → ArgsOk M X W es as
  | [], X, W, c, k, as, ev, h => by
    have : as = [] := List.isEmpty_iff.mp (show as.isEmpty = true from h)
    subst this
    trivial
  | e :: es, X, W, c, k, as, ev, h => by
    cases as with
    | nil => cases (show false = true from h)
    | cons a as =>
      have h : ((ioB e c a || (!e.isIo && !e.isPk && chkE M.C e c a && !isStar a)) && chkA M.C es c as) = true := h
      simp only [Bool.and_eq_true, Bool.or_eq_true, Bool.not_eq_true'] at h
      refine ⟨?_, sAs es ev h.2⟩
      rcases h.1 with z | z
      · exact io_arg ev.gd z
      · obtain ⟨⟨⟨z1, z2⟩, z3⟩, z4⟩ := z
        exact ⟨z2, argVal z1 (sE e ev z3).1, fun _ => z4⟩
theorem sCs : ∀ (es : List E) {X : Cx} {W : WX} {c : CC} {k : Nat} {as : List Expr}, Ev M X W c k → chkCs M.C es c as = true → PTs X as (tAl M X.K W es)
  | [], X, W, c, k, as, ev, h => by
    have : as = [] := List.isEmpty_iff.mp (show as.isEmpty = true from h)
    subst this
    exact s_alNil
  | e :: es, X, W, c, k, as, ev, h => by
    match as, h with
    | [a], h =>
      have h : (es.isEmpty && e.tst && chkE M.C e c a) = true := h
      simp only [Bool.and_eq_true, List.isEmpty_iff] at h
      obtain ⟨⟨rfl, h1⟩, h2⟩ := h
      exact s_alOne ((sE e ev h2).2 h1)
    | [], h => cases (show false = true from h)
    | _ :: _ :: _, h => cases (show false = true from h)
end
end
end PV
end
section
set_option Elab.async false
set_option linter.all false
set_option maxRecDepth 100000
set_option maxHeartbeats 4000000
/-! PvU: statements: readings; the small ones. -/
namespace PV
open PySem PySem.Spec PyProof.Rows L2
def FrL (lk : List Nat) (σ σ' : L2.St) : Prop := ∀ j ∈ lk, σ'[j]? = σ[j]?
theorem FrL.refl {lk : List Nat} {σ : L2.St} : FrL lk σ σ := fun _ _ => rfl
theorem FrL.trans {lk : List Nat} {a b c : L2.St} (h : FrL lk a b) (g : FrL lk b c) : FrL lk a c := fun j hj => (g j hj).trans (h j hj)
theorem Fr.l {ks lk : List Nat} {a b : L2.St} (h : Fr ks a b) (d : ∀ j ∈ ks, j ∉ lk) : FrL lk a b := fun j hj => h j fun z => d j z hj
/-- a statement's result -/
def RS (M : SM) (K : PySem.W.Frag) (W : WX) (lk : List Nat) (T : List (Hd × V)) (σ : L2.St) (D : Ends) : R Fl → Prop
  | .ok .nx s => ∀ σ' H', FrL lk σ σ' → WI K s T σ' H' → D.nx σ' H'
  | .ok .br s => ∀ σ' H', FrL lk σ σ' → WI K s T σ' H' → D.bk σ' H'
  | .ok .ct s => ∀ σ' H', FrL lk σ σ' → WI K s T σ' H' → D.ct σ' H'
  | .ok (.rt v) s => ∀ x σ' H', FrL lk σ σ' → WI K s ((.ov v, x) :: T) σ' H' → D.rt x H'
  | .exc c d s => ∀ σ', FrL lk σ σ' → XW M K W s T σ' c d
  | .bad => False
def tS (M : SM) (K : PySem.W.Frag) (W : WX) (lk : List Nat) (st : St) : TS := fun D σ H => ∃ s T, WI K s T σ H ∧ noPk T ∧ RS M K W lk T σ D (evS M.wf M.ft st s)
def tBl (M : SM) (K : PySem.W.Frag) (W : WX) (lk : List Nat) (sts : List St) : TS := fun D σ H => ∃ s T, WI K s T σ H ∧ noPk T ∧ RS M K W lk T σ D (evB M.wf M.ft sts s)
section
variable {M : SM} {K : PySem.W.Frag} {W : WX} {lk : List Nat} {T : List (Hd × V)} {σ σ' : L2.St} {D : Ends}
theorem RS.fr {r : R Fl} (f : FrL lk σ σ') (h : RS M K W lk T σ D r) : RS M K W lk T σ' D r := by
  cases r with
  | ok fl s =>
    cases fl with
    | nx => exact fun σ2 H2 g w => h σ2 H2 (f.trans g) w
    | br => exact fun σ2 H2 g w => h σ2 H2 (f.trans g) w
    | ct => exact fun σ2 H2 g w => h σ2 H2 (f.trans g) w
    | rt v => exact fun x σ2 H2 g w => h x σ2 H2 (f.trans g) w
  | exc c d s => exact fun σ2 g => h σ2 (f.trans g)
  | bad => exact h
theorem RS.cg {r r' : R Fl} (h : RS M K W lk T σ D r) (e : r = r') : RS M K W lk T σ D r' := e ▸ h
theorem RS.bindE {α : Type} {r : R α} {f : α → Sl → R Fl} (h : RS M K W lk T σ D (r.bind f)) : Res M K W T σ (fun a s => RS M K W lk T σ D (f a s)) r := by
  cases r with
  | ok a s => exact h
  | exc c d s => exact h σ .refl
  | bad => exact h
/-- one after another -/
theorem tBl_cons {t : St} {ts : List St} {σ : L2.St} {H : Hp} (h : tBl M K W lk (t :: ts) D σ H) : tSeq (tS M K W lk t) (tBl M K W lk ts) D σ H := by
  obtain ⟨s, T, w, np, hr⟩ := h
  refine ⟨s, T, w, np, ?_⟩
  simp only [evB] at hr
  cases q : evS M.wf M.ft t s with
  | ok fl s1 =>
    rw [q] at hr
    cases fl with
    | nx => exact fun σ' H' g w' => ⟨s1, T, w', np, RS.fr g hr⟩
    | br => exact hr
    | ct => exact hr
    | rt v => exact hr
  | exc c d s1 => rw [q] at hr; exact hr
  | bad => rw [q] at hr; exact hr
end
section
variable {M : SM} {X : Cx} {W : WX} {c : CC} {k : Nat} {pos : Pos}
theorem s_blNil {lk : List Nat} : PSs X [] (tBl M X.K W lk []) := by
  refine ⟨fun pins s σ H D I hw => pss_nil.run pins s σ H D I ?_⟩
  obtain ⟨s', T, w, np, hr⟩ := hw
  exact hr σ H .refl w
theorem s_blCons {lk : List Nat} {t : St} {ts : List St} {a : Stmt} {as : List Stmt} (h1 : PS X a (tS M X.K W lk t)) (h2 : PSs X as (tBl M X.K W lk ts)) : PSs X (a :: as) (tBl M X.K W lk (t :: ts)) :=
  ⟨fun pins s σ H D I hw => (pss_cons h1 h2).run pins s σ H D I (tBl_cons hw)⟩
/-! stores -/
theorem set_k {lk : List Nat} {K : PySem.W.Frag} {i : Nat} {e : E} {D : Ends} {σ : L2.St} {H : Hp} (hp : e.isPk = false) (hi : i ∉ lk) (h : tS M K W lk (.set i e) D σ H) : tE M K W e σ H (fun x H1 => D.nx (σ.set i (some x)) H1) := by
  obtain ⟨s, T, w, np, hr⟩ := h
  simp only [evS] at hr
  refine ⟨s, T, w, .inl np, hr.bindE.imp fun v s1 k x H1 w1 => ?_⟩
  rw [hp] at w1
  exact k _ _ (Fr.set.l (by simpa using hi)) w1.setA
def isComp : Expr → Bool
  | .ListComp _ _ _ _ => true
  | .SetComp _ _ _ _ => true
  | .DictComp _ _ _ _ _ => true
  | _ => false
theorem swaps_no {e : Expr} {t : Option Expr} {l : Nat} {env : Env} (h : isComp e = false) : swapsWith e t l env = pure false := by
  cases e <;> first | rfl | (simp [isComp] at h)
theorem s_set (g : Gd M X c) {i : Nat} {e : E} {x : Str} {a : Expr} {p : Pos} (hs : stB c i x = true) (he : PE X a (tE M X.K W e)) (hp : e.isPk = false) (hc : isComp a = false) : PS X (.Assign [.Name x p] a pos) (tS M X.K W c.lk (.set i e)) := by
  obtain ⟨h1, h2, h3, h4, h5⟩ := st_facts g hs
  exact ⟨fun pins s σ H D I hw => (ps_set h1 h2 h3 he (swaps_no hc) h4).run pins s σ H D I (set_k hp h5 hw)⟩
theorem s_setT (g : Gd M X c) {ts : List Tgt} {e : E} {tg a : Expr} (ht : chkT (.tp ts) c tg = true) (hd : ∀ j ∈ Tgt.slotsAll ts, j ∉ c.lk) (he : PE X a (tE M X.K W e)) (hp : e.isPk = false) (hc : isComp a = false) (hv : vTup a = none) :
    PS X (.Assign [tg] a pos) (tS M X.K W c.lk (.setT ts e)) := by
  have hsw : swappedStores [tg] a X.env = pure none := by
    unfold swappedStores
    cases a <;> first | (cases tg <;> rfl) | (simp [vTup] at hv)
  have h1 : (assignEach [tg] X.env).map (·.2) = [assign tg X.env] := by
    cases tg <;> first | rfl | (simp [chkT] at ht)
  refine ⟨fun pins s σ H D I hw => (ps_asg he (s_tgt g (.tp ts) tg ht) (by show swapsWith _ _ _ _ = _; exact swaps_no hc) hsw h1).run pins s σ H D I ?_⟩
  obtain ⟨s', T, w, np, hr⟩ := hw
  simp only [evS] at hr
  refine ⟨s', T, w, .inl np, (Res.d.mp hr.bindE).imp fun v s1 k x H1 w1 => ?_⟩
  rw [hp] at w1
  have w1 : WI X.K s1 ((.ov v, x) :: T) σ H1 := w1
  cases hb : Tgt.bind (.tp ts) v.toD s1 with
  | none => rw [hb] at k; exact k.elim
  | some s2 =>
    rw [hb] at k
    refine ⟨v.toD, s1, T, w1.settle, s2, hb, fun σ' H' fr w2 => k σ' H' (fr.l ?_) w2⟩
    intro j hj
    exact hd j (by simpa [Tgt.slots] using hj)
/-! flow -/
theorem s_expr {e : E} {a : Expr} (he : PE X a (tE M X.K W e)) (hc : isComp a = false) : PS X (.Expr a pos) (tS M X.K W c.lk (.expr e)) := by
  refine ⟨fun pins s σ H D I hw => (ps_expr he (swaps_no hc)).run pins s σ H D I ?_⟩
  obtain ⟨s', T, w, np, hr⟩ := hw
  simp only [evS] at hr
  exact ⟨s', T, w, .inl np, hr.bindE.imp fun v s1 k x H1 w1 => k σ H1 .refl w1.drop⟩
theorem s_ret {e : E} {a : Expr} (he : PE X a (tE M X.K W e)) (hp : e.isPk = false) : PS X (.Return (some a) pos) (tS M X.K W c.lk (.ret e)) := by
  refine ⟨fun pins s σ H D I hw => (ps_ret he).run pins s σ H D I ?_⟩
  obtain ⟨s', T, w, np, hr⟩ := hw
  simp only [evS] at hr
  refine ⟨s', T, w, .inl np, hr.bindE.imp fun v s1 k x H1 w1 => ?_⟩
  rw [hp] at w1
  exact k x σ H1 .refl w1
theorem s_retn : PS X (.Return none pos) (tS M X.K W c.lk .retn) := by
  refine ⟨fun pins s σ H D I hw => ps_retN.run pins s σ H D I ?_⟩
  obtain ⟨s', T, w, np, hr⟩ := hw
  exact hr _ _ _ .refl (w.scal fun _ => .non)
theorem s_pass : PS X (.Pass pos) (tS M X.K W c.lk .pass) := by
  refine ⟨fun pins s σ H D I hw => ps_pass.run pins s σ H D I ?_⟩
  obtain ⟨s', T, w, np, hr⟩ := hw
  exact hr _ _ .refl w
theorem s_brk : PS X (.Break pos) (tS M X.K W c.lk .brk) := by
  refine ⟨fun pins s σ H D I hw => ps_break.run pins s σ H D I ?_⟩
  obtain ⟨s', T, w, np, hr⟩ := hw
  exact hr _ _ .refl w
theorem s_cont : PS X (.Continue pos) (tS M X.K W c.lk .cont) := by
  refine ⟨fun pins s σ H D I hw => ps_continue.run pins s σ H D I ?_⟩
  obtain ⟨s', T, w, np, hr⟩ := hw
  exact hr _ _ .refl w
theorem s_if {e : E} {a b : List St} {t : Expr} {p q : List Stmt} (ht : PT X t (tT M X.K W e)) (ha : PSs X p (tBl M X.K W c.lk a)) (hb : PSs X q (tBl M X.K W c.lk b)) : PS X (.If t p q pos) (tS M X.K W c.lk (.ifs e a b)) := by
  refine ⟨fun pins s σ H D I hw => (ps_if ht ha hb).run pins s σ H D I ?_⟩
  obtain ⟨s', T, w, np, hr⟩ := hw
  simp only [evS] at hr
  refine ⟨s', T, w, .inl np, hr.bindE.imp fun v s1 k => ?_⟩
  split at k
  · exact ⟨true, rfl, fun H1 w1 => ⟨s1, T, w1, np, k⟩⟩
  · exact ⟨false, rfl, fun H1 w1 => ⟨s1, T, w1, np, k⟩⟩
  · exact k.elim
end
end PV
end
section
set_option Elab.async false
set_option linter.all false
set_option maxRecDepth 100000
set_option maxHeartbeats 4000000
/-! PvV: lists changed in place. -/
namespace PV
open PySem PySem.Spec PyProof.Rows L2
section
variable {K : PySem.W.Frag} {T : List (Hd × V)} {σ : L2.St} {s : Sl} {H : Hp}
theorem zip_set : ∀ {xs : List OV} {zs : List V} {n : Nat} {v : OV} {y : V}, xs.length = zs.length → n < xs.length → ∃ o, (zipH xs zs ++ [(Hd.ov v, y)]).Perm (o :: zipH (xs.set n v) (zs.set n y))
  | [], _, _, _, _, _, h => by cases h
  | _ :: _, [], _, _, _, h, _ => by cases h
  | x :: xs, z :: zs, 0, v, y, _, _ => by
    refine ⟨(.ov x, z), ?_⟩
    show ((Hd.ov x, z) :: (zipH xs zs ++ [(Hd.ov v, y)])).Perm ((Hd.ov x, z) :: (Hd.ov v, y) :: zipH xs zs)
    exact List.Perm.cons _ List.perm_append_comm
  | x :: xs, z :: zs, n + 1, v, y, hl, hn => by
    obtain ⟨o, h⟩ := zip_set (xs := xs) (zs := zs) (n := n) (v := v) (y := y) (by simpa using hl) (by simpa using hn)
    refine ⟨o, ?_⟩
    show ((Hd.ov x, z) :: (zipH xs zs ++ [(Hd.ov v, y)])).Perm (o :: (Hd.ov x, z) :: zipH (xs.set n v) (zs.set n y))
    exact (List.Perm.cons _ h).trans (List.Perm.swap _ _ _)
end
section
variable {M : SM} {X : Cx} {W : WX} {c : CC} {pos : Pos}
/-- behind an append -/
theorem app_done {K : PySem.W.Frag} {T : List (Hd × V)} {σ : L2.St} {s : Sl} {H : Hp} {i : Nat} {xs : List OV} {v : OV} {y : V} (np : noPk T) (w : WI K s ((.ov v, y) :: T) σ H) (h : at_ s i = some (.ol xs)) :
    ∃ p zs, σ[i]? = some (some (.ref p)) ∧ H p = some (.lst zs) ∧ xs.length = zs.length ∧ WI K (s.set i (some (.ol (xs ++ [v])))) T σ (upd H p (.lst (zs ++ [y]))) := by
  obtain ⟨p, zs, hx, hp, hl, w1⟩ := w.slot (T := (.ov v, y) :: T) np h
  refine ⟨p, zs, hx, hp, hl, ?_⟩
  refine WI.unslot (xs := xs ++ [v]) (zs := zs ++ [y]) np (by simp [hl]) hx ?_
  rw [zipH_app hl, List.append_assoc]
  exact w1.write
theorem set_done {K : PySem.W.Frag} {T : List (Hd × V)} {σ : L2.St} {s : Sl} {H : Hp} {i n : Nat} {xs : List OV} {v : OV} {y : V} (np : noPk T) (w : WI K s ((.ov v, y) :: T) σ H) (h : at_ s i = some (.ol xs)) (hn : n < xs.length) :
    ∃ p zs, σ[i]? = some (some (.ref p)) ∧ H p = some (.lst zs) ∧ xs.length = zs.length ∧ WI K (s.set i (some (.ol (xs.set n v)))) T σ (upd H p (.lst (zs.set n y))) := by
  obtain ⟨p, zs, hx, hp, hl, w1⟩ := w.slot (T := (.ov v, y) :: T) np h
  refine ⟨p, zs, hx, hp, hl, ?_⟩
  refine WI.unslot (xs := xs.set n v) (zs := zs.set n y) np (by simp [hl]) hx ?_
  obtain ⟨o, hperm⟩ := zip_set (v := v) (y := y) hl hn
  have w2 : WI K (s.set i none) (o :: ((.raw (.lst zs), .ref p) :: (zipH (xs.set n v) (zs.set n y) ++ T))) σ H := by
    refine w1.perm ?_
    have p1 : (zipH xs zs ++ (Hd.ov v, y) :: T).Perm (o :: (zipH (xs.set n v) (zs.set n y) ++ T)) := by
      have := hperm.append_right T
      simpa using this
    exact (List.Perm.cons _ p1).trans (List.Perm.swap _ _ _)
  exact w2.drop.write
theorem lst_ty {K : PySem.W.Frag} {H : Hp} {p : Addr} {zs : List V} (h : H p = some (.lst zs)) : tyV K "list" (.ref p) H := .inl ⟨rfl, zs, .inl (.inl h)⟩
theorem s_app (g : Gd M X c) {i : Nat} {e : E} {x : Str} {a : Expr} {p1 apos cpos : Pos} (hx : nameB c i x = true) (he : PE X a (tE M X.K W e)) (hp : e.isPk = false) (st : isStar a = false) (hline : (apos.endLine == cpos.line) = true) :
    PS X (.Expr (.Call (.Attribute (.Name x p1) "append" apos) [a] [] cpos) pos) (tS M X.K W c.lk (.app i e)) := by
  have hfew : ((backTo cpos (starEach [a] X.env)).all (fun x => !x.1) && (backToKw cpos (keywordEach [] X.env)).all (fun x => x.1.isSome)
      && decide (([a] : List Expr).length + ([] : List Keyword).length + (if ([] : List Keyword).isEmpty then 0 else 1) < 30)) = true := by
    rw [starEach_no st]
    rfl
  have base := pe_bm (X := X) (T := "list") (id := "list.append") PySem.F.plainAttrs_list PySem.F.slot_list_append (by rfl) mt_append (nm_var (pos := p1) g hx) (pa_cons he pa_nil (starEach_no st)) (base_of rfl) hfew hline (starEach_no st) rfl
  refine ⟨fun pins s σ H D I hw => (ps_expr base (swaps_no rfl)).run pins s σ H D I ?_⟩
  obtain ⟨s', T, w, np, hr⟩ := hw
  simp only [evS] at hr
  cases e0 : at_ s' i with
  | none => rw [e0] at hr; exact hr.elim
  | some ov =>
    rw [e0] at hr
    cases ov with
    | imm d => exact hr.elim
    | ol xs0 =>
      obtain ⟨p, zs, hσ, hH, _, _⟩ := w.slot np e0
      refine ⟨_, hσ, lst_ty hH, s', T, w, .inl np, hr.bindE.imp fun v s1 k y H1 w1 => ?_⟩
      rw [hp] at w1
      have w1 : WI X.K s1 ((.ov v, y) :: T) σ H1 := w1
      cases e1 : at_ s1 i with
      | none => rw [e1] at k; exact k.elim
      | some ov1 =>
        rw [e1] at k
        cases ov1 with
        | imm d => exact k.elim
        | ol xs =>
          simp only at k
          split at k
          · rename_i hz
            obtain ⟨p2, zs2, h1, h2, h3, w2⟩ := app_done np w1 e1
            rw [hσ] at h1
            cases h1
            rw [lim_eq] at hz
            exact ⟨p, zs2, y, rfl, rfl, h2, by omega, k _ _ .refl w2⟩
          · exact k.elim
theorem s_setix (g : Gd M X c) {i : Nat} {kk e : E} {x : Str} {a b : Expr} {p1 p2 : Pos} (hx : nameB c i x = true) (hk : PE X b (tE M X.K W kk)) (he : PE X a (tE M X.K W e)) (hp : e.isPk = false) (hc : isComp a = false) (hs : isSlice b = false) :
    PS X (.Assign [.Subscript (.Name x p1) b p2] a pos) (tS M X.K W c.lk (.setix i kk e)) := by
  have hsw : swappedStores [.Subscript (.Name x p1) b p2] a X.env = pure none := by cases a <;> rfl
  have hass : ∀ v, assign (.Subscript (.Name x p1) b p2) X.env v = (do
      let ov ← holding [v] (eval (.Name x p1) X.env)
      let iv ← holding [v, ov] (eval b X.env)
      standAt p2
      holding [v, ov, iv] (setItem ov iv v)
      release [v, ov, iv] []) := by
    intro v
    cases b <;> first | rfl | (simp [isSlice] at hs)
  have base := ps_asg (pos := pos) he (pg_sub (nm_var (pos := p1) g hx) (tO_of hk) set_list hass) (show swapsWith a (some (.Subscript (.Name x p1) b p2)) pos.line X.env = pure false from swaps_no hc) hsw rfl
  refine ⟨fun pins s σ H D I hw => base.run pins s σ H D I ?_⟩
  obtain ⟨s', T, w, np, hr⟩ := hw
  simp only [evS] at hr
  refine ⟨s', T, w, .inl np, hr.bindE.imp fun v s1 k y H1 w1 => ?_⟩
  rw [hp] at w1
  have w1 : WI X.K s1 ((.ov v, y) :: T) σ H1 := w1
  cases e0 : at_ s1 i with
  | none => rw [e0] at k; exact k.elim
  | some ov =>
    rw [e0] at k
    cases ov with
    | imm d => exact k.elim
    | ol xs0 =>
      obtain ⟨p, zs, hσ, hH, _, _⟩ := w1.slot (T := (.ov v, y) :: T) np e0
      refine ⟨_, hσ, s1, _, w1, .inl np, ((Res.d.mp k.bindE).push _).imp fun u s2 k2 q H2 w2 => ?_⟩
      have dq := (w2.is1 (hd_is kk u)).rd
      have w3 := w2.drop
      cases e1 : u.toD <;> rw [e1] at k2 dq <;> try exact k2.elim
      rename_i j
      cases e2 : at_ s2 i with
      | none => rw [e2] at k2; exact k2.elim
      | some ov1 =>
        rw [e2] at k2
        cases ov1 with
        | imm d => exact k2.elim
        | ol xs =>
          simp only at k2
          cases e3 : L2.ixN xs.length j with
          | none => rw [e3] at k2; exact k2.elim
          | some n =>
            rw [e3] at k2
            obtain ⟨p3, zs2, h1, h2, h3, w4⟩ := set_done (n := n) np w3 e2 (ixN_lt e3)
            rw [hσ] at h1
            cases h1
            exact ⟨p, zs2, j, n, rfl, dq.int', h2, by rw [← h3]; exact e3, k2 _ _ .refl w4⟩
end
end PV
end
section
set_option Elab.async false
set_option linter.all false
set_option maxRecDepth 100000
set_option maxHeartbeats 4000000
/-! PvV2: x += e, x.extend(e), x[k].append(e). -/
namespace PV
open PySem PySem.Spec PyProof.Rows L2
section
variable {M : SM} {X : Cx} {W : WX} {c : CC} {pos : Pos}
theorem s_aug (g : Gd M X c) {i : Nat} {o : O2} {e : E} {x : Str} {a : Expr} {p : Pos} (hs : stB c i x = true) (ho : o = .add ∨ o = .sub) (he : PE X a (tE M X.K W e)) : PS X (.AugAssign (.Name x p) o.op a pos) (tS M X.K W c.lk (.aug i o e)) := by
  obtain ⟨h1, h2, h3, h4, h5⟩ := st_facts g hs
  have key : ∀ (f : Int → Int → Int), PIp X o.op (ipI f) → (∀ D σ H, tS M X.K W c.lk (.aug i o e) D σ H → ∃ s T, WI X.K s T σ H ∧ noPk T ∧ ∃ n, at_ s i = some (.imm (.int n)) ∧ RS M X.K W c.lk T σ D ((evE M.ft e s).d.bind fun y s1 => match y with
      | .int j => .ok .nx (s1.set i (some (.imm (.int (f n j)))))
      | _ => .bad)) → PS X (.AugAssign (.Name x p) o.op a pos) (tS M X.K W c.lk (.aug i o e)) := fun f hop hk => by
    refine ⟨fun pins s σ H D I hw => (ps_aug (pos' := p) (pos := pos) h1 h2 h3 (tO_of he) hop).run pins s σ H D I ?_⟩
    obtain ⟨s', T, w, np, n, e0, hr⟩ := hk D σ H hw
    obtain ⟨v, hσ, w1⟩ := w.pk e0 (d := .int n) rfl
    have dq := w1.rd.int'
    subst dq
    refine ⟨_, hσ, s', T, w, .inl np, (Res.d.mp hr.bindE).imp fun u s1 k y H1 w2 => ?_⟩
    have dq2 := (w2.is1 (hd_is e u)).rd
    cases e1 : u.toD <;> rw [e1] at k dq2 <;> try exact k.elim
    rename_i j
    refine ⟨n, j, rfl, dq2.int', ?_⟩
    refine k _ _ (Fr.set.l (by simpa using h5)) ?_
    exact WI.setA (w2.drop.scal fun _ => .int _)
  rcases ho with rfl | rfl
  · refine key (fun i j => i + j) ip_add fun D σ H hw => ?_
    obtain ⟨s', T, w, np, hr⟩ := hw
    refine ⟨s', T, w, np, ?_⟩
    simp only [evS] at hr
    cases e0 : at_ s' i with
    | none => rw [e0] at hr; exact hr.elim
    | some ov =>
      rw [e0] at hr
      cases ov with
      | ol xs => exact hr.elim
      | imm d =>
        cases d <;> simp only at hr <;> try exact hr.elim
        rename_i n
        refine ⟨n, rfl, ?_⟩
        refine RS.cg hr ?_
        congr 1
        funext y s1
        cases y <;> rfl
  · refine key (fun i j => i - j) ip_sub fun D σ H hw => ?_
    obtain ⟨s', T, w, np, hr⟩ := hw
    refine ⟨s', T, w, np, ?_⟩
    simp only [evS] at hr
    cases e0 : at_ s' i with
    | none => rw [e0] at hr; exact hr.elim
    | some ov =>
      rw [e0] at hr
      cases ov with
      | ol xs => exact hr.elim
      | imm d =>
        cases d <;> simp only at hr <;> try exact hr.elim
        rename_i n
        refine ⟨n, rfl, ?_⟩
        refine RS.cg hr ?_
        congr 1
        funext y s1
        cases y <;> rfl
theorem s_ext (g : Gd M X c) {i : Nat} {e : E} {x : Str} {a : Expr} {p1 apos cpos : Pos} (hx : nameB c i x = true) (he : PE X a (tE M X.K W e)) (hp : e.isPk = false) (st : isStar a = false) (hline : (apos.endLine == cpos.line) = true) :
    PS X (.Expr (.Call (.Attribute (.Name x p1) "extend" apos) [a] [] cpos) pos) (tS M X.K W c.lk (.ext i e)) := by
  have hfew : ((backTo cpos (starEach [a] X.env)).all (fun x => !x.1) && (backToKw cpos (keywordEach [] X.env)).all (fun x => x.1.isSome)
      && decide (([a] : List Expr).length + ([] : List Keyword).length + (if ([] : List Keyword).isEmpty then 0 else 1) < 30)) = true := by
    rw [starEach_no st]
    rfl
  have base := pe_bm (X := X) (T := "list") (id := "list.extend") PySem.F.plainAttrs_list PySem.F.slot_list_extend (by rfl) mt_extend (nm_var (pos := p1) g hx) (pa_cons he pa_nil (starEach_no st)) (base_of rfl) hfew hline (starEach_no st) rfl
  refine ⟨fun pins s σ H D I hw => (ps_expr base (swaps_no rfl)).run pins s σ H D I ?_⟩
  obtain ⟨s', T, w, np, hr⟩ := hw
  simp only [evS] at hr
  cases e0 : at_ s' i with
  | none => rw [e0] at hr; exact hr.elim
  | some ov =>
    rw [e0] at hr
    cases ov with
    | imm d => exact hr.elim
    | ol xs0 =>
      simp only at hr
      obtain ⟨p, zs, hσ, hH, _, _⟩ := w.slot np e0
      refine ⟨_, hσ, lst_ty hH, s', T, w, .inl np, hr.bindE.imp fun v s1 k y H1 w1 => ?_⟩
      rw [hp] at w1
      have w1 : WI X.K s1 ((.ov v, y) :: T) σ H1 := w1
      cases v with
      | imm d => exact k.elim
      | ol ys =>
        cases e1 : at_ s1 i with
        | none => rw [e1] at k; exact k.elim
        | some ov1 =>
          rw [e1] at k
          cases ov1 with
          | imm d => exact k.elim
          | ol xs =>
            simp only at k
            split at k
            · rename_i hz
              obtain ⟨b, ws, rfl, l1, hb, w2⟩ := w1.opn
              have w3 := w2.drop
              obtain ⟨p2, zs2, h1, h2, h3, w4⟩ := WI.slot (T := zipH ys ws ++ T) (np_app (noPk_zip _ _) np) w3 e1
              rw [hσ] at h1
              cases h1
              rw [lim_eq] at hz
              refine ⟨p, b, zs2, ws, rfl, rfl, h2, hb, by omega, k _ _ .refl ?_⟩
              refine WI.unslot (xs := xs ++ ys) (zs := zs2 ++ ws) np (by simp [h3, l1]) hσ ?_
              rw [zipH_app h3, List.append_assoc]
              exact w4.write
            · exact k.elim
theorem s_appk (g : Gd M X c) {i : Nat} {kk e : E} {x : Str} {a b : Expr} {p1 p2 apos cpos : Pos} (hx : nameB c i x = true) (hk : PE X b (tE M X.K W kk)) (hs : isSlice b = false) (he : PE X a (tE M X.K W e)) (hp : e.isPk = false) (st : isStar a = false) (hline : (apos.endLine == cpos.line) = true) :
    PS X (.Expr (.Call (.Attribute (.Subscript (.Name x p1) b p2) "append" apos) [a] [] cpos) pos) (tS M X.K W c.lk (.appk i kk e)) := by
  have hfew : ((backTo cpos (starEach [a] X.env)).all (fun x => !x.1) && (backToKw cpos (keywordEach [] X.env)).all (fun x => x.1.isSome)
      && decide (([a] : List Expr).length + ([] : List Keyword).length + (if ([] : List Keyword).isEmpty then 0 else 1) < 30)) = true := by
    rw [starEach_no st]
    rfl
  have base := pe_bm (X := X) (T := "list") (id := "list.append") PySem.F.plainAttrs_list PySem.F.slot_list_append (by rfl) mt_append (pe_ix (pos := p2) ix_list (nm_var (pos := p1) g hx) (tO_of hk) (plain_ix hs)) (pa_cons he pa_nil (starEach_no st)) (by rfl) hfew hline (starEach_no st) rfl
  refine ⟨fun pins s σ H D I hw => (ps_expr base (swaps_no rfl)).run pins s σ H D I ?_⟩
  obtain ⟨s', T, w, np, hr⟩ := hw
  simp only [evS] at hr
  cases e0 : at_ s' i with
  | none => rw [e0] at hr; exact hr.elim
  | some ov0 =>
    rw [e0] at hr
    cases ov0 with
    | imm d => exact hr.elim
    | ol xs0 =>
      simp only at hr
      obtain ⟨v0, hv0⟩ := w.atS e0
      refine ⟨v0, hv0, s', T, w, .inl np, (Res.d.mp hr.bindE).imp fun v s1 h1 p H1 w1 => ?_⟩
      have dq := (w1.is1 (hd_is kk v)).rd
      have w2 := w1.drop
      cases e1 : v.toD <;> rw [e1] at h1 dq <;> try exact h1.elim
      rename_i j
      cases e2 : at_ s1 i with
      | none => rw [e2] at h1; exact h1.elim
      | some ov =>
        rw [e2] at h1
        cases ov with
        | imm d => exact h1.elim
        | ol xs =>
          simp only at h1
          cases e3 : L2.ixN xs.length j with
          | none => rw [e3] at h1; exact h1.elim
          | some n =>
            rw [e3] at h1
            simp only at h1
            cases e4 : xs[n]? with
            | none => rw [e4] at h1; exact h1.elim
            | some o =>
              rw [e4] at h1
              cases o with
              | imm d => exact h1.elim
              | ol ys =>
                simp only at h1
                obtain ⟨q, zs, r, ws, hσ, hH, hl, hz, hr2, hl2, w3⟩ := w2.slotAt np e2 e4
                rw [hv0] at hσ
                cases hσ
                refine ⟨q, zs, j, .ref r, rfl, dq.int', .inl (.inl hH), ?_, .inl ⟨rfl, ws, .inl (.inl hr2)⟩, ?_⟩
                · unfold L2.atI
                  rw [← hl, e3]
                  exact hz
                · have np3 : noPk ((Hd.raw (HO.lst ws), V.ref r) :: (zipH ys ws ++ ((Hd.raw (HO.lst zs), V.ref q) :: (zipH (xs.eraseIdx n) (zs.eraseIdx n) ++ T)))) := np_app (T := [_]) trivial (np_app (noPk_zip _ _) (np_app (T := [_]) trivial (np_app (noPk_zip _ _) np)))
                  refine ⟨s1.set i none, _, w3, .inl np3, Res.imp (Res.pushs ((Hd.raw (HO.lst ws), V.ref r) :: (zipH ys ws ++ ((Hd.raw (HO.lst zs), V.ref q) :: zipH (xs.eraseIdx n) (zs.eraseIdx n)))) h1.bindE |> fun z => by simpa using z) fun u s2 k y H2 w4 => ?_⟩
                  rw [hp] at w4
                  have w4 : WI X.K s2 ((.ov u, y) :: ((Hd.raw (HO.lst ws), V.ref r) :: (zipH ys ws ++ ((Hd.raw (HO.lst zs), V.ref q) :: (zipH (xs.eraseIdx n) (zs.eraseIdx n) ++ T))))) σ H2 := w4
                  split at k
                  · rename_i hlt
                    rw [lim_eq] at hlt
                    have w5 : WI X.K s2 ((Hd.raw (HO.lst ws), V.ref r) :: ((.ov u, y) :: (zipH ys ws ++ ((Hd.raw (HO.lst zs), V.ref q) :: (zipH (xs.eraseIdx n) (zs.eraseIdx n) ++ T))))) σ H2 := w4.swap
                    refine ⟨r, ws, y, rfl, rfl, w5.rawAt, by omega, k _ _ .refl ?_⟩
                    refine WI.unslotAt (s := s2) (zs := zs) (ws := ws ++ [y]) np hl (ixN_lt e3) hz (by simp [hl2]) hv0 ?_
                    have w6 := w5.clrA (i := i) (some (V.ref q))
                    have e9 : σ.set i (some (V.ref q)) = σ := setSome hv0
                    rw [e9] at w6
                    rw [zipH_app hl2]
                    refine WI.write (o := .lst ws) (w6.perm (List.Perm.cons _ ?_))
                    show ((Hd.ov u, y) :: (zipH ys ws ++ _)).Perm ((zipH ys ws ++ [(Hd.ov u, y)]) ++ _)
                    rw [List.append_assoc]
                    exact List.perm_middle.symm
                  · exact k.elim
theorem s_badS {st : Stmt} {lk : List Nat} : PS X st (tS M X.K W lk .bad) := ⟨fun pins s σ H D I hw => by
  obtain ⟨s', T, w, np, hr⟩ := hw
  simp only [evS] at hr
  exact hr.elim⟩
end
end PV
end
section
set_option Elab.async false
set_option linter.all false
set_option maxRecDepth 100000
set_option maxHeartbeats 4000000
/-! PvW: loops; several names at once. -/
namespace PV
open PySem PySem.Spec PyProof.Rows L2
section
variable {M : SM} {X : Cx} {W : WX} {c : CC} {pos : Pos}
theorem XW.pushs {K : PySem.W.Frag} {s : Sl} {T : List (Hd × V)} {σ : L2.St} {cc : Nat} {d : D} : ∀ (U : List (Hd × V)), XW M K W s T σ cc d → XW M K W s (U ++ T) σ cc d
  | [], h => h
  | u :: U, h => XW.push u (XW.pushs U h)
/-- a loop's body, one turn -/
theorem turn_k {K : PySem.W.Frag} {lk ks : List Nat} {T T' : List (Hd × V)} {σ1 σ2 : L2.St} {D : Ends} {N : L2.St → Hp → Prop} {r : R Fl} {rest : Sl → R Fl} (f12 : FrL lk σ1 σ2)
    (h : RS M K W lk T σ1 D (r.bind fun f s2 => match f with
      | .nx => rest (clear ks s2)
      | .ct => rest (clear ks s2)
      | .br => .ok .nx (clear ks s2)
      | .rt v => .ok (.rt v) s2))
    (hN : ∀ σ3 H3 s2, FrL lk σ1 σ3 → WI K (clear ks s2) (T' ++ T) σ3 H3 → RS M K W lk T σ3 D (rest (clear ks s2)) → N σ3 H3) :
    RS M K W lk (T' ++ T) σ2 { D with nx := N, ct := N, bk := D.nx } r := by
  cases r with
  | bad => exact h
  | exc cc d s => exact fun σ3 f3 => XW.pushs T' (h σ3 (f12.trans f3))
  | ok fl s =>
    cases fl with
    | nx => exact fun σ3 H3 f3 w => hN σ3 H3 s (f12.trans f3) (w.clearA ks) (RS.fr (f12.trans f3) h)
    | ct => exact fun σ3 H3 f3 w => hN σ3 H3 s (f12.trans f3) (w.clearA ks) (RS.fr (f12.trans f3) h)
    | br => exact fun σ3 H3 f3 w => h σ3 H3 (f12.trans f3) (w.drops.clearA ks)
    | rt v =>
      intro x σ3 H3 f3 w
      refine h x σ3 H3 (f12.trans f3) ?_
      have w2 : WI K s (T' ++ ((.ov v, x) :: T)) σ3 H3 := w.perm List.perm_middle.symm
      exact w2.drops
theorem s_for (own : PassesOwn (model X.prog X.w) X.A X.env X.xe) (hc : X.calm = true) {t : Tgt} {k : SK} {es : List E} {body : List St} {ks : List Nat} {tg iter : Expr} {bd : List Stmt} (hi : PI X tg iter (tPI M X.K W k es)) (hpk : ∀ e ∈ es, e.isPk = false)
    (hg : PG X tg (gPK X.K k t)) (hb : PSs X bd (tBl M X.K W c.lk body)) (hd : ∀ j ∈ t.slots, j ∉ c.lk) (hs : ∀ x, foldedSetIterable iter X.env x = pure x) : PS X (.For tg iter bd [] pos) (tS M X.K W c.lk (.for_ t k es body ks)) := by
  refine ⟨fun pins s σ H D I hw => (ps_for own hc hi hg hb hs).run pins s σ H D I ?_⟩
  obtain ⟨s', T, w, np, hr⟩ := hw
  simp only [evS] at hr
  refine ⟨s', T, w, .inl np, hr.bindE.imp fun ds s1 h1 => ?_⟩
  cases hit : srcOf k ds with
  | none => rw [hit] at h1; exact h1.elim
  | some items =>
    rw [hit] at h1
    refine ⟨items, rfl, fun T' J H1 w1 nn iok => ?_⟩
    have nT' := nn hpk
    refine ⟨fun i m σ' H' => m = items.length - i ∧ i ≤ items.length ∧ ∃ s', WI X.K s' (T' ++ T) σ' H' ∧ RS M X.K W c.lk T σ' D (loopF ks (Tgt.bind t) (fun s => evB M.wf M.ft body s) (items.drop i) s'), ⟨items.length, by simp, Nat.zero_le _, s1, w1, h1⟩, ?_⟩
    rintro i m σ2 H2 ⟨rfl, hle, s2, w2, hres⟩
    by_cases hlt : i < items.length
    · have hdr : items.drop i = items[i] :: items.drop (i + 1) := List.drop_eq_getElem_cons hlt
      rw [hdr] at hres
      simp only [loopF] at hres
      cases hbd : Tgt.bind t items[i] s2 with
      | none => rw [hbd] at hres; exact hres.elim
      | some s3 =>
        rw [hbd] at hres
        obtain ⟨go, step⟩ := iok.step i items[i] (List.getElem?_eq_getElem hlt) s2 _ _ H2 w2
        refine .inr ⟨go, fun σ3 H3 => ∃ s', WI X.K s' (T' ++ T) σ3 H3 ∧ RS M X.K W c.lk T σ3 D (loopF ks (Tgt.bind t) (fun s => evB M.wf M.ft body s) (items.drop (i + 1)) s'), fun σ3 H3 h => ⟨items.length - (i + 1), by omega, rfl, hlt, h⟩, fun x H' hy => ?_⟩
        refine gPK_of (step x H' hy) hbd fun σ3 H3 fr w3 => ⟨s3, _, w3, np_app nT' np, ?_⟩
        refine turn_k (ks := ks) (σ1 := σ2) (fr.l hd) (rest := fun s => loopF ks (Tgt.bind t) (fun s => evB M.wf M.ft body s) (items.drop (i + 1)) s) hres fun σ4 H4 s4 f4 w4 h4 => ⟨_, w4, h4⟩
    · have e : i = items.length := by omega
      subst e
      have hdr : items.drop items.length = [] := List.drop_length
      rw [hdr] at hres
      exact .inl ⟨iok.stop s2 _ _ H2 w2, hres σ2 H2 .refl w2.drops⟩
theorem s_while (own : PassesOwn (model X.prog X.w) X.A X.env X.xe) {e : E} {body : List St} {ks : List Nat} {t : Expr} {bd : List Stmt} (ht : PT X t (tT M X.K W e)) (hb : PSs X bd (tBl M X.K W c.lk body)) : PS X (.While t bd [] pos) (tS M X.K W c.lk (.while_ e body ks)) := by
  refine ⟨fun pins s σ H D I hw => (ps_while own ht hb).run pins s σ H D I ?_⟩
  obtain ⟨s', T, w, np, hr⟩ := hw
  simp only [evS] at hr
  refine ⟨fun m σ' H' => ∃ s', WI X.K s' T σ' H' ∧ RS M X.K W c.lk T σ' D (loopW ks (fun s => (evE M.ft e s).bind fun x s1 => match x with
      | .imm (.bool b) => .ok b s1
      | _ => .bad) (fun s => evB M.wf M.ft body s) m s'), ⟨M.wf, s', w, hr⟩, ?_⟩
  rintro m σ2 H2 ⟨s2, w2, hres⟩
  cases m with
  | zero => exact hres.elim
  | succ m =>
    simp only [loopW] at hres
    refine ⟨s2, T, w2, .inl np, (Res.bind.mp hres.bindE).imp fun v s3 h3 => ?_⟩
    split at h3
    · rename_i b
      refine ⟨b, rfl, fun H3 w3 => ?_⟩
      cases b with
      | true =>
        have h3 : RS M X.K W c.lk T σ2 D (R.bind _ _) := h3
        refine ⟨fun σ4 H4 => ∃ s', WI X.K s' T σ4 H4 ∧ RS M X.K W c.lk T σ4 D (loopW ks (fun s => (evE M.ft e s).bind fun x s1 => match x with
          | .imm (.bool b) => .ok b s1
          | _ => .bad) (fun s => evB M.wf M.ft body s) m s'), fun σ4 H4 h => ⟨m, Nat.lt_succ_self m, h⟩, s3, T, w3, np, ?_⟩
        exact turn_k (ks := ks) (T' := []) (σ1 := σ2) (FrL.refl) (rest := fun s => loopW ks (fun s => (evE M.ft e s).bind fun x s1 => match x with
          | .imm (.bool b) => .ok b s1
          | _ => .bad) (fun s => evB M.wf M.ft body s) m s) h3 fun σ4 H4 s4 f4 w4 h4 => ⟨_, w4, h4⟩
      | false =>
        exact h3 σ2 H3 .refl w3
    · exact h3.elim
end
end PV
end
section
set_option Elab.async false
set_option linter.all false
set_option maxRecDepth 100000
set_option maxHeartbeats 4000000
/-! PvX: a comprehension stored; several names at once. -/
namespace PV
open PySem PySem.Spec PyProof.Rows L2
section
variable {M : SM} {X : Cx} {W : WX} {c : CC} {k : Nat} {pos : Pos}
theorem s_setComp (ev : Ev M X W c k) {i : Nat} {x : Str} {p : Pos} {a : Expr} {t : Tgt} {kk : SK} {es cs : List E} {e : E} (hs : stB c i x = true) (h0 : chkE M.C (.comp t kk es cs e) c a = true) :
    PS X (.Assign [.Name x p] a pos) (tS M X.K W c.lk (.set i (.comp t kk es cs e))) := by
  obtain ⟨h1', h2', h3', h4', h5'⟩ := st_facts ev.gd hs
  have pe := (sE (.comp t kk es cs e) ev h0).1
  obtain ⟨⟨elt, tg, iter, ifs, scope⟩, hx, h⟩ := seen_of (show seen (vComp a) _ = true from h0)
  clear h0
  obtain ⟨p2, rfl⟩ := vComp_of hx
  by_cases hsw : (X.env.blockKind == .function && X.env.kindOf x == some .local && p.line == p2.line && !(scope.names.any fun (n, k) => n == x && (k == .local || k == .cell))) = true
  · have hsw2 : swapsWith (.ListComp elt [⟨tg, iter, ifs, 0⟩] scope p2) (some (.Name x p)) pos.line X.env = pure true := by
      show (pure (X.env.blockKind == .function && X.env.kindOf x == some .local && p.line == p2.line && !(scope.names.any fun (n, k) => n == x && (k == .local || k == .cell))) : Sem Bool) = pure true
      rw [hsw]
    have hloc : X.env.scope.names.lookup x = some .local := by
      simp only [Bool.and_eq_true, beq_iff_eq] at hsw
      exact hsw.1.1.2
    simp only [Bool.and_eq_true, Bool.not_eq_true'] at h
    obtain ⟨⟨⟨⟨⟨⟨⟨⟨⟨h1, h2⟩, h3⟩, h4⟩, h5⟩, h6⟩, h7⟩, h8⟩, h9⟩, h10⟩ := h
    have q := sOs es ev h2
    have pi := s_src ev (t := t) h1 q.2.2.1 q.1 q.2.1 (fun hk e he => by
      subst hk
      exact q.2.2.2 iter rfl e he) q.2.2.2
    have ok : BlkOk X.N X.env.scope scope (c.own t) := blkOk_by (by rw [ev.gd.N, ev.gd.sc]; exact h9)
    have hpk : (∀ e ∈ es, e.isPk = false) ∨ (E.quietA cs && e.quiet) = true := by
      rcases Bool.or_eq_true_iff.mp h3 with z | z
      · refine .inl fun e he => ?_
        simpa using List.all_eq_true.mp z e he
      · exact .inr z
    have base := ps_setLc (g := gPK X.K kk t) (tt := tAl M X.K WF cs) (te := tE M X.K WF e) (pos := p2) (spos := pos) (py := p) ev.gd.calm h1' h2' hloc hsw2 pi ok
      (fun s H C cl fp => s_tgtK (ev.blk s H scope cl C fp).gd h4 h5)
      (fun s H C cl fp => sCs cs (ev.blk s H scope cl C fp) h6)
      (fun s H C cl fp => (sE e (ev.blk s H scope cl C fp) h7).1) (fold_no h10)
    rw [own_slots] at base
    exact ⟨fun pins s σ H D I hw => base.run pins s σ H D I (comp_k hpk h8 (set_k rfl h5' hw))⟩
  · have hsw2 : swapsWith (.ListComp elt [⟨tg, iter, ifs, 0⟩] scope p2) (some (.Name x p)) pos.line X.env = pure false := by
      show (pure (X.env.blockKind == .function && X.env.kindOf x == some .local && p.line == p2.line && !(scope.names.any fun (n, k) => n == x && (k == .local || k == .cell))) : Sem Bool) = pure false
      simp only [Bool.not_eq_true] at hsw
      rw [hsw]
    exact ⟨fun pins s σ H D I hw => (ps_set h1' h2' h3' pe hsw2 h4').run pins s σ H D I (set_k rfl h5' hw)⟩
end
/-! ### several names at once -/
def setS : List Nat → List V → L2.St → L2.St
  | i :: is, x :: xs, σ => setS is xs (σ.set i (some x))
  | _, _, σ => σ
section
variable {K : PySem.W.Frag} {T : List (Hd × V)}
theorem setAll_ok : ∀ {is : List Nat} {vs : List OV} {xs : List V} {s s2 : Sl} {σ : L2.St} {H : Hp}, setAll is vs s = some s2 → vs.length = xs.length → WI K s (zipH vs xs ++ T) σ H → WI K s2 T (setS is xs σ) H
  | [], [], [], s, s2, σ, H, h, _, w => by
    rw [setAll] at h
    cases h
    exact w
  | [], [], _ :: _, _, _, _, _, _, h, _ => by cases h
  | i :: is, v :: vs, x :: xs, s, s2, σ, H, h, hl, w => by
    rw [setAll] at h
    have w1 : WI K s ((.ov v, x) :: (zipH vs xs ++ T)) σ H := w
    exact setAll_ok (is := is) h (by simpa using hl) w1.setA
  | _ :: _, _ :: _, [], _, _, _, _, _, h, _ => by cases h
  | [], _ :: _, _, _, _, _, _, h, _, _ => by simp [setAll] at h
  | _ :: _, [], _, _, _, _, _, h, _, _ => by simp [setAll] at h
theorem setAll_len : ∀ {is : List Nat} {vs : List OV} {s s2 : Sl}, setAll is vs s = some s2 → is.length = vs.length
  | [], [], _, _, _ => rfl
  | i :: is, v :: vs, s, s2, h => by
    rw [setAll] at h
    rw [List.length_cons, List.length_cons, setAll_len h]
  | [], _ :: _, _, _, h => by simp [setAll] at h
  | _ :: _, [], _, _, h => by simp [setAll] at h
theorem setS_fr : ∀ {is : List Nat} {xs : List V} {σ : L2.St}, Fr is σ (setS is xs σ)
  | [], _, _ => Fr.refl
  | _ :: _, [], _ => Fr.refl
  | i :: is, x :: xs, σ => by
    have h1 : Fr [i] σ (σ.set i (some x)) := Fr.set
    have h2 := setS_fr (is := is) (xs := xs) (σ := σ.set i (some x))
    refine (h1.mono fun j hj => ?_).trans (h2.mono fun j hj => ?_)
    · simp at hj; simp [hj]
    · simp [hj]
end
/-- stores from the right, or from the left -/
def swC (sc : Scope) (ts vs : List Expr) : Bool := !(ts.length == 2 || ts.length == 3) || vs.length != ts.length || (if sc.kind.isAnnotationScope then ScopeKind.function else sc.kind) != .function
def swN (sc : Scope) (ts : List Expr) : List Str := ts.filterMap fun
  | .Name id pos => if sc.names.lookup id == some .local && pos.line == (ts.head?.map (·.pos.line)).getD 0 then some id else none
  | _ => none
def swapP (sc : Scope) (ts vs : List Expr) : Option (Option (List Str)) :=
  if swC sc ts vs then some none
  else if vs.any isStar then some none
  else if (swN sc ts).length != ts.length || (swN sc ts).eraseDups.length != (swN sc ts).length then some none
  else if vs.all (foldedForSure 8) then some none
  else if vs.all (constantsAlone 8) then none
  else some (some (swN sc ts))
theorem any_star (vs : List Expr) : (vs.any fun | .Starred .. => true | _ => false) = vs.any isStar := rfl
theorem swap_eq {env : Env} {ts vs : List Expr} {k k2} {p p2 : Pos} {r : Option (List Str)} (h : swapP env.scope ts vs = some r) : swappedStores [.Tuple ts k p] (.Tuple vs k2 p2) env = pure r := by
  have e : swappedStores [.Tuple ts k p] (.Tuple vs k2 p2) env = (if swC env.scope ts vs = true then pure none else if vs.any isStar = true then pure none else
      if ((swN env.scope ts).length != ts.length || (swN env.scope ts).eraseDups.length != (swN env.scope ts).length) = true then pure none else if vs.all (foldedForSure 8) = true then pure none else
      if vs.all (constantsAlone 8) = true then (do let _ : Unit ← unsupported "assign.tuple-of-constant-expressions:order-of-the-stores"; pure (some (swN env.scope ts))) else pure (some (swN env.scope ts))) := rfl
  rw [e]
  unfold swapP at h
  by_cases h1 : swC env.scope ts vs = true
  · rw [if_pos h1] at h ⊢
    cases h
    rfl
  rw [if_neg h1] at h ⊢
  by_cases h2 : vs.any isStar = true
  · rw [if_pos h2] at h ⊢
    cases h
    rfl
  rw [if_neg h2] at h ⊢
  by_cases h3 : ((swN env.scope ts).length != ts.length || (swN env.scope ts).eraseDups.length != (swN env.scope ts).length) = true
  · rw [if_pos h3] at h ⊢
    cases h
    rfl
  rw [if_neg h3] at h ⊢
  by_cases h4 : vs.all (foldedForSure 8) = true
  · rw [if_pos h4] at h ⊢
    cases h
    rfl
  rw [if_neg h4] at h ⊢
  by_cases h5 : vs.all (constantsAlone 8) = true
  · rw [if_pos h5] at h
    cases h
  · rw [if_neg h5] at h ⊢
    cases h
    rfl
def parB (c : CC) : List Nat → List Expr → Bool
  | [], [] => true
  | i :: is, .Name x _ :: ts => stB c i x && parB c is ts
  | _, _ => false
def nmsOf : List Expr → List Str
  | .Name x _ :: ts => x :: nmsOf ts
  | _ => []
def parC (c : CC) (ts vs : List Expr) : Bool := match swapP c.sc ts vs with
  | none => false
  | some none => true
  | some (some ns) => decide (ns = nmsOf ts) && decide (ts.length = 2 ∨ ts.length = 3) && ns.all fun x => decide (c.sc.names.lookup x = some .local)
section
variable {M : SM} {X : Cx} {W : WX} {c : CC} {k : Nat} {pos : Pos}
theorem parB_len : ∀ {is : List Nat} {ts : List Expr}, parB c is ts = true → is.length = ts.length ∧ ∀ j ∈ is, j ∉ c.lk
  | [], [], _ => ⟨rfl, fun j h => by cases h⟩
  | [], _ :: _, h => by simp [parB] at h
  | _ :: _, [], h => by simp [parB] at h
  | i :: is, t :: ts, h => by
    cases t <;> simp only [parB, Bool.and_eq_true, Bool.false_eq_true] at h
    obtain ⟨h1, h2⟩ := h
    obtain ⟨l, n⟩ := parB_len h2
    refine ⟨by rw [List.length_cons, List.length_cons, l], fun j hj => ?_⟩
    rcases List.mem_cons.mp hj with rfl | hj
    · simp only [stB, Bool.and_eq_true, Bool.not_eq_true'] at h1
      simpa using h1.2
    · exact n j hj
theorem parB_cons {i : Nat} {is : List Nat} {t : Expr} {ts : List Expr} (h : parB c (i :: is) (t :: ts) = true) : ∃ x p, t = .Name x p ∧ stB c i x = true ∧ parB c is ts = true := by
  cases t <;> simp only [parB, Bool.and_eq_true, Bool.false_eq_true] at h
  exact ⟨_, _, rfl, h⟩
def gNms (is : List Nat) : TGs := fun xs σ H Q => xs.length = is.length ∧ Q (setS is xs σ) H
theorem s_gNms (g : Gd M X c) : ∀ {is : List Nat} {ts : List Expr}, parB c is ts = true → PGs X ts (gNms is)
  | [], [], _ => by
    refine ⟨fun pins s σ H vs us Q I r hw => pgs_nil.run pins s σ H vs us Q I r ?_⟩
    obtain ⟨h1, h2⟩ := hw
    have : vs = [] := List.length_eq_zero_iff.mp h1
    subst this
    exact ⟨rfl, h2⟩
  | [], _ :: _, h => by simp [parB] at h
  | _ :: _, [], h => by simp [parB] at h
  | i :: is, t :: ts, h => by
    cases t <;> simp only [parB, Bool.and_eq_true, Bool.false_eq_true] at h
    obtain ⟨h1, h2⟩ := h
    obtain ⟨f1, f2, f3, f4, _⟩ := st_facts g h1
    refine ⟨fun pins s σ H vs us Q I r hw => (pgs_cons (pg_name f1 f2 f3 f4) (s_gNms g h2) rfl).run pins s σ H vs us Q I r ?_⟩
    obtain ⟨h1, h2⟩ := hw
    cases vs with
    | nil => cases h1
    | cons v vs => exact ⟨v, vs, rfl, by simpa using h1, h2⟩
theorem par_asg {env : Env} : ∀ {is : List Nat} {ts : List Expr}, parB c is ts = true → (assignEach ts env).length = ts.length ∧ (assignEach ts env).findIdx? (·.1) = none
  | [], [], _ => ⟨rfl, rfl⟩
  | [], _ :: _, h => by simp [parB] at h
  | _ :: _, [], h => by simp [parB] at h
  | i :: is, t :: ts, h => by
    cases t <;> simp only [parB, Bool.and_eq_true, Bool.false_eq_true] at h
    rename_i x p
    obtain ⟨h1, h2⟩ := par_asg (env := env) h.2
    have k : assignEach (.Name x p :: ts) env = (false, assign (.Name x p) env) :: assignEach ts env := rfl
    refine ⟨by rw [k, List.length_cons, List.length_cons, h1], ?_⟩
    rw [k, List.findIdx?_cons]
    simp [h2]
theorem par_k {K : PySem.W.Frag} {lk is : List Nat} {es : List E} {D : Ends} {σ : L2.St} {H : Hp} (hl : is.length = es.length) (hi : ∀ j ∈ is, j ∉ lk) (h : tS M K W lk (.par is es) D σ H) :
    tEs M K W es σ H (fun xs H1 => ∃ s1 T vs, vs.length = xs.length ∧ xs.length = is.length ∧ WI K s1 (zipH vs xs ++ T) σ H1 ∧ ∀ H2, WI K s1 (zipH vs xs ++ T) σ H2 → D.nx (setS is xs σ) H2) := by
  obtain ⟨s, T, w, np, hr⟩ := h
  simp only [evS] at hr
  refine ⟨s, T, w, .inl np, hr.bindE.imp fun vs s1 k xs H1 l1 l2 w1 => ⟨s1, T, vs, by omega, by omega, w1, fun H2 w2 => ?_⟩⟩
  cases q : setAll is vs s1 with
  | none => rw [q] at k; exact k.elim
  | some s2 =>
    rw [q] at k
    exact k _ _ (setS_fr.l hi) (setAll_ok q (by omega) w2)
theorem tEs_imp {K : PySem.W.Frag} {es : List E} {σ : L2.St} {H : Hp} {Q Q' : List V → Hp → Prop} (h : tEs M K W es σ H Q) (k : ∀ xs H, Q xs H → Q' xs H) : tEs M K W es σ H Q' := by
  obtain ⟨s, T, w, np, hr⟩ := h
  exact ⟨s, T, w, np, hr.imp fun vs s1 h1 xs H1 l1 l2 w1 => k _ _ (h1 xs H1 l1 l2 w1)⟩
theorem s_par (g : Gd M X c) {is : List Nat} {es : List E} {ts vs : List Expr} {kt kv} {pt pv : Pos} (hp : parB c is ts = true) (hc : parC c ts vs = true) (hn : is.Nodup) (hl : vs.length = es.length) (hlt : ts.length = vs.length) (h1000 : es.length ≤ 1000) (ha : PA X vs (tEs M X.K W es)) :
    PS X (.Assign [.Tuple ts kt pt] (.Tuple vs kv pv) pos) (tS M X.K W c.lk (.par is es)) := by
  obtain ⟨lis, nlk⟩ := parB_len hp
  have hsw : swapsWithSole [.Tuple ts kt pt] (.Tuple vs kv pv) pos.line X.env = pure false := rfl
  unfold parC at hc
  cases q : swapP c.sc ts vs with
  | none => rw [q] at hc; cases hc
  | some r =>
    rw [q] at hc
    have q' : swapP X.env.scope ts vs = some r := by rw [g.sc]; exact q
    cases r with
    | none =>
      obtain ⟨a1, a2⟩ := par_asg (env := X.env) hp
      have base := ps_asg (pos := pos) (pe_tup (x1 := kv) (pos := pv) ha) (pg_tup (k := kt) (pos := pt) g.calm (s_gNms g hp) a1 a2) hsw (swap_eq q') rfl
      refine ⟨fun pins s σ H D I hw => base.run pins s σ H D I ?_⟩
      refine tEs_imp (par_k (by omega) nlk hw) fun xs H1 ⟨s1, T, ovs, l1, l2, w1, kk⟩ => ⟨by have := k1000; omega, fun p hpn => ?_⟩
      exact ⟨p, xs, rfl, .inl (.inl upd_same), by omega, l2, kk _ (w1.newRaw (o := .tup xs) hpn).drop⟩
    | some ns =>
      have hc : (decide (ns = nmsOf ts) && decide (ts.length = 2 ∨ ts.length = 3) && ns.all fun x => decide (c.sc.names.lookup x = some .local)) = true := hc
      simp only [Bool.and_eq_true, decide_eq_true_eq] at hc
      obtain ⟨⟨rfl, h23⟩, hall⟩ := hc
      rcases h23 with h2 | h3
      · match ts, is, vs, h2, lis, hlt, hp, q', hall, hn, ha with
        | [t1, t2], [i, j], [a, b], _, _, _, hp, q', hall, hn, ha =>
          obtain ⟨x, px, rfl, hp1, hp⟩ := parB_cons hp
          obtain ⟨y, py, rfl, hp2, _⟩ := parB_cons hp
          obtain ⟨f1, f2, f3, f4, _⟩ := st_facts g hp1
          obtain ⟨_, f2', _, _, _⟩ := st_facts g hp2
          have hall2 : c.sc.names.lookup x = some .local ∧ c.sc.names.lookup y = some .local := by simpa [nmsOf] using hall
          have base := ps_par (pos := pos) (px := px) (py := py) (pt := pt) (kt := kt) (k2 := kv) (pt2 := pv) g.calm f1 f2 f2' (by simp at hn; exact hn) (by rw [g.sc]; exact hall2.1) (by rw [g.sc]; exact hall2.2) ha (swap_eq q') hsw
          refine ⟨fun pins s σ H D I hw => base.run pins s σ H D I ?_⟩
          refine tEs_imp (par_k (by simp at hl; simp; omega) nlk hw) fun xs H1 ⟨s1, T, ovs, l1, l2, w1, kk⟩ => ?_
          match xs, l2, w1, kk with
          | [v, w], _, w1, kk => exact ⟨v, w, rfl, kk _ w1⟩
      · match ts, is, vs, h3, lis, hlt, hp, q', hall, hn, ha with
        | [t1, t2, t3], [i, j, l], [a, b, d], _, _, _, hp, q', hall, hn, ha =>
          obtain ⟨x, px, rfl, hp1, hp⟩ := parB_cons hp
          obtain ⟨y, py, rfl, hp2, hp⟩ := parB_cons hp
          obtain ⟨z, pz, rfl, hp3, _⟩ := parB_cons hp
          obtain ⟨f1, f2, f3, f4, _⟩ := st_facts g hp1
          obtain ⟨_, f2', _, _, _⟩ := st_facts g hp2
          obtain ⟨_, f2'', _, _, _⟩ := st_facts g hp3
          have hall2 : c.sc.names.lookup x = some .local ∧ c.sc.names.lookup y = some .local ∧ c.sc.names.lookup z = some .local := by simpa [nmsOf] using hall
          have hn2 : (i ≠ j ∧ i ≠ l) ∧ j ≠ l := by simpa using hn
          have base := ps_par3 (pos := pos) (px := px) (py := py) (pz := pz) (pt := pt) (kt := kt) (k2 := kv) (pt2 := pv) g.calm f1 f2 f2' f2'' hn2.1.1 hn2.1.2 hn2.2 (by rw [g.sc]; exact hall2.1) (by rw [g.sc]; exact hall2.2.1) (by rw [g.sc]; exact hall2.2.2) ha (swap_eq q') hsw
          refine ⟨fun pins s σ H D I hw => base.run pins s σ H D I ?_⟩
          refine tEs_imp (par_k (by simp at hl; simp; omega) nlk hw) fun xs H1 ⟨s1, T, ovs, l1, l2, w1, kk⟩ => ?_
          match xs, l2, w1, kk with
          | [v, w, u], _, w1, kk => exact ⟨v, w, u, rfl, kk _ w1⟩
end
end PV
end
section
set_option Elab.async false
set_option linter.all false
set_option maxRecDepth 100000
set_option maxHeartbeats 4000000
/-! PvX2: raise. -/
namespace PV
open PySem PySem.Spec PyProof.Rows L2
section
variable {M : SM} {X : Cx} {W : WX} {c : CC} {k : Nat} {pos : Pos}
theorem s_raise (ev : Ev M X W c k) (er : Ers M X) {cc : Nat} {e : E} {a : Expr} {nm fl : Str} {p p2 : Pos} (hc : M.C.cls[cc]? = some (nm, fl)) (hf : Rs fl) (hn : fl ≠ "-") (hg : glB c nm = true) (he : PE X a (tE M X.K W e)) (hp : e.isPk = false) (st : isStar a = false) :
    PS X (.Raise (some (.Call (.Name nm p) [a] [] p2)) none pos) (tS M X.K W c.lk (.raise cc e)) := by
  have T := er.mkr cc nm fl hc hf hn
  obtain ⟨h1, h2, h3⟩ := gl_of ev.gd hg
  have base := ps_raise (pos := pos) ev.gd.calm ev.tk (pmk_er (p := p) (pos := p2) T ev.rm (pa_cons he pa_nil (starEach_no st)) h1 h2 st)
  refine ⟨fun pins s σ H D I hw => base.run pins s σ H D I ?_⟩
  obtain ⟨s', T', w, np, hr⟩ := hw
  simp only [evS] at hr
  refine ⟨s', T', w, .inl np, hr.bindE.imp fun v s1 kk x H1 w1 => ⟨x, rfl, fun d hd => ?_⟩⟩
  rw [hp] at w1
  have w1 : WI X.K s1 ((.ov v, x) :: T') σ H1 := w1
  obtain ⟨e1, e2⟩ := XH_f (d := v.toD) (x := x) (dx := d) hc hn
  have q := kk σ .refl x d (upd H1 d (.xd [(fl, x)]))
  rw [e1, e2] at q
  exact q ((w1.settle.newRaw hd).swap)
theorem s_raise0 (ev : Ev M X W c k) (er : Ers M X) {cc : Nat} {nm : Str} {p p2 : Pos} (hc : M.C.cls[cc]? = some (nm, ("-" : Str))) (hg : glB c nm = true) :
    PS X (.Raise (some (.Call (.Name nm p) [] [] p2)) none pos) (tS M X.K W c.lk (.raise cc (.lit .none))) := by
  have T := er.mkn cc nm hc
  obtain ⟨h1, h2, h3⟩ := gl_of ev.gd hg
  have base := ps_raise (pos := pos) ev.gd.calm ev.tk (pmk_en (p := p) (pos := p2) T ev.rm h1 h2)
  refine ⟨fun pins s σ H D I hw => base.run pins s σ H D I ?_⟩
  obtain ⟨s', T', w, np, hr⟩ := hw
  simp only [evS, evE, R.bind] at hr
  obtain ⟨e1, e2⟩ := XH_n (d := (OV.imm .none).toD) (x := .non) (dx := M.ca cc) hc
  have q := hr σ .refl .non (M.ca cc) H
  rw [e1, e2] at q
  exact q w
end
end PV
end
section
set_option Elab.async false
set_option linter.all false
set_option maxRecDepth 100000
set_option maxHeartbeats 4000000
/-! PwA: what except clauses do. -/
namespace PV
open PySem PySem.Spec PyProof.Rows L2
section
variable (F : Str)
mutual
def chkHE : HE → CC → Option Nat → Expr → Bool
  | .lit d, _, _, x => seen (vConst x) fun k => scB d k
  | .fld, c, i, x => seen (vFld x) fun (n, f) => decide (f = F) && (!decide (F = "-") && seen i fun i => nameB c i n)
  | .var j, c, i, x => seen (vName x) fun n => nameB c j n && decide (i ≠ some j)
  | .tup es, c, i, x => seen (vTup x) fun as => decide (es.length ≤ 1000) && chkHEs es c i as
def chkHEs : List HE → CC → Option Nat → List Expr → Bool
  | [], _, _, as => as.isEmpty
  | e :: es, c, i, as => (match as with
    | a :: as => chkHE e c i a && !isStar a && chkHEs es c i as
    | [] => false)
end
end
def tHe (M : SM) (c0 : Nat) (K : PySem.W.Frag) (i : Option Nat) (a : Addr) (d : Option Addr) (e : HE) : TE := fun σ H Q => ∃ s T f x dx, WI K s (XH M c0 f x dx ++ T) σ H ∧ (∀ j, i = some j → j < σ.length → σ[j]? = some (some (.ref a))) ∧ d = XD M c0 dx ∧
  ∃ r, e.ev f s = some r ∧ ∀ y H', WI K s ((.ov (.imm r), y) :: (XH M c0 f x dx ++ T)) σ H' → Q y H'
def tHes (M : SM) (c0 : Nat) (K : PySem.W.Frag) (i : Option Nat) (a : Addr) (d : Option Addr) (es : List HE) : TA := fun σ H Q => ∃ s T f x dx, WI K s (XH M c0 f x dx ++ T) σ H ∧ (∀ j, i = some j → j < σ.length → σ[j]? = some (some (.ref a))) ∧ d = XD M c0 dx ∧
  ∃ rs, HE.evs es f s = some rs ∧ ∀ ys H', ys.length = es.length → rs.length = es.length → WI K s (zipH (rs.map .imm) ys ++ (XH M c0 f x dx ++ T)) σ H' → Q ys H'
section
variable {M : SM} {X : Cx} {c : CC} {nm F F' : Str} {c0 : Nat} {a : Addr} {oe : Obj} {cls : Value} {d : Option Addr} {pn : List (Addr × Obj)} {i : Option Nat}
theorem suite_var (hN : X.N = c.N) (hsc : X.env.scope = c.sc) {j : Nat} {x : Str} {pos : Pos} (h : nameB c j x = true) : PE (X.suite a ((a, oe) :: pn)) (.Name x pos) (tVar j) := by
  simp only [nameB, Bool.and_eq_true, decide_eq_true_eq, Bool.not_eq_true'] at h
  exact pe_var (X := X.suite a ((a, oe) :: pn)) (show X.N[j]? = some x by rw [hN]; exact h.1.1.1) (show Vis X.env.scope x by rw [hsc]; exact vis_of h.1.1.2) h.1.2 h.2
mutual
theorem he_ok (hN : X.N = c.N) (hsc : X.env.scope = c.sc) (er : Ers M X) (hc0 : M.C.cls[c0]? = some (nm, F)) (hF : Rs F) (hFl : F = F' ∨ F' = "-") (hcls : cls = .ref (M.ca c0)) (hz : Zc cls d oe) (hf : ∃ vs, oe.data = .fields vs) :
    ∀ (e : HE) (ast : Expr), chkHE F' e c i ast = true → PE (X.suite a ((a, oe) :: pn)) ast (tHe M c0 X.K i a d e)
  | .lit v, ast, h0 => by
    obtain ⟨k, hx, h⟩ := seen_of (show seen (vConst ast) _ = true from h0)
    obtain ⟨n, p, rfl⟩ := vConst_of hx
    have go : ∀ (x : V) (_ : ∀ H, Dq X.K H x v), PE (X.suite a ((a, oe) :: pn)) (.Constant k n p) (tC x) → PE (X.suite a ((a, oe) :: pn)) (.Constant k n p) (tHe M c0 X.K i a d (.lit v)) := fun x hx hp => by
      refine ⟨fun pins s σ H Q I hw => hp.run pins s σ H Q I ?_⟩
      obtain ⟨s', T', f, y, dx, w, ha, hd, r, hr, q⟩ := hw
      simp only [HE.ev] at hr
      cases hr
      exact q x H (w.scal hx)
    cases v <;> cases k <;> simp only [scB, beq_iff_eq, decide_eq_true_eq] at h <;> try contradiction
    · exact go .non (fun _ => .non) pe_non
    · subst h; exact go (.bl _) (fun _ => .bl _) pe_bl
    · subst h; exact go (.int _) (fun _ => .int _) pe_int
    · subst h; exact go (.str _) (fun _ => .str _) pe_str
  | .fld, ast, h0 => by
    obtain ⟨⟨n, f⟩, hx, h⟩ := seen_of (show seen (vFld ast) _ = true from h0)
    obtain ⟨p, p2, rfl⟩ := vFld_of hx
    simp only [Bool.and_eq_true, decide_eq_true_eq, Bool.not_eq_true', decide_eq_false_iff_not] at h
    obtain ⟨rfl, hnF, hi0⟩ := h
    obtain ⟨j, rfl, h⟩ := seen_of hi0
    clear hi0
    have hFF : F = f := hFl.resolve_right hnF
    subst hFF
    obtain ⟨x1, x2⟩ := XH_f (M := M) (d := .none) (x := .non) (dx := M.ca c0) hc0 hnF
    have base := pe_xf (X := X) (pn := pn) (pos := p2) (n := F) (er.xf hc0 hF) (er.mkr c0 nm F hc0 hF hnF).noN hz hf (suite_var (a := a) (oe := oe) (pn := pn) (pos := p) hN hsc h) rfl
    refine ⟨fun pins s σ H Q I hw => base.run pins s σ H Q I ?_⟩
    obtain ⟨s', T', f, y, dx, w, ha, hd, r, hr, q⟩ := hw
    simp only [HE.ev] at hr
    cases hr
    have hj : X.N[j]? = some n := by
      simp only [nameB, Bool.and_eq_true, decide_eq_true_eq] at h
      rw [hN]
      exact h.1.1.1
    have hlt : j < σ.length := by
      have := (List.getElem?_eq_some_iff.mp hj).1
      have e : σ.length = X.N.length := I.len
      omega
    obtain ⟨y1, y2⟩ := XH_f (M := M) (d := f) (x := y) (dx := dx) hc0 hnF
    rw [y1] at w q
    rw [y2] at hd
    have w : WI X.K s' ((.ov (.imm f), y) :: (.raw (.xd [(F, y)]), .ref dx) :: T') σ H := w
    exact ⟨_, ha j rfl hlt, rfl, hcls, dx, _, y, hd, w.swap.rawAt, by simp [List.lookup], q y H w.dup⟩
  | .var j, ast, h0 => by
    obtain ⟨n, hx, h⟩ := seen_of (show seen (vName ast) _ = true from h0)
    obtain ⟨p, rfl⟩ := vName_of hx
    simp only [Bool.and_eq_true, decide_eq_true_eq] at h
    refine ⟨fun pins s σ H Q I hw => (suite_var (a := a) (oe := oe) (pn := pn) (pos := p) hN hsc h.1).run pins s σ H Q I ?_⟩
    obtain ⟨s', T', f, y, dx, w, ha, hd, r, hr, q⟩ := hw
    simp only [HE.ev] at hr
    split at hr
    · rename_i v hv
      cases hr
      obtain ⟨z, hz', w2⟩ := w.var hv
      refine ⟨z, hz', q z H ?_⟩
      have e : s'.set j (some (.imm (OV.imm r).toD)) = s' := by
        refine setSome ?_
        unfold at_ at hv
        cases e : s'[j]? with
        | none => rw [e] at hv; cases hv
        | some o => rw [e] at hv; simpa [OV.toD] using hv
      rw [e] at w2
      exact w2
    · cases hr
  | .tup es, ast, h0 => by
    obtain ⟨as, hx, h⟩ := seen_of (show seen (vTup ast) _ = true from h0)
    obtain ⟨k, p, rfl⟩ := vTup_of hx
    simp only [Bool.and_eq_true, decide_eq_true_eq] at h
    refine ⟨fun pins s σ H Q I hw => (pe_tupO (hes_ok hN hsc er hc0 hF hFl hcls hz hf es as h.2)).run pins s σ H Q I ?_⟩
    obtain ⟨s', T', f, y, dx, w, ha, hd, r, hr, q⟩ := hw
    simp only [HE.ev] at hr
    cases e : HE.evs es f s' with
    | none => rw [e] at hr; cases hr
    | some rs =>
      rw [e] at hr
      cases hr
      refine ⟨s', T', f, y, dx, w, ha, hd, rs, e, fun ys H1 l1 l2 w1 => ⟨by have := k1000; omega, fun p o ho hp => q _ _ (w1.newTup ho hp (by omega))⟩⟩
theorem hes_ok (hN : X.N = c.N) (hsc : X.env.scope = c.sc) (er : Ers M X) (hc0 : M.C.cls[c0]? = some (nm, F)) (hF : Rs F) (hFl : F = F' ∨ F' = "-") (hcls : cls = .ref (M.ca c0)) (hz : Zc cls d oe) (hf : ∃ vs, oe.data = .fields vs) :
    ∀ (es : List HE) (as : List Expr), chkHEs F' es c i as = true → PA (X.suite a ((a, oe) :: pn)) as (tHes M c0 X.K i a d es)
  | [], as, h => by
    have : as = [] := List.isEmpty_iff.mp (show as.isEmpty = true from h)
    subst this
    refine ⟨fun pos pins s σ H Q I hw => pa_nil.run pos pins s σ H Q I ?_⟩
    obtain ⟨s', T', f, y, dx, w, ha, hd, rs, hr, q⟩ := hw
    simp only [HE.evs] at hr
    cases hr
    exact q [] H rfl rfl w
  | e :: es, as, h => by
    cases as with
    | nil => cases (show false = true from h)
    | cons x as =>
      have h : (chkHE F' e c i x && !isStar x && chkHEs F' es c i as) = true := h
      simp only [Bool.and_eq_true, Bool.not_eq_true'] at h
      refine ⟨fun pos pins s σ H Q I hw => (pa_cons (he_ok hN hsc er hc0 hF hFl hcls hz hf e x h.1.1) (hes_ok hN hsc er hc0 hF hFl hcls hz hf es as h.2) (starEach_no h.1.2)).run pos pins s σ H Q I ?_⟩
      obtain ⟨s', T', f, y, dx, w, ha, hd, rs, hr, q⟩ := hw
      simp only [HE.evs] at hr
      cases e1 : e.ev f s' with
      | none => rw [e1] at hr; cases hr
      | some r =>
        rw [e1] at hr
        have hr : (HE.evs es f s').map (r :: ·) = some rs := hr
        cases e2 : HE.evs es f s' with
        | none => rw [e2] at hr; cases hr
        | some rs' =>
          rw [e2] at hr
          cases hr
          refine ⟨s', T', f, y, dx, w, ha, hd, r, e1, fun z H1 w1 => ?_⟩
          have w2 : WI X.K s' (XH M c0 f y dx ++ ((.ov (.imm r), z) :: T')) σ H1 := w1.perm List.perm_middle.symm
          refine ⟨s', _, f, y, dx, w2, ha, hd, rs', e2, fun zs H2 l1 l2 w3 => q (z :: zs) H2 (by rw [List.length_cons, List.length_cons, l1]) (by rw [List.length_cons, List.length_cons, l2]) ?_⟩
          show WI X.K s' ((.ov (.imm r), z) :: (zipH (rs'.map .imm) zs ++ (XH M c0 f y dx ++ T'))) σ H2
          refine w3.perm ?_
          exact (List.perm_middle.append_left _).trans List.perm_middle
end
end
/-! clauses -/
def vSet : Stmt → Option (Str × Expr)
  | .Assign [.Name x _] a _ => some (x, a)
  | _ => none
theorem vSet_of {st : Stmt} {x : Str} {a : Expr} (h : vSet st = some (x, a)) : ∃ p p2, st = .Assign [.Name x p] a p2 := by unfold vSet at h; split at h <;> cases h; exact ⟨_, _, rfl⟩
def vPass : Stmt → Option Unit
  | .Pass _ => some ()
  | _ => none
theorem vPass_of {st : Stmt} {u} (h : vPass st = some u) : ∃ p, st = .Pass p := by unfold vPass at h; split at h <;> cases h; exact ⟨_, rfl⟩
def chkHA (F : Str) : HA → CC → Option Nat → Stmt → Bool
  | .ret e, c, i, st => seen (vRet st) fun a => chkHE F e c i a
  | .set j e, c, i, st => seen (vSet st) fun (x, a) => chkHE F e c i a && stB c j x && decide (i ≠ some j) && !isComp a
  | .pass, _, _, st => seen (vPass st) fun _ => true
def chkCl (C : Cfg) : Cl → CC → ExceptHandler → Bool
  | h, c, .ExceptHandler (some (.Name x _)) nm [st] _ => glB c x && seen (C.cls[h.k]?) (fun (n, _) => decide (n = x)) && (match nm with
    | some n => seen h.i fun i => stB c i n && decide (c.sc.names.lookup n = some .local)
    | none => h.i.isNone) && decide (h.cs = C.sub.getD h.k []) && chkHA (C.hf h) h.a c h.i st
  | _, _, _ => false
def chkCls (C : Cfg) : List Cl → CC → List ExceptHandler → Bool
  | [], _, hs => hs.isEmpty
  | h :: r, c, hs => (match hs with
    | x :: hs => chkCl C h c x && chkCls C r c hs
    | [] => false)
/-- a clause's suite -/
def tHA (M : SM) (c0 : Nat) (K : PySem.W.Frag) (i : Option Nat) (a : Addr) (d : Option Addr) : HA → TS
  | .ret e => tRet (tHe M c0 K i a d e)
  | .set j e => tAsg (tHe M c0 K i a d e) (gName j)
  | .pass => tNext
def clR (M : SM) (K : PySem.W.Frag) (h : Cl) : ClR where
  c := .ref (M.ca h.k)
  i := h.i
  ts := fun a cls d D σ H => ∃ c0 nm0 F, M.C.cls[c0]? = some (nm0, F) ∧ Rs F ∧ (F = M.C.hf h ∨ M.C.hf h = "-") ∧ cls = .ref (M.ca c0) ∧ tHA M c0 K h.i a d h.a D σ H
section
variable {M : SM} {X : Cx} {W : WX} {c : CC} {k : Nat} {pos : Pos}
theorem ha_ok (ev : Ev M X W c k) (er : Ers M X) {h : Cl} {st : Stmt} (hh : chkHA (M.C.hf h) h.a c h.i st = true) : ∀ (a : Addr) (oe : Obj) (cls : Value) (d : Option Addr) (pn : List (Addr × Obj)), Zc cls d oe → (∃ vs, oe.data = .fields vs) → PSs (X.suite a ((a, oe) :: pn)) [st] ((clR M X.K h).ts a cls d) := by
  intro a oe cls d pn hz hf
  refine ⟨fun pins s σ H D I hw => ?_⟩
  obtain ⟨c0, nm0, F, hc0, hF, hFl, hcls, hw⟩ := hw
  generalize M.C.hf h = F' at hh hFl
  obtain ⟨hk, hi, hcs, ha⟩ := h
  cases ha with
  | ret e =>
    obtain ⟨ast, h1, h2⟩ := seen_of (show seen (vRet st) _ = true from hh)
    obtain ⟨p, rfl⟩ := vRet_of h1
    exact (pss_one (ps_ret (he_ok ev.gd.N ev.gd.sc er hc0 hF hFl hcls hz hf e ast h2))).run pins s σ H D I hw
  | set j e =>
    obtain ⟨⟨x, ast⟩, h1, h2⟩ := seen_of (show seen (vSet st) _ = true from hh)
    obtain ⟨p, p2, rfl⟩ := vSet_of h1
    simp only [Bool.and_eq_true, decide_eq_true_eq, Bool.not_eq_true'] at h2
    obtain ⟨⟨⟨h1, h2⟩, h3⟩, h4⟩ := h2
    obtain ⟨f1, f2, f3, f4, _⟩ := st_facts ev.gd h2
    exact (pss_one (ps_set (X := X.suite a ((a, oe) :: pn)) f1 f2 f3 (he_ok ev.gd.N ev.gd.sc er hc0 hF hFl hcls hz hf e ast h1) (swaps_no h4) f4)).run pins s σ H D I hw
  | pass =>
    obtain ⟨u, h1, _⟩ := seen_of (show seen (vPass st) _ = true from hh)
    obtain ⟨p, rfl⟩ := vPass_of h1
    exact (pss_one ps_pass).run pins s σ H D I hw
theorem cls_ok (ev : Ev M X W c k) (er : Ers M X) : ∀ {hs : List Cl} {xs : List ExceptHandler}, chkCls M.C hs c xs = true → ClOk X xs (hs.map (clR M X.K))
  | [], xs, h => by
    have : xs = [] := List.isEmpty_iff.mp (show xs.isEmpty = true from h)
    subst this
    exact .nil
  | h :: r, xs, hh => by
    cases xs with
    | nil => cases (show false = true from hh)
    | cons x xs =>
      have hh : (chkCl M.C h c x && chkCls M.C r c xs) = true := hh
      simp only [Bool.and_eq_true] at hh
      obtain ⟨h1, h2⟩ := hh
      have ih := cls_ok ev er h2
      unfold chkCl at h1
      split at h1
      · rename_i x np nm st pos'
        simp only [Bool.and_eq_true, decide_eq_true_eq] at h1
        obtain ⟨⟨⟨⟨g1, g2⟩, g3⟩, g4⟩, g5⟩ := h1
        obtain ⟨⟨n', fl⟩, e1, e2⟩ := seen_of g2
        have e2 : n' = x := by simpa using e2
        subst e2
        obtain ⟨k1, k2, k3⟩ := gl_of ev.gd g1
        refine .one (h := clR M X.K h) ⟨k1, k2, .inl (er.gl _ _ _ e1)⟩ (fun n hn => ?_) (fun hn => ?_) (ha_ok ev er g5) ih
        · subst hn
          obtain ⟨i, hi, g3⟩ := seen_of g3
          simp only [Bool.and_eq_true, decide_eq_true_eq] at g3
          obtain ⟨f1, f2, f3, f4, _⟩ := st_facts ev.gd g3.1
          exact ⟨i, hi, f2, by show X.env.scope.names.lookup n = _; rw [ev.gd.sc]; exact g3.2⟩
        · subst hn
          exact Option.isNone_iff_eq_none.mp g3
      · cases h1
end
end PV
end
section
set_option Elab.async false
set_option linter.all false
set_option maxRecDepth 100000
set_option maxHeartbeats 4000000
/-! PwB: try; what the checker passes, the text does: statements. -/
namespace PV
open PySem PySem.Spec PyProof.Rows L2
def HA.j : HA → Option Nat
  | .set j _ => some j
  | _ => none
structure ClF (C : Cfg) (lk : List Nat) (h : Cl) : Prop where
  cls : ∃ nm fl, C.cls[h.k]? = some (nm, fl)
  cs : h.cs = C.sub.getD h.k []
  i : ∀ i, h.i = some i → i ∉ lk
  j : ∀ j, h.a.j = some j → j ∉ lk ∧ h.i ≠ some j
theorem st_lk {c : CC} {i : Nat} {x : Str} (h : stB c i x = true) : i ∉ c.lk := by
  simp only [stB, Bool.and_eq_true, Bool.not_eq_true'] at h
  simpa using h.2
theorem clF_of {C : Cfg} {c : CC} : ∀ {hs : List Cl} {xs : List ExceptHandler}, chkCls C hs c xs = true → ∀ h ∈ hs, ClF C c.lk h
  | [], _, _, h, hm => by cases hm
  | h :: r, xs, hh, h', hm => by
    cases xs with
    | nil => cases (show false = true from hh)
    | cons x xs =>
      have hh : (chkCl C h c x && chkCls C r c xs) = true := hh
      simp only [Bool.and_eq_true] at hh
      obtain ⟨h1, h2⟩ := hh
      rcases List.mem_cons.mp hm with rfl | hm
      · unfold chkCl at h1
        split at h1
        · rename_i x np nm st pos'
          simp only [Bool.and_eq_true, decide_eq_true_eq] at h1
          obtain ⟨⟨⟨⟨g1, g2⟩, g3⟩, g4⟩, g5⟩ := h1
          obtain ⟨⟨n', fl⟩, e1, e2⟩ := seen_of g2
          refine ⟨⟨n', fl, e1⟩, g4, fun i hi => ?_, fun j hj => ?_⟩
          · cases nm with
            | none =>
              have := Option.isNone_iff_eq_none.mp g3
              rw [hi] at this
              cases this
            | some n =>
              obtain ⟨i', hi', g3⟩ := seen_of g3
              rw [hi] at hi'
              cases hi'
              simp only [Bool.and_eq_true] at g3
              exact st_lk g3.1
          · obtain ⟨hk, hi, hcs, ha⟩ := h'
            cases ha with
            | set j' e =>
              cases hj
              obtain ⟨⟨x, ast⟩, k1, k2⟩ := seen_of (show seen (vSet st) _ = true from g5)
              simp only [Bool.and_eq_true, decide_eq_true_eq, Bool.not_eq_true'] at k2
              exact ⟨st_lk k2.1.1.2, k2.1.2⟩
            | _ => cases hj
        · cases h1
      · exact clF_of h2 h' hm
section
variable {M : SM} {X : Cx} {W : WX} {c : CC} {k : Nat} {pos : Pos}
theorem set_fr {i : Nat} {lk : List Nat} {σ : L2.St} {x : Option V} (h : i ∉ lk) : FrL lk σ (σ.set i x) := Fr.set.l (by simpa using h)
theorem hf_of {h : Cl} {c0 : Nat} {nm0 F : Str} (hc0 : M.C.cls[c0]? = some (nm0, F)) (hb : h.cs.contains c0 = true) : F = M.C.hf h ∨ M.C.hf h = "-" := by
  unfold Cfg.hf
  split
  · rename_i ha
    left
    have hm : c0 ∈ h.cs := by simpa using hb
    have := of_decide_eq_true (List.all_eq_true.mp ha c0 hm)
    rw [← this, fl_of hc0]
  · exact .inr rfl
theorem cl_k (er : Ers M X) {lk : List Nat} {T : List (Hd × V)} {σ σ' : L2.St} {DD : Ends} {c0 : Nat} {nm0 F0 : Str} (hc0 : M.C.cls[c0]? = some (nm0, F0)) (hF0 : Rs F0) {d : D} {s1 : Sl} {x : V} {dx : Addr} {H' : Hp} (f : FrL lk σ σ')
    (w : WI X.K s1 (XH M c0 d x dx ++ T) σ' H') : ∀ {hs : List Cl}, (∀ h ∈ hs, ClF M.C lk h) → RS M X.K W lk T σ DD (handle hs c0 d s1) → wCl X.K W DD (hs.map (clR M X.K)) (.ref (M.ca c0)) (XD M c0 dx) σ' H'
  | [], _, h => by
    have h : ∀ σ', FrL lk σ σ' → XW M X.K W s1 T σ' c0 d := h
    exact h σ' f x dx H' w
  | h :: r, F, hr => by
    obtain ⟨⟨nm, fl, e1⟩, e2, e3, e4⟩ := F h (by simp)
    refine ⟨h.cs.contains c0, by rw [e2]; exact er.exm _ _ _ _ _ _ hc0 hF0 e1, fun hb a ha => ?_, fun hb => ?_⟩
    · refine ⟨c0, nm0, F0, hc0, hF0, hf_of hc0 hb, rfl, ?_⟩
      have hr : RS M X.K W lk T σ DD (if h.cs.contains c0 then h.a.run d (h.sl s1) else handle r c0 d s1) := hr
      rw [hb, if_pos rfl] at hr
      have w1 : WI X.K (h.sl s1) (XH M c0 d x dx ++ T) (goneS h.i a σ') H' := by
        unfold Cl.sl goneS
        cases h.i with
        | none => exact w
        | some i => exact w.clrA _
      have f1 : FrL lk σ (goneS h.i a σ') := by
        unfold goneS
        cases e : h.i with
        | none => exact f
        | some i => exact f.trans (set_fr (e3 i e))
      have hat : ∀ j, h.i = some j → j < (goneS h.i a σ').length → (goneS h.i a σ')[j]? = some (some (.ref a)) := by
        intro j hj hlt
        unfold goneS at hlt ⊢
        rw [hj] at hlt ⊢
        simp only [List.length_set] at hlt
        show (σ'.set j (some (.ref a)))[j]? = _
        rw [List.getElem?_set]
        simp [hlt]
      -- the suite's end
      have out : ∀ {s2 : Sl} {σ2 : L2.St} {H2 : Hp}, FrL lk (goneS h.i a σ') σ2 → WI X.K s2 T σ2 H2 → (∀ i, h.i = some i → at_ s2 i = none) → (∀ σ' H', FrL lk σ σ' → WI X.K s2 T σ' H' → DD.nx σ' H') → (goneE h.i DD).nx σ2 H2 := by
        intro s2 σ2 H2 f2 w2 hn kk
        unfold goneE
        cases e : h.i with
        | none => exact kk _ _ (f1.trans f2) w2
        | some i =>
          refine kk _ _ ((f1.trans f2).trans (set_fr (e3 i e))) (w2.sig (by simp) fun j ov hj => ?_)
          have : i ≠ j := fun z => by subst z; rw [hn i e] at hj; cases hj
          rw [List.getElem?_set_ne this]
      have hsl : ∀ i, h.i = some i → at_ (h.sl s1) i = none := by
        intro i hi
        unfold Cl.sl
        rw [hi]
        show at_ (s1.set i none) i = none
        rw [at_set]
        simp
      obtain ⟨hk, hi, hcs, hact⟩ := h
      cases hact with
      | ret e =>
        have hr : RS M X.K W lk T σ DD (R.ofO ((e.ev d (Cl.sl ⟨hk, hi, hcs, .ret e⟩ s1)).map fun x => .rt (.imm x)) (Cl.sl ⟨hk, hi, hcs, .ret e⟩ s1)) := hr
        cases ev : e.ev d (Cl.sl ⟨hk, hi, hcs, .ret e⟩ s1) with
        | none => rw [ev] at hr; exact hr.elim
        | some r =>
          rw [ev] at hr
          refine ⟨_, T, d, x, dx, w1, hat, rfl, r, ev, fun y H2 w2 => ?_⟩
          have w3 : WI X.K (Cl.sl ⟨hk, hi, hcs, .ret e⟩ s1) ((.ov (.imm r), y) :: T) (goneS hi a σ') H2 := by
            have w4 : WI X.K (Cl.sl ⟨hk, hi, hcs, .ret e⟩ s1) (XH M c0 d x dx ++ ((.ov (.imm r), y) :: T)) (goneS hi a σ') H2 := w2.perm List.perm_middle.symm
            exact w4.drops
          have kk := hr y _ H2 f1 w3
          show (goneE hi DD).rt y H2
          unfold goneE
          cases hi <;> exact kk
      | set j e =>
        have hr : RS M X.K W lk T σ DD (match e.ev d (Cl.sl ⟨hk, hi, hcs, .set j e⟩ s1) with
          | some x => .ok .nx ((Cl.sl ⟨hk, hi, hcs, .set j e⟩ s1).set j (some (.imm x)))
          | none => .bad) := hr
        cases ev : e.ev d (Cl.sl ⟨hk, hi, hcs, .set j e⟩ s1) with
        | none => rw [ev] at hr; exact hr.elim
        | some r =>
          rw [ev] at hr
          obtain ⟨j1, j2⟩ := e4 j rfl
          refine ⟨_, T, d, x, dx, w1, hat, rfl, r, ev, fun y H2 w2 => ?_⟩
          have w3 : WI X.K (Cl.sl ⟨hk, hi, hcs, .set j e⟩ s1) ((.ov (.imm r), y) :: T) (goneS hi a σ') H2 := by
            have w4 : WI X.K (Cl.sl ⟨hk, hi, hcs, .set j e⟩ s1) (XH M c0 d x dx ++ ((.ov (.imm r), y) :: T)) (goneS hi a σ') H2 := w2.perm List.perm_middle.symm
            exact w4.drops
          refine out (set_fr j1) w3.setA (fun i hii => ?_) hr
          rw [at_set]
          have : j ≠ i := fun z => j2 (by rw [z]; exact hii)
          simp [this, hsl i hii]
      | pass =>
        have hr : RS M X.K W lk T σ DD (.ok .nx (Cl.sl ⟨hk, hi, hcs, .pass⟩ s1)) := hr
        refine out .refl ?_ hsl hr
        have w4 : WI X.K (Cl.sl ⟨hk, hi, hcs, .pass⟩ s1) (XH M c0 d x dx ++ T) (goneS hi a σ') H' := w1
        exact w4.drops
    · refine cl_k er hc0 hF0 f w (fun h hm => F h (by simp [hm])) ?_
      have hr : RS M X.K W lk T σ DD (if h.cs.contains c0 then h.a.run d (h.sl s1) else handle r c0 d s1) := hr
      rw [hb, if_neg (by simp)] at hr
      exact hr
end
end PV
end
section
set_option Elab.async false
set_option linter.all false
set_option maxRecDepth 100000
set_option maxHeartbeats 8000000
/-! PwC: what the checker passes, the text does: statements. -/
namespace PV
open PySem PySem.Spec PyProof.Rows L2
/-- a place where statements stand -/
structure Sv (M : SM) (X : Cx) (W : WX) (c : CC) (k : Nat) : Prop where
  ev : Ev M X W c k
  er : Ers M X
  own : PassesOwn (model X.prog X.w) X.A X.env X.xe
  stk : X.stack = X.env :: X.outer
  frm : X.env.frame = some X.env.locals
theorem Sv.tr {M : SM} {X : Cx} {W W' : WX} {c : CC} {k : Nat} (sv : Sv M X W c k) {pn : List (Addr × Obj)} {xe : Value → Shared → Prop} (tk : Takes (X.tr pn xe) W') (own : PassesOwn (model X.prog X.w) X.A X.env xe) : Sv M (X.tr pn xe) W' c k where
  ev := {
    gd := { N := sv.ev.gd.N, nd := sv.ev.gd.nd, sc := sv.ev.gd.sc, fn := sv.ev.gd.fn, calm := sv.ev.gd.calm, units := sv.ev.gd.units, grd := sv.ev.gd.grd, blt := sv.ev.gd.blt, isi := sv.ev.gd.isi, tys := sv.ev.gd.tys, ks := sv.ev.gd.ks }
    tk := tk
    rm := sv.ev.rm
    df := sv.ev.df
    b := sv.ev.b
    lm := fun h => have l := sv.ev.lm h; ⟨l.rm, ⟨l.er.gl, l.er.mkr, l.er.mkn, l.er.exm⟩, ⟨l.tf.ex, l.tf.un⟩, l.td⟩ }
  er := ⟨sv.er.gl, sv.er.mkr, sv.er.mkn, sv.er.exm⟩
  own := own
  stk := sv.stk
  frm := sv.frm
/-! views -/
def vAsg : Stmt → Option (Expr × Expr)
  | .Assign [t] a _ => some (t, a)
  | _ => none
def vPar : Stmt → Option (List Expr × List Expr)
  | .Assign [.Tuple ts _ _] (.Tuple vs _ _) _ => some (ts, vs)
  | _ => none
def vSetix : Stmt → Option (Str × Expr × Expr)
  | .Assign [.Subscript (.Name x _) b _] a _ => some (x, b, a)
  | _ => none
def vApp : Stmt → Option (Str × Str × Expr × Bool)
  | .Expr (.Call (.Attribute (.Name x _) n apos) [a] [] cpos) _ => some (x, n, a, apos.endLine == cpos.line)
  | _ => none
def vAug : Stmt → Option (Str × Operator × Expr)
  | .AugAssign (.Name x _) op a _ => some (x, op, a)
  | _ => none
def vAppk : Stmt → Option (Str × Expr × Str × Expr × Bool)
  | .Expr (.Call (.Attribute (.Subscript (.Name x _) b _) n apos) [a] [] cpos) _ => some (x, b, n, a, apos.endLine == cpos.line)
  | _ => none
def vExpr : Stmt → Option Expr
  | .Expr a _ => some a
  | _ => none
def vIfS : Stmt → Option (Expr × List Stmt × List Stmt)
  | .If t p q _ => some (t, p, q)
  | _ => none
def vFor : Stmt → Option (Expr × Expr × List Stmt)
  | .For tg iter bd [] _ => some (tg, iter, bd)
  | _ => none
def vWhile : Stmt → Option (Expr × List Stmt)
  | .While t bd [] _ => some (t, bd)
  | _ => none
def vRetN : Stmt → Option Unit
  | .Return none _ => some ()
  | _ => none
def vRaise0 : Stmt → Option Str
  | .Raise (some (.Call (.Name nm _) [] [] _)) none _ => some nm
  | _ => none
def isNoneE : E → Bool
  | .lit .none => true
  | _ => false
theorem isNoneE_of {e : E} (h : isNoneE e = true) : e = .lit .none := by unfold isNoneE at h; split at h <;> first | rfl | cases h
def vRaise : Stmt → Option (Str × Expr)
  | .Raise (some (.Call (.Name nm _) [a] [] _)) none _ => some (nm, a)
  | _ => none
def vTry : Stmt → Option (List Stmt × ExceptHandler × List ExceptHandler)
  | .Try b (x :: xs) [] [] _ => some (b, x, xs)
  | _ => none
def vBrk : Stmt → Option Unit
  | .Break _ => some ()
  | _ => none
def vCont : Stmt → Option Unit
  | .Continue _ => some ()
  | _ => none
section
variable {s : Stmt}
theorem vAsg_of {t a} (h : vAsg s = some (t, a)) : ∃ p, s = .Assign [t] a p := by unfold vAsg at h; split at h <;> cases h; exact ⟨_, rfl⟩
theorem vPar_of {ts vs} (h : vPar s = some (ts, vs)) : ∃ k p k2 p2 p3, s = .Assign [.Tuple ts k p] (.Tuple vs k2 p2) p3 := by unfold vPar at h; split at h <;> cases h; exact ⟨_, _, _, _, _, rfl⟩
theorem vSetix_of {x b a} (h : vSetix s = some (x, b, a)) : ∃ p p2 p3, s = .Assign [.Subscript (.Name x p) b p2] a p3 := by unfold vSetix at h; split at h <;> cases h; exact ⟨_, _, _, rfl⟩
theorem vApp_of {x n a l} (h : vApp s = some (x, n, a, l)) : ∃ p apos cpos p2, s = .Expr (.Call (.Attribute (.Name x p) n apos) [a] [] cpos) p2 ∧ (apos.endLine == cpos.line) = l := by unfold vApp at h; split at h <;> cases h; exact ⟨_, _, _, _, rfl, rfl⟩
theorem vAug_of {x op a} (h : vAug s = some (x, op, a)) : ∃ p p2, s = .AugAssign (.Name x p) op a p2 := by unfold vAug at h; split at h <;> cases h; exact ⟨_, _, rfl⟩
theorem vAppk_of {x b n a l} (h : vAppk s = some (x, b, n, a, l)) : ∃ p p2 apos cpos p3, s = .Expr (.Call (.Attribute (.Subscript (.Name x p) b p2) n apos) [a] [] cpos) p3 ∧ (apos.endLine == cpos.line) = l := by unfold vAppk at h; split at h <;> cases h; exact ⟨_, _, _, _, _, rfl, rfl⟩
theorem vExpr_of {a} (h : vExpr s = some a) : ∃ p, s = .Expr a p := by unfold vExpr at h; split at h <;> cases h; exact ⟨_, rfl⟩
theorem vIfS_of {t p q} (h : vIfS s = some (t, p, q)) : ∃ z, s = .If t p q z := by unfold vIfS at h; split at h <;> cases h; exact ⟨_, rfl⟩
theorem vFor_of {tg iter bd} (h : vFor s = some (tg, iter, bd)) : ∃ p, s = .For tg iter bd [] p := by unfold vFor at h; split at h <;> cases h; exact ⟨_, rfl⟩
theorem vWhile_of {t bd} (h : vWhile s = some (t, bd)) : ∃ p, s = .While t bd [] p := by unfold vWhile at h; split at h <;> cases h; exact ⟨_, rfl⟩
theorem vRetN_of {u} (h : vRetN s = some u) : ∃ p, s = .Return none p := by unfold vRetN at h; split at h <;> cases h; exact ⟨_, rfl⟩
theorem vRaise0_of {nm} (h : vRaise0 s = some nm) : ∃ p p2 p3, s = .Raise (some (.Call (.Name nm p) [] [] p2)) none p3 := by unfold vRaise0 at h; split at h <;> cases h; exact ⟨_, _, _, rfl⟩
theorem vRaise_of {nm a} (h : vRaise s = some (nm, a)) : ∃ p p2 p3, s = .Raise (some (.Call (.Name nm p) [a] [] p2)) none p3 := by unfold vRaise at h; split at h <;> cases h; exact ⟨_, _, _, rfl⟩
theorem vTry_of {b x xs} (h : vTry s = some (b, x, xs)) : ∃ p, s = .Try b (x :: xs) [] [] p := by unfold vTry at h; split at h <;> cases h; exact ⟨_, rfl⟩
theorem vBrk_of {u} (h : vBrk s = some u) : ∃ p, s = .Break p := by unfold vBrk at h; split at h <;> cases h; exact ⟨_, rfl⟩
theorem vCont_of {u} (h : vCont s = some u) : ∃ p, s = .Continue p := by unfold vCont at h; split at h <;> cases h; exact ⟨_, rfl⟩
end
def E.isCp : E → Bool
  | .comp _ _ _ _ _ => true
  | _ => false
section
variable (C : Cfg)
mutual
def chkS : St → CC → Stmt → Bool
  | .set i e, c, s => seen (vSet s) fun (x, a) => stB c i x && chkE C e c a && !e.isPk && (e.isCp || !isComp a)
  | .setT ts e, c, s => seen (vAsg s) fun (tg, a) => chkT (.tp ts) c tg && chkE C e c a && !e.isPk && !isComp a && (vTup a).isNone && (Tgt.slotsAll ts).all (fun j => !c.lk.contains j)
  | .par is es, c, s => seen (vPar s) fun (ts, vs) => parB c is ts && parC c ts vs && decide is.Nodup && chkEs C es c vs && decide (ts.length = vs.length) && decide (es.length ≤ 1000)
  | .aug i o e, c, s => seen (vAug s) fun (x, op, a) => stB c i x && decide (op = o.op) && (decide (o = .add) || decide (o = .sub)) && chkE C e c a
  | .setix i k e, c, s => seen (vSetix s) fun (x, b, a) => nameB c i x && chkE C k c b && chkE C e c a && !e.isPk && !isComp a && !isSlice b
  | .app i e, c, s => seen (vApp s) fun (x, n, a, l) => decide (n = "append") && nameB c i x && chkE C e c a && !e.isPk && !isStar a && l
  | .ext i e, c, s => seen (vApp s) fun (x, n, a, l) => decide (n = "extend") && nameB c i x && chkE C e c a && !e.isPk && !isStar a && l
  | .appk i k e, c, s => seen (vAppk s) fun (x, b, n, a, l) => decide (n = "append") && nameB c i x && chkE C k c b && !isSlice b && chkE C e c a && !e.isPk && !isStar a && l
  | .bad, _, _ => true
  | .expr e, c, s => seen (vExpr s) fun a => chkE C e c a && !isComp a
  | .ifs e a b, c, s => seen (vIfS s) fun (t, p, q) => e.tst && chkE C e c t && chkB a c p && chkB b c q
  | .for_ t k es body _, c, s => seen (vFor s) fun (tg, iter, bd) => srcB k c es.length tg iter && chkOs C es c (srcArgs k iter) && es.all (fun e => !e.isPk) && chkT t c tg && tgOk k t && chkB body c bd && !isSet iter && t.slots.all (fun j => !c.lk.contains j)
  | .while_ e body _, c, s => seen (vWhile s) fun (t, bd) => e.tst && chkE C e c t && chkB body c bd
  | .ret e, c, s => seen (vRet s) fun a => chkE C e c a && !e.isPk
  | .retn, _, s => seen (vRetN s) fun _ => true
  | .raise cc e, c, s => (seen (vRaise s) fun (nm, a) => seen (C.cls[cc]?) (fun (n, fl) => decide (n = nm) && rsB fl && !decide (fl = "-")) && glB c nm && chkE C e c a && !e.isPk && !isStar a) ||
    (seen (vRaise0 s) fun nm => seen (C.cls[cc]?) (fun (n, fl) => decide (n = nm) && decide (fl = "-")) && glB c nm && isNoneE e)
  | .try_ bd hs all, c, s => seen (vTry s) fun (b, x, xs) => chkB bd c b && chkCls C hs c (x :: xs) && all.all fun c0 => seen (C.cls[c0]?) fun (_, fl) => rsB fl
  | .pass, _, s => seen (vPass s) fun _ => true
  | .brk, _, s => seen (vBrk s) fun _ => true
  | .cont, _, s => seen (vCont s) fun _ => true
  | .kill _, _, _ => false
def chkB : List St → CC → List Stmt → Bool
  | [], _, ss => ss.isEmpty
  | t :: ts, c, ss => (match ss with
    | s :: ss => chkS t c s && chkB ts c ss
    | [] => false)
end
end
section
variable {M : SM}
theorem s_try {X : Cx} {W : WX} {c : CC} {k : Nat} {pos : Pos} (sv : Sv M X W c k) {bd : List St} {hs : List Cl} {all : List Nat} {body : List Stmt} {x0 : ExceptHandler} {xs : List ExceptHandler}
    (hb : ∀ (W' : WX) (pn : List (Addr × Obj)) (xe : Value → Shared → Prop), Takes (X.tr pn xe) W' → PassesOwn (model X.prog X.w) X.A X.env xe → PSs (X.tr pn xe) body (tBl M X.K W' c.lk bd))
    (hh : chkCls M.C hs c (x0 :: xs) = true) (ha : ∀ c0 ∈ all, ∃ nm F, M.C.cls[c0]? = some (nm, F) ∧ Rs F) : PS X (.Try body (x0 :: xs) [] [] pos) (tS M X.K W c.lk (.try_ bd hs all)) := by
  have base := ps_tryX (pos := pos) (tb := fun W' => tBl M X.K W' c.lk bd) (by rw [sv.ev.gd.N]; exact sv.ev.gd.nd) sv.stk sv.frm sv.ev.tk hb (cls_ok sv.ev sv.er hh)
  refine ⟨fun pins s σ H D I hw => base.run pins s σ H D I ?_⟩
  obtain ⟨s', T, w, np, hr⟩ := hw
  refine ⟨s', T, w, np, ?_⟩
  simp only [evS] at hr
  cases q : evB M.wf M.ft bd s' with
  | ok fl s1 => rw [q] at hr; cases fl <;> exact hr
  | exc c0 d s1 =>
    rw [q] at hr
    simp only at hr
    split at hr
    · rename_i hc
      have hm : c0 ∈ all := by simpa using hc
      obtain ⟨nm, F, hnm, hF⟩ := ha c0 hm
      intro σ' f x dx H' w'
      exact cl_k sv.er hnm hF f w' (clF_of hh) hr
    · exact hr.elim
  | bad => rw [q] at hr; exact hr.elim
mutual
theorem sS : ∀ (t : St) {X : Cx} {W : WX} {c : CC} {k : Nat} {st : Stmt}, Sv M X W c k → chkS M.C t c st = true → PS X st (tS M X.K W c.lk t)
  | .set i e, X, W, c, k, st, sv, h0 => by
    obtain ⟨⟨x, a⟩, hx, h⟩ := seen_of (show seen (vSet st) _ = true from h0)
    clear h0
    obtain ⟨p, p2, rfl⟩ := vSet_of hx
    simp only [Bool.and_eq_true, Bool.or_eq_true, Bool.not_eq_true'] at h
    obtain ⟨⟨⟨h1, h2⟩, h3⟩, h4⟩ := h
    rcases h4 with h4 | h4
    · cases e <;> simp only [E.isCp, Bool.false_eq_true] at h4
      exact s_setComp sv.ev h1 h2
    · exact s_set sv.ev.gd h1 (sE e sv.ev h2).1 h3 h4
  | .setT ts e, X, W, c, k, st, sv, h0 => by
    obtain ⟨⟨tg, a⟩, hx, h⟩ := seen_of (show seen (vAsg st) _ = true from h0)
    clear h0
    obtain ⟨p, rfl⟩ := vAsg_of hx
    simp only [Bool.and_eq_true, Bool.not_eq_true', Option.isNone_iff_eq_none, List.all_eq_true] at h
    obtain ⟨⟨⟨⟨⟨h1, h2⟩, h3⟩, h4⟩, h5⟩, h6⟩ := h
    exact s_setT sv.ev.gd h1 (fun j hj => by simpa using h6 j hj) (sE e sv.ev h2).1 h3 h4 h5
  | .par is es, X, W, c, k, st, sv, h0 => by
    obtain ⟨⟨ts, vs⟩, hx, h⟩ := seen_of (show seen (vPar st) _ = true from h0)
    clear h0
    obtain ⟨k1, p1, k2, p2, p3, rfl⟩ := vPar_of hx
    simp only [Bool.and_eq_true, decide_eq_true_eq] at h
    obtain ⟨⟨⟨⟨⟨h1, h2⟩, h3⟩, h4⟩, h5⟩, h6⟩ := h
    have q := sEs es sv.ev h4
    exact s_par sv.ev.gd h1 h2 h3 q.2.1 h5 h6 q.2.2.2.1
  | .aug i o e, X, W, c, k, st, sv, h0 => by
    obtain ⟨⟨x, op, a⟩, hx, h⟩ := seen_of (show seen (vAug st) _ = true from h0)
    clear h0
    obtain ⟨p, p2, rfl⟩ := vAug_of hx
    simp only [Bool.and_eq_true, decide_eq_true_eq, Bool.or_eq_true] at h
    obtain ⟨⟨⟨h1, rfl⟩, h3⟩, h4⟩ := h
    exact s_aug sv.ev.gd h1 h3 (sE e sv.ev h4).1
  | .setix i kk e, X, W, c, k, st, sv, h0 => by
    obtain ⟨⟨x, b, a⟩, hx, h⟩ := seen_of (show seen (vSetix st) _ = true from h0)
    clear h0
    obtain ⟨p, p2, p3, rfl⟩ := vSetix_of hx
    simp only [Bool.and_eq_true, Bool.not_eq_true'] at h
    obtain ⟨⟨⟨⟨⟨h1, h2⟩, h3⟩, h4⟩, h5⟩, h6⟩ := h
    exact s_setix sv.ev.gd h1 (sE kk sv.ev h2).1 (sE e sv.ev h3).1 h4 h5 h6
  | .app i e, X, W, c, k, st, sv, h0 => by
    obtain ⟨⟨x, n, a, l⟩, hx, h⟩ := seen_of (show seen (vApp st) _ = true from h0)
    clear h0
    obtain ⟨p, apos, cpos, p2, rfl, hl⟩ := vApp_of hx
    simp only [Bool.and_eq_true, decide_eq_true_eq, Bool.not_eq_true'] at h
    obtain ⟨⟨⟨⟨⟨rfl, h2⟩, h3⟩, h4⟩, h5⟩, rfl⟩ := h
    exact s_app sv.ev.gd h2 (sE e sv.ev h3).1 h4 h5 hl
  | .ext i e, X, W, c, k, st, sv, h0 => by
    obtain ⟨⟨x, n, a, l⟩, hx, h⟩ := seen_of (show seen (vApp st) _ = true from h0)
    clear h0
    obtain ⟨p, apos, cpos, p2, rfl, hl⟩ := vApp_of hx
    simp only [Bool.and_eq_true, decide_eq_true_eq, Bool.not_eq_true'] at h
    obtain ⟨⟨⟨⟨⟨rfl, h2⟩, h3⟩, h4⟩, h5⟩, rfl⟩ := h
    exact s_ext sv.ev.gd h2 (sE e sv.ev h3).1 h4 h5 hl
  | .appk i kk e, X, W, c, k, st, sv, h0 => by
    obtain ⟨⟨x, b, n, a, l⟩, hx, h⟩ := seen_of (show seen (vAppk st) _ = true from h0)
    clear h0
    obtain ⟨p, p2, apos, cpos, p3, rfl, hl⟩ := vAppk_of hx
    simp only [Bool.and_eq_true, decide_eq_true_eq, Bool.not_eq_true'] at h
    obtain ⟨⟨⟨⟨⟨⟨⟨rfl, h2⟩, h3⟩, h4⟩, h5⟩, h6⟩, h7⟩, rfl⟩ := h
    exact s_appk sv.ev.gd h2 (sE kk sv.ev h3).1 h4 (sE e sv.ev h5).1 h6 h7 hl
  | .bad, X, W, c, k, st, sv, h0 => s_badS
  | .expr e, X, W, c, k, st, sv, h0 => by
    obtain ⟨a, hx, h⟩ := seen_of (show seen (vExpr st) _ = true from h0)
    clear h0
    obtain ⟨p, rfl⟩ := vExpr_of hx
    simp only [Bool.and_eq_true, Bool.not_eq_true'] at h
    exact s_expr (sE e sv.ev h.1).1 h.2
  | .ifs e a b, X, W, c, k, st, sv, h0 => by
    obtain ⟨⟨t, p, q⟩, hx, h⟩ := seen_of (show seen (vIfS st) _ = true from h0)
    clear h0
    obtain ⟨z, rfl⟩ := vIfS_of hx
    simp only [Bool.and_eq_true] at h
    obtain ⟨⟨⟨h1, h2⟩, h3⟩, h4⟩ := h
    exact s_if ((sE e sv.ev h2).2 h1) (sB a sv h3) (sB b sv h4)
  | .for_ t kk es body ks, X, W, c, k, st, sv, h0 => by
    obtain ⟨⟨tg, iter, bd⟩, hx, h⟩ := seen_of (show seen (vFor st) _ = true from h0)
    clear h0
    obtain ⟨p, rfl⟩ := vFor_of hx
    simp only [Bool.and_eq_true, Bool.not_eq_true', List.all_eq_true] at h
    obtain ⟨⟨⟨⟨⟨⟨⟨h1, h2⟩, h3⟩, h4⟩, h5⟩, h6⟩, h7⟩, h8⟩ := h
    have q := sOs es sv.ev h2
    have pi := s_src sv.ev (t := t) h1 q.2.2.1 q.1 q.2.1 (fun hk e he => by
      subst hk
      exact q.2.2.2 iter rfl e he) q.2.2.2
    exact s_for sv.own sv.ev.gd.calm pi h3 (s_tgtK sv.ev.gd h4 h5) (sB body sv h6) (fun j hj => by simpa using h8 j hj) (fold_no h7)
  | .while_ e body ks, X, W, c, k, st, sv, h0 => by
    obtain ⟨⟨t, bd⟩, hx, h⟩ := seen_of (show seen (vWhile st) _ = true from h0)
    clear h0
    obtain ⟨p, rfl⟩ := vWhile_of hx
    simp only [Bool.and_eq_true] at h
    exact s_while sv.own ((sE e sv.ev h.1.2).2 h.1.1) (sB body sv h.2)
  | .ret e, X, W, c, k, st, sv, h0 => by
    obtain ⟨a, hx, h⟩ := seen_of (show seen (vRet st) _ = true from h0)
    clear h0
    obtain ⟨p, rfl⟩ := vRet_of hx
    simp only [Bool.and_eq_true, Bool.not_eq_true'] at h
    exact s_ret (sE e sv.ev h.1).1 h.2
  | .retn, X, W, c, k, st, sv, h0 => by
    obtain ⟨u, hx, h⟩ := seen_of (show seen (vRetN st) _ = true from h0)
    obtain ⟨p, rfl⟩ := vRetN_of hx
    exact s_retn
  | .raise cc e, X, W, c, k, st, sv, h0 => by
    rcases Bool.or_eq_true_iff.mp (show (seen (vRaise st) _ || seen (vRaise0 st) _) = true from h0) with h0 | h0
    · obtain ⟨⟨nm, a⟩, hx, h⟩ := seen_of h0
      clear h0
      obtain ⟨p, p2, p3, rfl⟩ := vRaise_of hx
      simp only [Bool.and_eq_true, Bool.not_eq_true'] at h
      obtain ⟨⟨⟨⟨h1, h2⟩, h3⟩, h4⟩, h5⟩ := h
      obtain ⟨⟨n, fl⟩, e1, e2⟩ := seen_of h1
      simp only [Bool.and_eq_true, decide_eq_true_eq, Bool.not_eq_true', decide_eq_false_iff_not] at e2
      obtain ⟨⟨rfl, e3⟩, e4⟩ := e2
      exact s_raise sv.ev sv.er e1 (rsB_ok e3) e4 h2 (sE e sv.ev h3).1 h4 h5
    · obtain ⟨nm, hx, h⟩ := seen_of h0
      clear h0
      obtain ⟨p, p2, p3, rfl⟩ := vRaise0_of hx
      simp only [Bool.and_eq_true] at h
      obtain ⟨⟨h1, h2⟩, h3⟩ := h
      obtain ⟨⟨n, fl⟩, e1, e2⟩ := seen_of h1
      simp only [Bool.and_eq_true, decide_eq_true_eq] at e2
      obtain ⟨rfl, rfl⟩ := e2
      have e3 := isNoneE_of h3
      subst e3
      exact s_raise0 sv.ev sv.er e1 h2
  | .try_ bd hs all, X, W, c, k, st, sv, h0 => by
    obtain ⟨⟨b, x, xs⟩, hx, h⟩ := seen_of (show seen (vTry st) _ = true from h0)
    clear h0
    obtain ⟨p, rfl⟩ := vTry_of hx
    simp only [Bool.and_eq_true, List.all_eq_true] at h
    obtain ⟨⟨h1, h2⟩, h3⟩ := h
    refine s_try sv (fun W' pn xe tk own => sB bd (sv.tr tk own) h1) h2 (fun c0 hc => ?_)
    obtain ⟨⟨nm, fl⟩, e1, e2⟩ := seen_of (h3 c0 hc)
    exact ⟨nm, fl, e1, rsB_ok e2⟩
  | .pass, X, W, c, k, st, sv, h0 => by
    obtain ⟨u, hx, h⟩ := seen_of (show seen (vPass st) _ = true from h0)
    obtain ⟨p, rfl⟩ := vPass_of hx
    exact s_pass
  | .brk, X, W, c, k, st, sv, h0 => by
    obtain ⟨u, hx, h⟩ := seen_of (show seen (vBrk st) _ = true from h0)
    obtain ⟨p, rfl⟩ := vBrk_of hx
    exact s_brk
  | .cont, X, W, c, k, st, sv, h0 => by
    obtain ⟨u, hx, h⟩ := seen_of (show seen (vCont st) _ = true from h0)
    obtain ⟨p, rfl⟩ := vCont_of hx
    exact s_cont
  | .kill _, _, _, _, _, _, _, h => by cases (show false = true from h)
theorem sB : ∀ (ts : List St) {X : Cx} {W : WX} {c : CC} {k : Nat} {ss : List Stmt}, Sv M X W c k → chkB M.C ts c ss = true → PSs X ss (tBl M X.K W c.lk ts)
  | [], X, W, c, k, ss, sv, h => by
    have : ss = [] := List.isEmpty_iff.mp (show ss.isEmpty = true from h)
    subst this
    exact s_blNil
  | t :: ts, X, W, c, k, ss, sv, h => by
    cases ss with
    | nil => cases (show false = true from h)
    | cons s ss =>
      have h : (chkS M.C t c s && chkB M.C ts c ss) = true := h
      simp only [Bool.and_eq_true] at h
      exact s_blCons (sS t sv h.1) (sB ts sv h.2)
end
end
end PV
end
section
set_option Elab.async false
set_option linter.all false
set_option maxRecDepth 100000
set_option maxHeartbeats 8000000
/-! PwD: each def keeps its promise, by depth. -/
namespace PV
open PySem PySem.Spec PyProof.Rows L2
/-- a def by its body, guards told -/
theorem fn_g {P : Program} {w : World} {K : PySem.W.Frag} {mg : Str → Option Value} {base : Heap} {k : Nat} {f : Addr} {name qual : Str} {params : Arguments} {body : List Stmt} {scope : Scope} {fd : FuncData} {N ps : List Str} {sp : Sp}
    (F : FunD K name qual params body scope [] [] f fd) (S : FnScope N ps scope) (len : ∀ vs H Q E, sp vs H Q E → vs.length = ps.length)
    (hbody : ∀ (cdv : Value), (∃ oc od dV kV doc pm an ct osl, K.lookup f = some ⟨oc, od, .func (PySem.W.fnOf name qual params body scope dV kV doc pm an cdv ct), osl⟩) → PySem.W.codeIn K cdv qual = true → ∀ (A : Around) (outer : List Env) (s : Shared) (H : Hp) (vs : List V) (Q : VK) (E : XK), Room k (A.deeper (envOfC qual scope s.heap.objs.size f cdv)) → A.guards = some [] → sp vs H Q E →
      ∃ t, PSs (cxOf (L2.CX P w) P w K mg base N qual scope f cdv A outer s H E) body t ∧ t { nx := fun _ H' => Q .non H', rt := Q } (start N vs) H) : FnG P w K mg base (k + 1) f fd ps sp := by
  obtain ⟨oc, od, dV, kV, doc, pm, an, cdv, ct, osl, rfl, lk, hcd, _, _⟩ := F.ex
  refine ⟨len, fun A outer s H args us vs Q E hr hgd e0 hb r hsp => ?_⟩
  have hl := len _ _ _ _ hsp
  have inK : K.In s.heap := e0.mod.kin.keeps fun b o e => (e0.bs b o e).1
  have noLim : s.heap.NoLimit := e0.mod.nolimit.keeps fun b o e => (e0.bs b o e).1
  have places : ∀ y ∈ ps.zip us, scope.names.lookup y.1 = some .local ∨ (scope.names.lookup y.1 = some .cell ∧ ((cellsFrom (s.heap.objs.size + 1) scope.names []).lookup y.1).isSome = true) := fun ⟨n, v⟩ hy => by
    rcases S.par n (List.of_mem_zip hy).1 with q | q
    · exact .inl q
    · exact .inr ⟨q, PySem.W.cellsFrom_some _ _ _ (.inl q)⟩
  refine codeAny_call_function hr.depth (inK _ _ lk) rfl S.co S.gen rfl (PySem.W.codeRec_of inK hcd) (hb _ _ _ _ (wpAny_newFunctionEnv_cells S.kind places fun env he s1 x => ?_))
  subst he
  refine ⟨noLim.keeps x.toInCall.keep, codeAny_func ?_⟩
  obtain ⟨t, ht, hq⟩ := hbody cdv ⟨_, _, _, _, _, _, _, _, _, lk⟩ hcd A outer s H vs Q E (hr.deeper _) hgd hsp
  have I : Inv (cxOf (L2.CX P w) P w K mg base N qual scope f cdv A outer s H E) [] (start N vs) H s1 := inv_start S hr.hd e0 hl r x
  refine wpAny_mono (ht.run [] s1 (start N vs) H _ I hq) (fun fl s' hs => ?_) fun e s' hs => hs
  have fin : ∀ {σ' : L2.St} {H' : Hp} {v : V} {u : Value}, Inv (cxOf (L2.CX P w) P w K mg base N qual scope f cdv A outer s H E) [] σ' H' s' → RelV v u → Q v H' → CE outer P w H s Q u s' := fun {σ' H' v u} J rv q => ⟨v, H', J.os, J.bare, J.base, J.hok, rv, q⟩
  cases fl with
  | next =>
    obtain ⟨σ', H', J, q⟩ := hs
    exact fin (v := V.non) (u := Value.none) J rfl q
  | ret u =>
    obtain ⟨v, σ', H', J, rv, q⟩ := hs
    exact fin J rv q
  | brk => exact hs.elim fun _ h => h.elim fun _ h => False.elim h.2
  | cont => exact hs.elim fun _ h => h.elim fun _ h => False.elim h.2
section
variable {K : PySem.W.Frag} {T : List (Hd × V)} {σ : L2.St} {s : Sl} {H : Hp}
theorem slH_none : ∀ n : Nat, slH (List.replicate n none) (List.replicate n none) = []
  | 0 => rfl
  | n + 1 => by
    rw [List.replicate_succ]
    exact slH_none n
theorem fits_none : ∀ n : Nat, fits (List.replicate n none) (List.replicate n none)
  | 0 => trivial
  | n + 1 => by
    rw [List.replicate_succ]
    exact fits_none n
theorem slH_start {n : Nat} : ∀ {ovs : List OV} {vs : List V}, ovs.length = vs.length → slH (ovs.map some ++ List.replicate n none) (vs.map some ++ List.replicate n none) = zipH ovs vs ∧ fits (ovs.map some ++ List.replicate n none) (vs.map some ++ List.replicate n none)
  | [], [], _ => ⟨slH_none n, fits_none n⟩
  | [], _ :: _, h => by cases h
  | _ :: _, [], h => by cases h
  | v :: ovs, x :: vs, h => by
    obtain ⟨h1, h2⟩ := slH_start (n := n) (ovs := ovs) (vs := vs) (by simpa using h)
    refine ⟨?_, h2⟩
    show (Hd.ov v, x) :: slH (ovs.map some ++ List.replicate n none) (vs.map some ++ List.replicate n none) = (Hd.ov v, x) :: zipH ovs vs
    rw [h1]
theorem WI.only (np : noPk T) (w : WI K s T σ H) : WI K [] T [] H := (w.toHeld np).drops
theorem outsOf_set {i : Nat} : ∀ {is : List Nat}, i ∉ is → outsOf is (s.set i none) = outsOf is s
  | [], _ => rfl
  | j :: is, h => by
    simp only [List.mem_cons, not_or] at h
    rw [outsOf, outsOf, outsOf_set h.2, at_set, if_neg h.1]
theorem outs_ok {vs : List V} : ∀ {lk : List Nat} {os : List OV} {s : Sl} {T : List (Hd × V)}, outsOf lk s = some os → lk.Nodup → noPk T → (∀ j ∈ lk, σ[j]? = some (some (vs.getD j default))) → WI K s T σ H → os.length = lk.length ∧ WI K [] (zipH os (lentV lk vs) ++ T) [] H
  | [], os, s, T, h, _, np, _, w => by
    rw [outsOf] at h
    cases h
    exact ⟨rfl, w.only np⟩
  | i :: is, os, s, T, h, nd, np, hx, w => by
    rw [outsOf] at h
    cases e : at_ s i with
    | none => rw [e] at h; cases h
    | some v =>
      rw [e] at h
      have h : (outsOf is s).map (v :: ·) = some os := h
      cases e2 : outsOf is s with
      | none => rw [e2] at h; cases h
      | some os' =>
        rw [e2] at h
        cases h
        obtain ⟨n1, n2⟩ := List.nodup_cons.mp nd
        obtain ⟨x, hσ, w1⟩ := w.mvOut np e
        rw [hx i (by simp)] at hσ
        cases hσ
        obtain ⟨l, w2⟩ := outs_ok (lk := is) (T := (.ov v, vs.getD i default) :: T) (by rw [outsOf_set n1]; exact e2) n2 np (fun j hj => hx j (by simp [hj])) w1
        exact ⟨by simp [l], w2.perm List.perm_middle⟩
end
/-- the table that a code object names -/
def tabAt (K : PySem.W.Frag) (c : Addr) : Addr := match K.lookup c with
  | some o => (match o.data with
    | .fields vs => (match (vs[11]? : Option Value) with
      | some (.ref P) => P
      | _ => 0)
    | _ => 0)
  | _ => 0
/-- each def's code object is whole -/
def tbHd (K : PySem.W.Frag) : Bool := K.all fun q => match q.2.data with
  | .func fd => (match fd.code with
    | .ref c => PySem.W.codeHdIn K c (tabAt K c)
    | _ => true)
  | _ => true
theorem lk_mm {a : Addr} {o : Obj} : ∀ {l : List (Addr × Obj)}, l.lookup a = some o → (a, o) ∈ l
  | (b, u) :: r, h => by
    rw [List.lookup_cons] at h
    cases q : (a == b) with
    | true =>
      rw [q] at h
      cases h
      rw [beq_iff_eq.mp q]
      exact List.mem_cons_self
    | false =>
      rw [q] at h
      exact List.mem_cons_of_mem _ (lk_mm h)
theorem tab_of {K : PySem.W.Frag} {mg : Str → Option Value} {base : Heap} {f : Addr} {oc : Value} {od : Option Addr} {fd : FuncData} {osl : Array (Option Value)} {c : Addr} (h : tbHd K = true) (lk : K.lookup f = some ⟨oc, od, .func fd, osl⟩) (hc : fd.code = .ref c) (X : K.In base)
    (hB : ∀ p ∈ tbOf K, base.BuiltinsAt mg p.1 ∧ mainGlobals ≠ p.1) : ∃ P, LamX.TabB base mg c P ∧ (P, fd.qualname ++ ".<locals>." ++ "<lambda>") ∈ tbOf K := by
  have hm := lk_mm lk
  have h1 := List.all_eq_true.mp h _ hm
  have h1 : (match fd.code with
    | .ref c => PySem.W.codeHdIn K c (tabAt K c)
    | _ => true) = true := h1
  rw [hc] at h1
  have h1 : PySem.W.codeHdIn K c (tabAt K c) = true := h1
  have hin : (tabAt K c, fd.qualname ++ ".<locals>." ++ "<lambda>") ∈ tbOf K := by
    refine List.mem_filterMap.mpr ⟨_, hm, ?_⟩
    show (match fd.code with
      | .ref c => (match K.lookup c with
        | some o => (match o.data with
          | .fields vs => (match (vs[11]? : Option Value) with
            | some (.ref P) => some (P, fd.qualname ++ ".<locals>." ++ "<lambda>")
            | _ => none)
          | _ => none)
        | _ => none)
      | _ => none) = _
    rw [hc]
    show (match K.lookup c with
        | some o => (match o.data with
          | .fields vs => (match (vs[11]? : Option Value) with
            | some (.ref P) => some (P, fd.qualname ++ ".<locals>." ++ "<lambda>")
            | _ => none)
          | _ => none)
        | _ => none) = _
    obtain ⟨o, vs, file, tf, flags, tg, inF, text, tt, q1, q2, q3, q4, _⟩ := PySem.W.codeHd_of_K X h1
    unfold PySem.W.codeHdIn at h1
    unfold tabAt at h1 ⊢
    cases e : K.lookup c with
    | none => rw [e] at h1; cases h1
    | some o' =>
      have e2 := X _ _ e
      rw [q1] at e2
      cases e2
      simp only [q3]
      unfold tabAt at q4
      rw [e] at q4
      simp only [q3] at q4
      rw [q4]
  obtain ⟨b1, b2⟩ := hB _ hin
  exact ⟨_, ⟨PySem.W.codeHd_of_K X h1, b1, b2⟩, hin⟩
/-- what the text around says -/
structure TxtOk (M : SM) (P : Program) (K : PySem.W.Frag) (mg : Str → Option Value) : Prop where
  blt : ∀ b : BI, mg b.nm = none
  isi : mg "isinstance" = none
  tys : ∀ t : Ty, mg t.x = none
  b : BlF M.C K mg
  ks : ∀ (i : Nat) (x : Str) (d : D), M.C.ks[i]? = some (x, d) → ∃ v u, mg x = some u ∧ RelV v u ∧ ∀ H, Dq K H v d
  gl : ∀ (c : Nat) (nm fl : Str), M.C.cls[c]? = some (nm, fl) → mg nm = some (.ref (M.ca c))
  mkr : ∀ (c : Nat) (nm fl : Str), M.C.cls[c]? = some (nm, fl) → Rs fl → fl ≠ "-" → ErP P K mg fl nm (M.ca c)
  mkn : ∀ (c : Nat) (nm : Str), M.C.cls[c]? = some (nm, ("-" : Str)) → ErN P K mg nm (M.ca c)
  exm : ∀ (c k : Nat) (nm nm' fl fl' : Str), M.C.cls[c]? = some (nm, fl) → Rs fl → M.C.cls[k]? = some (nm', fl') → PySem.W.exmOne K (.ref (M.ca c)) (.ref (M.ca k)) = some ((M.C.sub.getD k []).contains c)
  tds : ∀ (g : Nat) (td : TdI), M.C.tds[g]? = some td → TdOk K mg td
  tbu : ∀ p ∈ tbOf K, ∀ q ∈ tbOf K, p.1 = q.1 → p.2 = q.2
  tbh : tbHd K = true
  fns : ∀ (f : Nat) (fi : FnI), M.C.fns[f]? = some fi → ∃ (fa : Addr) (fd : FuncData) (qual : Str) (params : Arguments) (body : List Stmt) (scope : Scope), mg fi.name = some (.ref fa) ∧ PySem.W.keepIn K (.ref fa) = true ∧ FunD K fi.name qual params body scope [] [] fa fd ∧ FnScope fi.N fi.ps scope ∧
    chkB M.C fi.fn.body ⟨fi.N, scope, fun _ => true, fi.fn.lent, true⟩ body = true ∧ fi.N.length = fi.fn.ns ∧ fi.ps.length = fi.fn.ar ∧ fi.fn.lent.Nodup ∧ (∀ j ∈ fi.fn.lent, j < fi.fn.ar) ∧ ∀ n ks pm, (f, n, ks, pm) ∈ M.C.kws → KB K fd fi.ps n ks pm
/-- the meaning at depth n -/
def smAt (C : Cfg) (ca : Nat → Addr) (wf n : Nat) : SM := ⟨C, ca, run C.prog wf n, wf⟩
theorem prog_at {C : Cfg} {f : Nat} {fi : FnI} (h : C.fns[f]? = some fi) : C.prog[f]? = some fi.fn := by
  unfold Cfg.prog
  rw [List.getElem?_map, h]
  rfl
theorem defs_ok {C : Cfg} {ca : Nat → Addr} {wf : Nat} {P : Program} {w : World} {K : PySem.W.Frag} {mg : Str → Option Value} {base : Heap} (tx : TxtOk (smAt C ca wf 0) P K mg) (KB : K.In base) (hB : ∀ p ∈ tbOf K, base.BuiltinsAt mg p.1 ∧ mainGlobals ≠ p.1) : ∀ n, Defs (smAt C ca wf n) P w K mg base (4 * n)
  | 0 => fun f fi hf => by
    obtain ⟨fa, fd, qual, params, body, scope, hm, hk, F, S, hch, l1, l2, l3, l4, hkb⟩ := tx.fns f fi hf
    refine ⟨fa, fd, hm, hk, ⟨fun vs H Q E h => h.1, fun A outer s H args us vs Q E hr hgd e0 hb r hsp => ?_⟩, hkb⟩
    obtain ⟨_, ovs, T, _, _, _, h⟩ := hsp
    exact h.elim
  | n + 1 => fun f fi hf => by
    have D := defs_ok (w := w) (base := base) tx KB hB n
    obtain ⟨fa, fd, qual, params, body, scope, hm, hk, F, S, hch, l1, l2, l3, l4, hkb⟩ := tx.fns f fi hf
    refine ⟨fa, fd, hm, hk, fn_g (k := 4 * n + 3) F S (fun vs H Q E h => h.1) (fun cdv lk hcd A outer s H vs Q E hr hgd hsp => ?_), hkb⟩
    obtain ⟨oc, od, dV, kV, doc, pm, an, ct, osl, lk⟩ := lk
    obtain ⟨cc, rfl⟩ := He.codeIn_ref hcd
    obtain ⟨Pt, hTB, hin⟩ := tab_of tx.tbh lk rfl KB hB
    have sv : Sv (smAt C ca wf n) (cxOf (L2.CX P w) P w K mg base fi.N qual scope fa (.ref cc) A outer s H E) (fun cls d _ H => E cls d H) ⟨fi.N, scope, fun _ => true, fi.fn.lent, true⟩ (4 * n) := {
      ev := {
        gd := { N := rfl, nd := S.nd, sc := rfl, fn := rfl, calm := rfl, units := by have := hr.un; show (A.deeper (envOfC qual scope s.heap.objs.size fa (.ref cc))).units + 80 < cLine; omega, grd := hgd, blt := tx.blt, isi := tx.isi, tys := tx.tys, ks := tx.ks }
        tk := takes_of rfl rfl rfl rfl
        rm := hr.mono (by omega)
        df := D
        b := tx.b
        lm := fun _ => ⟨hr, ⟨tx.gl, tx.mkr, tx.mkn, tx.exm⟩, ⟨⟨cc, Pt, rfl, hTB, hin⟩, tx.tbu⟩, tx.tds⟩ }
      er := ⟨tx.gl, tx.mkr, tx.mkn, tx.exm⟩
      own := passes_of rfl
      stk := rfl
      frm := rfl }
    refine ⟨_, sB fi.fn.body sv hch, ?_⟩
    obtain ⟨hvl, ovs, T, hol, np, w0, hfr⟩ := hsp
    have hrun : (smAt C ca wf (n + 1)).ft f ovs = evF wf (run C.prog wf n) fi.fn ovs := by
      show run C.prog wf (n + 1) f ovs = _
      show (match C.prog[f]? with
        | some fn => evF wf (run C.prog wf n) fn ovs
        | none => .bad) = _
      rw [prog_at (C := C) hf]
    rw [hrun] at hfr
    unfold evF at hfr
    rw [if_pos (by omega)] at hfr
    have hns : fi.fn.ns - fi.fn.ar = fi.N.length - vs.length := by omega
    obtain ⟨s1, s2⟩ := slH_start (n := fi.N.length - vs.length) hol
    have w1 : WI K (ovs.map some ++ List.replicate (fi.N.length - vs.length) none) T (start fi.N vs) H := WI.ofHeld np s2 (by
      show WI K [] (slH (ovs.map some ++ List.replicate (fi.N.length - vs.length) none) (vs.map some ++ List.replicate (fi.N.length - vs.length) none) ++ T) [] H
      rw [s1]
      exact w0)
    rw [hns] at hfr
    have hst : ∀ j ∈ fi.fn.lent, (start fi.N vs)[j]? = some (some (vs.getD j default)) := fun j hj => by
      have := l4 j hj
      have hjl : j < vs.length := by omega
      unfold L2.start
      rw [List.getElem?_append_left (by simpa using hjl), List.getElem?_map, List.getElem?_eq_getElem hjl]
      simp [List.getD_eq_getElem?_getD, List.getElem?_eq_getElem hjl]
    refine ⟨_, T, w1, np, ?_⟩
    show RS (smAt C ca wf n) K _ fi.fn.lent T (start fi.N vs) _ (evB wf (run C.prog wf n) fi.fn.body _)
    cases hev : evB wf (run C.prog wf n) fi.fn.body (ovs.map some ++ List.replicate (fi.N.length - vs.length) none) with
    | bad => rw [hev] at hfr; exact hfr.elim
    | exc cc d s' =>
      rw [hev] at hfr
      intro σ' fr x dx H' w'
      unfold R.fin at hfr
      simp only at hfr
      cases ho : outsOf fi.fn.lent s' with
      | none => rw [ho] at hfr; exact hfr.elim
      | some os =>
        rw [ho] at hfr
        obtain ⟨l, w2⟩ := outs_ok (vs := vs) (T := XH (smAt C ca wf n) cc d x dx ++ T) ho l3 (np_app noPk_XH np) (fun j hj => (fr j hj).trans (hst j hj)) w'
        refine hfr x dx H' l (w2.perm ?_)
        rw [← List.append_assoc, ← List.append_assoc]
        exact List.perm_append_comm.append_right T
    | ok fl s' =>
      rw [hev] at hfr
      cases fl with
      | nx =>
        intro σ' H' fr w'
        unfold R.fin at hfr
        simp only at hfr
        cases ho : outsOf fi.fn.lent s' with
        | none => rw [ho] at hfr; exact hfr.elim
        | some os =>
          rw [ho] at hfr
          obtain ⟨l, w2⟩ := outs_ok (vs := vs) (T := (.ov (.imm .none), .non) :: T) ho l3 np (fun j hj => (fr j hj).trans (hst j hj)) (w'.scal fun _ => .non)
          exact hfr _ H' l (w2.perm List.perm_middle)
      | rt v =>
        intro x σ' H' fr w'
        unfold R.fin at hfr
        simp only at hfr
        cases ho : outsOf fi.fn.lent s' with
        | none => rw [ho] at hfr; exact hfr.elim
        | some os =>
          rw [ho] at hfr
          obtain ⟨l, w2⟩ := outs_ok (vs := vs) (T := (.ov v, x) :: T) ho l3 np (fun j hj => (fr j hj).trans (hst j hj)) w'
          exact hfr x H' l (w2.perm List.perm_middle)
      | br => exact hfr.elim
      | ct => exact hfr.elim
end PV
end
section
set_option Elab.async false
set_option linter.all false
set_option maxRecDepth 100000
set_option maxHeartbeats 2000000
/-! PwE: a law's end, for defs with guards. -/
namespace PV
open PySem PySem.Spec PyProof.Rows L2
def isLst : Value → Bool
  | .type "list" => true
  | _ => false
def noLst (K : PySem.W.Frag) : Bool := K.all fun q => !isLst q.2.cls
theorem lk_mem {a : Addr} {o : Obj} : ∀ {l : List (Addr × Obj)}, l.lookup a = some o → (a, o) ∈ l
  | (b, u) :: r, h => by
    rw [List.lookup_cons] at h
    cases q : (a == b) with
    | true =>
      rw [q] at h
      cases h
      rw [beq_iff_eq.mp q]
      exact List.mem_cons_self
    | false =>
      rw [q] at h
      exact List.mem_cons_of_mem _ (lk_mem h)
theorem noLst_ok {K : PySem.W.Frag} (h : noLst K = true) {a : Addr} {d : Option Addr} {dt : Data} {sl : Array (Option Value)} : K.lookup a ≠ some ⟨.type "list", d, dt, sl⟩ := fun e => by
  have z := List.all_eq_true.mp h _ (lk_mem e)
  cases z
theorem tb_code {K : PySem.W.Frag} {h : Heap} (X : K.In h) (q : tbHd K = true) {p : Addr × Str} (hp : p ∈ tbOf K) : ∃ c, PySem.W.CodeHd h c p.1 := by
  obtain ⟨⟨f, o⟩, hm, e⟩ := List.mem_filterMap.mp hp
  have h1 := List.all_eq_true.mp q _ hm
  dsimp only at e h1
  cases hd : o.data with
  | func fd =>
    rw [hd] at e h1
    dsimp only at e h1
    cases hc : fd.code with
    | ref c =>
      rw [hc] at e h1
      dsimp only at e h1
      have hh := PySem.W.codeHd_of_K X h1
      refine ⟨c, ?_⟩
      have : tabAt K c = p.1 := by
        unfold tabAt
        cases hl : K.lookup c with
        | none => rw [hl] at e; cases e
        | some oo =>
          rw [hl] at e
          dsimp only at e ⊢
          cases hdd : oo.data with
          | fields vs =>
            rw [hdd] at e
            dsimp only at e ⊢
            split at e
            · rename_i P hP
              cases e
              first
                | rfl
                | rw [hP]
            · cases e
          | _ => rw [hdd] at e; cases e
      rw [← this]
      exact hh
    | _ => rw [hc] at e; cases e
  | _ => rw [hd] at e; cases e
theorem law_g {P : Program} {w : World} {K : PySem.W.Frag} {mg mb : Str → Option Value} {k : Nat} {fa a : Addr} {x : Str} {sp : Sp} {s₁ : Shared} {vs : List Value} {ns : List Int}
    (KX : K.In s₁.heap) (hns : s₁.heap.Ns mainGlobals mg) (hb : s₁.heap.Ns builtinsNs mb) (hbb : ∀ x : Str, x ≠ "__name__" → mb x = bootBuiltins x) (hlim : s₁.heap.NoLimit) (hg : s₁.gens = #[])
    (ha : s₁.heap.get? a = some { cls := .type "list", data := .seq vs.toArray }) (hi : IntsAre vs ns) (hl : ns.length ≤ sizeLine) (hr : Room k callerA) (hnl : noLst K = true)
    (hT : ∀ p ∈ tbOf K, s₁.heap.get? p.1 = some { cls := .none, data := .fields #[] }) (nT : ∀ p ∈ tbOf K, K.lookup p.1 = none) (hTc : tbHd K = true)
    (hbm : ∃ (bm : Addr) (ob : Obj), mg "__builtins__" = some (.ref bm) ∧ bm ≠ builtinsNs ∧ s₁.heap.get? bm = some ob ∧ ob.cls = .type "module" ∧ ob.dict = some builtinsNs ∧ ob.data = .plain)
    (F : ∀ base : Heap, K.In base → (∀ p ∈ tbOf K, base.BuiltinsAt mg p.1 ∧ mainGlobals ≠ p.1) → ∃ fd : FuncData, FnG P w K mg base k fa fd [x] sp ∧ KB K fd [x] 1 [] [0])
    (hsp : ∀ H : Hp, Rd H a (.lst (ns.map V.int)) → (∀ p ∈ tbOf K, p.1 ≠ a ∧ H p.1 = some (.tbl #[])) → sp [.ref a] H (fun v _ => v = .bl true) fun _ _ _ => False) :
    codeAny (model P w) callerA (.call (.ref fa) ⟨[.ref a], []⟩) (fun r s' => r = .ok (.ret (.bool true)) ∧ OldK s₁.heap s'.heap ∧ s'.os = s₁.os ∧ AllBare s'.gens) s₁ := by
  have rv := vals_ints hi
  have hk : K.lookup a = none := by
    cases hk : K.lookup a with
    | none => rfl
    | some o =>
      have e := KX a o hk
      rw [ha] at e
      cases e
      exact absurd hk (noLst_ok hnl)
  let tb : List Addr := (tbOf K).map (·.1)
  have inT : ∀ p ∈ tbOf K, p.1 ∈ tb := fun p hp => List.mem_map.mpr ⟨p, hp, rfl⟩
  have isT : ∀ b ∈ tb, s₁.heap.get? b = some { cls := .none, data := .fields #[] } := fun b hb => by
    obtain ⟨p, hp, rfl⟩ := List.mem_map.mp hb
    exact hT p hp
  have aT : a ∉ tb := fun z => by
    have q := isT a z
    rw [ha] at q
    have z' : Data.seq vs.toArray _ = Data.fields #[] := congrArg Obj.data (Option.some.inj q)
    cases z'
  let O : HO := .frz { cls := .type "list", data := .seq vs.toArray } (.lst (ns.map V.int))
  let H : Hp := fun b => if b = a then some O else if b ∈ tb then some (.tbl #[]) else none
  have hHa : H a = some O := if_pos rfl
  have hHt : ∀ {b}, b ∈ tb → H b = some (.tbl #[]) := fun {b} hb => (if_neg (show ¬b = a from fun z => aT (z ▸ hb))).trans (if_pos hb)
  have hHn : ∀ {b}, b ≠ a → b ∉ tb → H b = none := fun {b} h1 h2 => (if_neg h1).trans (if_neg h2)
  have cases3 : ∀ b, b = a ∨ b ∈ tb ∨ H b = none := fun b => by
    by_cases h1 : b = a
    · exact .inl h1
    · by_cases h2 : b ∈ tb
      · exact .inr (.inl h2)
      · exact .inr (.inr (hHn h1 h2))
  have base_of : ∀ {b : Addr} {o : Obj}, s₁.heap.get? b = some o → (∀ vs n, o.data ≠ .seq vs n) → o.data ≠ .fields #[] → (hidT s₁.heap H).get? b = some o := fun {b o} e h1 h2 => by
    rcases cases3 b with rfl | hb | hb
    · rw [ha] at e; cases e; exact absurd rfl (h1 _ _)
    · rw [isT b hb] at e; cases e; exact absurd rfl h2
    · exact hidT_get e hb
  have nsK : ∀ {b : Addr} {m : Str → Option Value}, s₁.heap.Ns b m → (hidT s₁.heap H).Ns b m := fun {b m} ⟨o, es, ep, e, d, r⟩ => ⟨o, es, ep, base_of e (fun vs n z => by rw [d] at z; cases z) (fun z => by rw [d] at z; cases z), d, r⟩
  have hKb : K.In (hidT s₁.heap H) := fun b o e => by
    rcases cases3 b with rfl | hb | hb
    · rw [hk] at e; cases e
    · obtain ⟨p, hp, rfl⟩ := List.mem_map.mp hb
      rw [nT p hp] at e; cases e
    · exact hidT_get (KX b o e) hb
  have hM : Mod K mg (hidT s₁.heap H) := ⟨hKb, nsK hns, ⟨mb, nsK hb, hbb⟩, let ⟨mc, h1, h2⟩ := hlim; ⟨mc, nsK h1, h2⟩⟩
  have hok : HOk P w H s₁.heap := fun b u z => by
    rcases cases3 b with rfl | hb | hb
    · rw [hHa] at z; cases z
      exact ⟨ha, by rw [List.length_map]; exact hl, vs, _, rv, ha⟩
    · rw [hHt hb] at z; cases z
      exact isT b hb
    · rw [hb] at z; cases z
  have e0 : Env0 P w K mg (hidT s₁.heap H) callerA [] s₁ H :=
    ⟨rfl, hM, fun b o e => of_hidT e, Nat.le_of_eq (hidT_size _ _), trivial, fun b hb => absurd (show b ∈ ([] : List Addr) from hb) (by simp), hok, .of_eq hg⟩
  have hBt : ∀ p ∈ tbOf K, (hidT s₁.heap H).BuiltinsAt mg p.1 ∧ mainGlobals ≠ p.1 := fun p hp => by
    have hTp := hT p hp
    refine ⟨?_, fun z => ?_⟩
    · obtain ⟨bm, ob, b1, b2, b3, b4, b5, b6⟩ := hbm
      refine ⟨bm, ob, b1, b2, fun q => ?_, fun q => ?_, base_of b3 (fun vs n z => by rw [b6] at z; cases z) (fun z => by rw [b6] at z; cases z), b4, b5, b6⟩
      · obtain ⟨o, es, ep, e, hd, _⟩ := hns
        rw [q, e] at b3
        cases b3
        rw [hd] at b6
        cases b6
      · rw [q, hTp] at b3
        cases b3
        cases b6
    · obtain ⟨o, es, ep, e, hd, _⟩ := hns
      rw [z, hTp] at e
      cases e
      cases hd
  obtain ⟨fd, hF, hkb⟩ := F (hidT s₁.heap H) hKb hBt
  refine codeAny_mono (hF.run callerA [] s₁ H ⟨[.ref a], []⟩ [.ref a] [.ref a] _ _ hr rfl e0 (hkb s₁ [.ref a] [] KX rfl rfl) (.cons rfl .nil) (hsp H (.inr ⟨_, hHa⟩) fun p hp => ⟨fun z => aT (z ▸ inT p hp), hHt (inT p hp)⟩)) fun r s' h => ?_
  cases r with
  | error e =>
    obtain ⟨c, d, H', h1⟩ := h
    exact absurd h1 (by simp)
  | ok fl =>
    cases fl with
    | next => exact False.elim h
    | brk => exact False.elim h
    | cont => exact False.elim h
    | ret u =>
      obtain ⟨v, H', os, bare, un, hok', r', q⟩ := h
      have q' : v = .bl true := q
      subst q'
      obtain rfl : u = Value.bool true := r'
      have same : ∀ b o, b ∉ tb → s₁.heap.get? b = some o → s'.heap.get? b = some o := fun b o nb e => by
        rcases cases3 b with rfl | hb | hb
        · obtain ⟨e2, _⟩ := hok' b _ (un.frzs b _ _ hHa)
          rw [ha] at e; cases e
          exact e2
        · exact absurd hb nb
        · exact un.keep b o e hb (by intro z; exact absurd (show b ∈ ([] : List Addr) from z) (by simp)) (by simp)
      have grown : ∀ p ∈ tbOf K, ∃ more : Array Value, s'.heap.get? p.1 = some { cls := .none, data := .fields more } := fun p hp => by
        obtain ⟨more, z⟩ := un.tbls p.1 #[] (hHt (inT p hp))
        exact ⟨_, hok' p.1 _ z⟩
      refine ⟨rfl, ⟨fun b o e => ?_, fun b o e => ?_⟩, os, bare⟩
      · by_cases hb : b ∈ tb
        · obtain ⟨p, hp, rfl⟩ := List.mem_map.mp hb
          obtain ⟨more, hm⟩ := grown p hp
          rw [hT p hp] at e
          cases e
          obtain ⟨c, hc⟩ := tb_code KX hTc hp
          exact .inr (.inl ⟨(hc.tab (hT p hp)).isCodeTable, rfl, #[], more, rfl, by rw [Array.empty_append]; exact hm⟩)
        · exact .inl (same b o hb e)
      · by_cases hb : b ∈ tb
        · obtain ⟨p, hp, rfl⟩ := List.mem_map.mp hb
          obtain ⟨more, hm⟩ := grown p hp
          exact ⟨_, hm⟩
        · exact ⟨o, same b o hb e⟩
/-- the law's promise, by what it computes -/
theorem law_sp {C : Cfg} {ca : Nat → Addr} {wf n : Nat} {K : PySem.W.Frag} {fi : FnI} {li : Nat} {H : Hp} {a : Addr} {ns : List Int} (hp : fi.ps.length = 1) (hl : fi.fn.lent = []) (hnd : ((tbOf K).map (·.1)).Nodup) (hT : ∀ p ∈ tbOf K, p.1 ≠ a ∧ H p.1 = some (.tbl #[]))
    (hr : run C.prog wf n li [.imm (.list (ns.map .int))] = .ok (.imm (.bool true)) []) (r : Rd H a (.lst (ns.map V.int))) : spF (smAt C ca wf n) K fi li [.ref a] H (fun v _ => v = .bl true) fun _ _ _ => False := by
  let G : Hp := fun b => if b = a then H a else none
  have rG : Rd G a (.lst (ns.map V.int)) := by
    have e : G a = H a := if_pos rfl
    unfold Rd at r ⊢
    rw [e]
    exact r
  have q : ∀ ns : List Int, DqAll K G (ns.map V.int) (ns.map PyData.int) := fun ns => by
    induction ns with
    | nil => exact .nil
    | cons i r ih => exact .cons (.int i) ih
  have eG : Ext G H := fun b o g => by
    by_cases hb : b = a
    · subst hb
      have g : (if b = b then H b else none) = some o := g
      rw [if_pos rfl] at g
      exact g
    · have g : (if b = a then H a else none) = some o := g
      rw [if_neg hb] at g
      cases g
  have nn : ∀ b ∈ (([] : List Addr) ++ ((tbOf K).map (·.1) ++ [])), G b = none := fun b hb => by
    have hb : b ∈ (tbOf K).map (·.1) := by simpa using hb
    obtain ⟨p, hp, rfl⟩ := List.mem_map.mp hb
    exact if_neg (hT p hp).1
  have tbr : TbR K G H ((tbOf K).map (·.1)) := by
    refine ⟨fun b hb => ?_, fun p hp => ⟨List.mem_map.mpr ⟨p, hp, rfl⟩, #[], (hT p hp).2, True.intro, fun pos cv hc => ?_⟩⟩
    · obtain ⟨p, hp, rfl⟩ := List.mem_map.mp hb
      exact ⟨⟨p.2, hp⟩, #[], (hT p hp).2⟩
    · have z : codeAmong pos [] = some cv := hc
      simp [codeAmong] at z
  refine ⟨hp.symm, [.imm (.list (ns.map .int))], [(.tbs, .non)], rfl, trivial, ⟨G, [], (tbOf K).map (·.1) ++ [], eG, ⟨rfl, rfl⟩, ⟨[], _, rfl, ⟨rfl, .lst rG (q ns)⟩, _, [], rfl, tbr, rfl⟩, by simpa using hnd, nn⟩, ?_⟩
  show (match run C.prog wf n li [.imm (.list (ns.map .int))] with
    | .ok v os => _
    | .exc c d os => _
    | .bad => False)
  rw [hr]
  intro x H' _ w
  obtain ⟨G, A, B, e, hs, ⟨b, c, rfl, h1, h2⟩, nd, nb⟩ := w
  have z := h1.2
  cases z
  rfl
/-- what a law's walk asks of the written part -/
structure WalkK (P : Program) (C : Cfg) (ca : Nat → Addr) (wf : Nat) (K : PySem.W.Frag) (h : Heap) (mg : Str → Option Value) : Prop where
  inK : K.In h
  lst : noLst K = true
  txt : TxtOk (smAt C ca wf 0) P K mg
  tab : ∀ p ∈ tbOf K, h.get? p.1 = some { cls := .none, data := .fields #[] }
  nin : ∀ p ∈ tbOf K, K.lookup p.1 = none
  nd : ((tbOf K).map (·.1)).Nodup
  bm : ∃ (bm : Addr) (ob : Obj), mg "__builtins__" = some (.ref bm) ∧ bm ≠ builtinsNs ∧ h.get? bm = some ob ∧ ob.cls = .type "module" ∧ ob.dict = some builtinsNs ∧ ob.data = .plain
/-- a law walked by its text's checker -/
theorem walk_g {l : PySem.W.OpenLaw} {n : Nat} {q : Program} {loose : List Str} {XP : (Str → Option Value) → Heap → Prop} {YP : World → Heap → Prop} {d : DefRec} {C : Cfg} {wf li : Nat} {fi : FnI} {x : Str} (k : Nat)
    (hn : l.most = some n) (hn2 : n ≤ sizeLine) (hdf : d.params.defaults = []) (hr : Room (4 * k) callerA) (hf : C.fns[li]? = some fi) (hnm : fi.name = d.name) (hps : fi.ps = [x]) (hl : fi.fn.lent = []) (hkw : (li, 1, [], [0]) ∈ C.kws)
    (F : ∀ (w : World) (mg : Str → Option Value) (h : Heap), YP w h → h.Ns mainGlobals mg → ∃ (K : PySem.W.Frag) (ca : Nat → Addr), WalkK l.prog C ca wf K h mg)
    (hrun : ∀ ns : List Int, ns.length ≤ n → run C.prog wf k li [.imm (.list (ns.map .int))] = .ok (.imm (.bool true)) []) :
    PySem.W.WalkO q loose XP YP l.row.toRowW d [] (fun f vs => PySem.call f vs) := by
  refine Att.attach_call hn hdf fun w s₀ s₁ mg mb fa o pm cd doc a vs ns G Y ho hd hcd hmg hobj hints hlen hg => ?_
  obtain ⟨K, ca, wk⟩ := F w mg _ Y G.T.g
  refine law_g (x := x) (sp := spF (smAt C ca wf k) K fi li) (k := 4 * k) wk.inK G.T.g G.T.b G.T.builtins G.T.nolimit hg hobj hints (Nat.le_trans hlen hn2) hr wk.lst wk.tab wk.nin wk.txt.tbh wk.bm (fun base hKb hB => ?_) fun H r hT => law_sp (by rw [hps]; rfl) hl wk.nd hT (hrun ns hlen) r
  obtain ⟨fa', fd, hm, _, hF, hkb⟩ := defs_ok (w := w) (base := base) wk.txt hKb hB k li fi hf
  rw [hnm] at hm
  have e := hm.symm.trans hmg
  cases e
  rw [hps] at hF hkb
  exact ⟨fd, hF, hkb _ _ _ hkw⟩
end PV
end
section
set_option Elab.async false
set_option linter.all false
set_option maxRecDepth 100000
set_option maxHeartbeats 4000000
/-! PwF: an own error class, as a Bool of the head. -/
namespace PV
namespace Er
open PySem PySem.Spec PySem.W PyProof.Rows L2 He
def clsB (K : Frag) (C : Addr) : Bool := match K.lookup C with
  | some ⟨.type "type", _, .cls cd, sl⟩ => (match cd.mro, sl.toList with
    | .ref C' :: bm, [_, _, _, _, some (.builtin n), _] => C' == C && (n == "Exception.__new__" && (!cd.hasDel && (cd.hasDict && refsEx bm)))
    | _, _ => false)
  | _ => false
theorem clsB_ok {K : Frag} {C : Addr} (q : clsB K C = true) : ∃ nm q N bs bm sn sub ab col dd k0 k1 k2 k3 k5, K.lookup C = some (excClassObj nm q C N bs bm true sn sub ab col dd k0 k1 k2 k3 k5 "Exception.__new__") ∧ refsEx bm = true := by
  unfold clsB at q
  split at q
  · rename_i dd cd sl ho
    split at q
    · rename_i C' bm k0 k1 k2 k3 n k5 hm hs
      simp only [Bool.and_eq_true, beq_iff_eq, Bool.not_eq_true'] at q
      obtain ⟨rfl, rfl, hdel, hd, ht⟩ := q
      obtain ⟨nm, bs, mro, ns, qn, hd', sn, sub, ab, col, del⟩ := cd
      dsimp only at hm hdel hd
      subst hm hdel hd
      have hsl : sl = #[k0, k1, k2, k3, some (.builtin "Exception.__new__"), k5] := by
        obtain ⟨l⟩ := sl
        simp only at hs
        rw [hs]
      subst hsl
      exact ⟨nm, qn, ns, bs, bm, sn, sub, ab, col, dd, k0, k1, k2, k3, k5, ho, ht⟩
    · cases q
  · cases q
def argsB (a : Arguments) : Option (Pos × Pos) := match a with
  | { posonlyargs := [], args := [{ arg := x, annotation := none, pos := p1 }, { arg := y, annotation := none, pos := p2 }], vararg := none, kwonlyargs := [], kw_defaults := [], kwarg := none, defaults := [] } => if x = "self" ∧ y = "at" then some (p1, p2) else none
  | _ => none
theorem argsB_ok {a : Arguments} {r : Pos × Pos} (h : argsB a = some r) : a = iA r.1 r.2 := by
  unfold argsB at h
  split at h
  · rename_i x p1 y p2
    by_cases e : x = "self" ∧ y = "at"
    · rw [if_pos e] at h
      obtain ⟨rfl, rfl⟩ := e
      cases h
      rfl
    · rw [if_neg e] at h
      cases h
  · cases h
structure BodyP where
  txt : Str
  q1 : Pos
  q2 : Pos
  q3 : Pos
  q4 : Pos
  q5 : Pos
  q6 : Pos
  r1 : Pos
  r2 : Pos
  r3 : Pos
  r4 : Pos
  kk : Nat
def BodyP.body (b : BodyP) : List Stmt := iB b.txt b.q1 b.q2 b.q3 b.q4 b.q5 b.q6 b.r1 b.r2 b.r3 b.r4 b.kk
def bodyB (b : List Stmt) : Option BodyP := match b with
  | [.Expr (.Call (.Attribute (.Call (.Name x1 q1) [] [] q2) x2 q3) [.Constant (.str txt) kk q4] [] q5) q6, .Assign [.Attribute (.Name x3 r1) x4 r2] (.Name x5 r3) r4] =>
    if (x1 = "super" ∧ x2 = "__init__") ∧ x3 = "self" ∧ x4 = "at" ∧ x5 = "at" then some ⟨txt, q1, q2, q3, q4, q5, q6, r1, r2, r3, r4, kk⟩ else none
  | _ => none
theorem bodyB_ok {b : List Stmt} {r : BodyP} (h : bodyB b = some r) : b = r.body := by
  unfold bodyB at h
  split at h
  · split at h
    · rename_i e
      obtain ⟨⟨rfl, rfl⟩, rfl, rfl, rfl⟩ := e
      cases h
      rfl
    · cases h
  · cases h
def isNone : Value → Bool
  | .none => true
  | _ => false
def codeB (K : Frag) (P : Program) (cd : Value) (q : Str) (pq : Bool) : Bool := match cd with
  | .ref c => codeIn K (.ref c) q && (match K.lookup c with
    | some ⟨_, _, .fields vs, _⟩ => (match (vs[2]? : Option Value) with
      | some (.str file _) => ((P.main.file : Str) == file) && pq
      | _ => false)
    | _ => false)
  | _ => false
def cellB (K : Frag) (C : Addr) (cl : List (Str × Addr)) : Bool := match cl with
  | [(x, cc)] => decide (x = "__class__") && (match K.lookup cc with
    | some ⟨_, _, .cell (some (.ref D)), _⟩ => decide (D = C)
    | _ => false)
  | _ => false
def initB (K : Frag) (P : Program) (C fI : Addr) : Bool := match K.lookup fI with
  | some ⟨_, _, .func ⟨nm, qual, params, .stmts body, scope, gl, cl, dV, kV, _, _, _, cd, _, bn⟩, _⟩ =>
    (match argsB params, bodyB body with
    | some _, some b => decide (nm = "__init__") && (decide (scope = iS) && (decide (gl = mainGlobals) && (decide (bn = builtinsNs) && (isNone dV && (isNone kV && (codeB K P cd qual (b.q3.endLine == b.q5.line) && cellB K C cl))))))
    | _, _ => false)
  | _ => false
theorem isNone_ok {v : Value} (h : isNone v = true) : v = .none := by
  cases v <;> first | rfl | cases h
theorem cellB_ok {K : Frag} {C : Addr} {cl : List (Str × Addr)} (h : cellB K C cl = true) : ∃ (cc : Addr) (a : Value) (b : Option Addr) (c : Array (Option Value)), cl = [(("__class__" : Str), cc)] ∧ K.lookup cc = some ⟨a, b, .cell (some (.ref C)), c⟩ := by
  unfold cellB at h
  split at h
  · rename_i x cc
    obtain ⟨h1, h2⟩ := He.ba h
    split at h2
    · rename_i a b D c e
      have e1 : x = "__class__" := of_decide_eq_true h1
      have e2 : D = C := of_decide_eq_true h2
      subst e1 e2
      exact ⟨cc, a, b, c, rfl, e⟩
    · cases h2
  · cases h
theorem codeB_ok {K : Frag} {P : Program} {cd : Value} {q : Str} {pq : Bool} (h : codeB K P cd q pq = true) : ∃ c a b vs d file tf, cd = .ref c ∧ codeIn K (.ref c) q = true ∧ K.lookup c = some ⟨a, b, .fields vs, d⟩ ∧ vs[2]? = some (.str file tf) ∧ ((P.main.file : Str) == file) = true ∧ pq = true := by
  unfold codeB at h
  split at h
  · rename_i c
    obtain ⟨h1, h2⟩ := He.ba h
    split at h2
    · rename_i a b vs d e
      split at h2
      · rename_i file tf e2
        obtain ⟨h3, h4⟩ := He.ba h2
        exact ⟨c, a, b, vs, d, file, tf, rfl, h1, e, e2, h3, h4⟩
      · cases h2
    · cases h2
  · cases h
def erOne (P : Program) (name : Str) (K : Frag) (C fI : Addr) : Bool :=
  clsB K C && (initB K P C fI && (eqO (nsIn K mainGlobals name) (some (some (.ref C))) && (eqO (findIn K (.ref C) "__setattr__") (some (some (.builtin "object.__setattr__"))) &&
    (eqO (findIn K (.ref C) "__getattribute__") (some (some (.builtin "BaseException.__getattribute__"))) && (eqO (findIn K (.ref C) "__getattr__") (some none) && (eqO (findIn K (.ref C) "at") (some none) &&
    (eqO (findIn K (.ref C) "__init__") (some (some (.ref fI))) && (decide (typeIn K (.ref fI) = some (.type "function")) && (keepIn K (.ref C) && (decide (subIn K (.ref C) (.type "BaseException") = some true) &&
    (decide (typeIn K (.ref C) = some (.type "type")) && (hasDictIn K C && (eqO (ks_superIn K C C "__init__") (some (some (.builtin "Exception.__init__"))) && (decide (subIn K (.ref C) (.type "Exception") = some true) &&
    (decide (mroIn K C (.ref C) = some true) && (eqO (nsIn K cStatics "thirdparty.any") (some none) && (eqO (nsIn K mainGlobals "super") (some none) && !(P.main.scope.names.lookup ("super" : Str)).isSome)))))))))))))))))
def erB (P : Program) (name : Str) (K : Frag) : Bool := erOne P name K (ga K name) (ma K (ga K name) "__init__")
theorem erB_ok {P : Program} {name : Str} {K : Frag} {h : Heap} {mg : Str → Option Value} (X : K.In h) (G : h.Ns mainGlobals mg) (q : erB P name K = true) : ErTxt K P mg name (ga K name) (ma K (ga K name) "__init__") := by
  unfold erB erOne at q
  obtain ⟨a1, q⟩ := He.ba q
  obtain ⟨a2, q⟩ := He.ba q
  obtain ⟨a3, q⟩ := He.ba q
  obtain ⟨a4, q⟩ := He.ba q
  obtain ⟨a5, q⟩ := He.ba q
  obtain ⟨a6, q⟩ := He.ba q
  obtain ⟨a7, q⟩ := He.ba q
  obtain ⟨a8, q⟩ := He.ba q
  obtain ⟨a9, q⟩ := He.ba q
  obtain ⟨a10, q⟩ := He.ba q
  obtain ⟨a11, q⟩ := He.ba q
  obtain ⟨a12, q⟩ := He.ba q
  obtain ⟨a13, q⟩ := He.ba q
  obtain ⟨a14, q⟩ := He.ba q
  obtain ⟨a15, q⟩ := He.ba q
  obtain ⟨a16, q⟩ := He.ba q
  obtain ⟨a17, q⟩ := He.ba q
  obtain ⟨a18, a19⟩ := He.ba q
  refine { gC := PySem.W.mg_of X G (eqO_ok a3), cls := clsB_ok a1, sa := eqO_ok a4, ga := eqO_ok a5, gg := eqO_ok a6, noN := eqO_ok a7, iC := eqO_ok a8, tC := of_decide_eq_true a9, kC := a10, exC := of_decide_eq_true a11, tyC := of_decide_eq_true a12, hdC := a13, sup := eqO_ok a14, isE := of_decide_eq_true a15, mroC := of_decide_eq_true a16, opq := eqO_ok a17, noS := PySem.W.mg_none_of X G (eqO_ok a18), top := by simpa using a19, fn := ?_ }
  unfold initB at a2
  split at a2
  · rename_i oc od nm qual params body scope gl cl dV kV doc pm an cd ct bn osl lk
    split at a2
    · rename_i r b hr hb
      obtain ⟨b1, a2⟩ := He.ba a2
      obtain ⟨b2, a2⟩ := He.ba a2
      obtain ⟨b3, a2⟩ := He.ba a2
      obtain ⟨b4, a2⟩ := He.ba a2
      obtain ⟨b5, a2⟩ := He.ba a2
      obtain ⟨b6, a2⟩ := He.ba a2
      obtain ⟨b7, b8⟩ := He.ba a2
      have e1 : nm = "__init__" := of_decide_eq_true b1
      have e2 : scope = iS := of_decide_eq_true b2
      have e3 : gl = mainGlobals := of_decide_eq_true b3
      have e4 : bn = builtinsNs := of_decide_eq_true b4
      have e5 := isNone_ok b5
      have e6 := isNone_ok b6
      obtain ⟨c, ca, cb, vs, cs, file, tf, e7, c1, c2, c3, c4, c5⟩ := codeB_ok b7
      obtain ⟨cc, da, db, dc, e8, d1⟩ := cellB_ok b8
      have e9 := argsB_ok hr
      have e10 := bodyB_ok hb
      subst e1 e2 e3 e4 e5 e6 e7 e8 e9 e10
      exact ⟨oc, od, doc, pm, an, c, ct, osl, cc, qual, b.txt, r.1, r.2, b.q1, b.q2, b.q3, b.q4, b.q5, b.q6, b.r1, b.r2, b.r3, b.r4, b.kk, ca, da, cb, db, vs, cs, dc, file, tf, lk, c1, c2, c3, c4, c5, d1⟩
    · cases a2
  · cases a2
end Er
end PV
end
section
set_option Elab.async false
set_option linter.all false
set_option maxRecDepth 100000
set_option maxHeartbeats 4000000
/-! PwF1: the other own errors, as Bools of the head. -/
namespace PV
namespace Ew
open PySem PySem.Spec PySem.W PyProof.Rows L2 He
open Er (clsB clsB_ok isNone codeB cellB isNone_ok cellB_ok codeB_ok)
def argsB (a : Arguments) : Option (Pos × Pos) := match a with
  | { posonlyargs := [], args := [{ arg := x, annotation := none, pos := p1 }, { arg := y, annotation := none, pos := p2 }], vararg := none, kwonlyargs := [], kw_defaults := [], kwarg := none, defaults := [] } => if x = "self" ∧ y = "word" then some (p1, p2) else none
  | _ => none
theorem argsB_ok {a : Arguments} {r : Pos × Pos} (h : argsB a = some r) : a = iA r.1 r.2 := by
  unfold argsB at h
  split at h
  · rename_i x p1 y p2
    by_cases e : x = "self" ∧ y = "word"
    · rw [if_pos e] at h
      obtain ⟨rfl, rfl⟩ := e
      cases h
      rfl
    · rw [if_neg e] at h
      cases h
  · cases h
structure BodyP where
  txt : Str
  q1 : Pos
  q2 : Pos
  q3 : Pos
  q4 : Pos
  q5 : Pos
  q6 : Pos
  r1 : Pos
  r2 : Pos
  r3 : Pos
  r4 : Pos
  kk : Nat
def BodyP.body (b : BodyP) : List Stmt := iB b.txt b.q1 b.q2 b.q3 b.q4 b.q5 b.q6 b.r1 b.r2 b.r3 b.r4 b.kk
def bodyB (b : List Stmt) : Option BodyP := match b with
  | [.Expr (.Call (.Attribute (.Call (.Name x1 q1) [] [] q2) x2 q3) [.Constant (.str txt) kk q4] [] q5) q6, .Assign [.Attribute (.Name x3 r1) x4 r2] (.Name x5 r3) r4] =>
    if (x1 = "super" ∧ x2 = "__init__") ∧ x3 = "self" ∧ x4 = "word" ∧ x5 = "word" then some ⟨txt, q1, q2, q3, q4, q5, q6, r1, r2, r3, r4, kk⟩ else none
  | _ => none
theorem bodyB_ok {b : List Stmt} {r : BodyP} (h : bodyB b = some r) : b = r.body := by
  unfold bodyB at h
  split at h
  · split at h
    · rename_i e
      obtain ⟨⟨rfl, rfl⟩, rfl, rfl, rfl⟩ := e
      cases h
      rfl
    · cases h
  · cases h
def initB (K : Frag) (P : Program) (C fI : Addr) : Bool := match K.lookup fI with
  | some ⟨_, _, .func ⟨nm, qual, params, .stmts body, scope, gl, cl, dV, kV, _, _, _, cd, _, bn⟩, _⟩ =>
    (match argsB params, bodyB body with
    | some _, some b => decide (nm = "__init__") && (decide (scope = iS) && (decide (gl = mainGlobals) && (decide (bn = builtinsNs) && (isNone dV && (isNone kV && (codeB K P cd qual (b.q3.endLine == b.q5.line) && cellB K C cl))))))
    | _, _ => false)
  | _ => false
def erOne (P : Program) (name : Str) (K : Frag) (C fI : Addr) : Bool :=
  clsB K C && (initB K P C fI && (eqO (nsIn K mainGlobals name) (some (some (.ref C))) && (eqO (findIn K (.ref C) "__setattr__") (some (some (.builtin "object.__setattr__"))) &&
    (eqO (findIn K (.ref C) "__getattribute__") (some (some (.builtin "BaseException.__getattribute__"))) && (eqO (findIn K (.ref C) "__getattr__") (some none) && (eqO (findIn K (.ref C) "word") (some none) &&
    (eqO (findIn K (.ref C) "__init__") (some (some (.ref fI))) && (decide (typeIn K (.ref fI) = some (.type "function")) && (keepIn K (.ref C) && (decide (subIn K (.ref C) (.type "BaseException") = some true) &&
    (decide (typeIn K (.ref C) = some (.type "type")) && (hasDictIn K C && (eqO (ks_superIn K C C "__init__") (some (some (.builtin "Exception.__init__"))) && (decide (subIn K (.ref C) (.type "Exception") = some true) &&
    (decide (mroIn K C (.ref C) = some true) && (eqO (nsIn K cStatics "thirdparty.any") (some none) && (eqO (nsIn K mainGlobals "super") (some none) && !(P.main.scope.names.lookup ("super" : Str)).isSome)))))))))))))))))
def erB (P : Program) (name : Str) (K : Frag) : Bool := erOne P name K (ga K name) (ma K (ga K name) "__init__")
theorem erB_ok {P : Program} {name : Str} {K : Frag} {h : Heap} {mg : Str → Option Value} (X : K.In h) (G : h.Ns mainGlobals mg) (q : erB P name K = true) : ErTxt K P mg name (ga K name) (ma K (ga K name) "__init__") := by
  unfold erB erOne at q
  obtain ⟨a1, q⟩ := He.ba q
  obtain ⟨a2, q⟩ := He.ba q
  obtain ⟨a3, q⟩ := He.ba q
  obtain ⟨a4, q⟩ := He.ba q
  obtain ⟨a5, q⟩ := He.ba q
  obtain ⟨a6, q⟩ := He.ba q
  obtain ⟨a7, q⟩ := He.ba q
  obtain ⟨a8, q⟩ := He.ba q
  obtain ⟨a9, q⟩ := He.ba q
  obtain ⟨a10, q⟩ := He.ba q
  obtain ⟨a11, q⟩ := He.ba q
  obtain ⟨a12, q⟩ := He.ba q
  obtain ⟨a13, q⟩ := He.ba q
  obtain ⟨a14, q⟩ := He.ba q
  obtain ⟨a15, q⟩ := He.ba q
  obtain ⟨a16, q⟩ := He.ba q
  obtain ⟨a17, q⟩ := He.ba q
  obtain ⟨a18, a19⟩ := He.ba q
  refine { gC := PySem.W.mg_of X G (eqO_ok a3), cls := clsB_ok a1, sa := eqO_ok a4, ga := eqO_ok a5, gg := eqO_ok a6, noN := eqO_ok a7, iC := eqO_ok a8, tC := of_decide_eq_true a9, kC := a10, exC := of_decide_eq_true a11, tyC := of_decide_eq_true a12, hdC := a13, sup := eqO_ok a14, isE := of_decide_eq_true a15, mroC := of_decide_eq_true a16, opq := eqO_ok a17, noS := PySem.W.mg_none_of X G (eqO_ok a18), top := by simpa using a19, fn := ?_ }
  unfold initB at a2
  split at a2
  · rename_i oc od nm qual params body scope gl cl dV kV doc pm an cd ct bn osl lk
    split at a2
    · rename_i r b hr hb
      obtain ⟨b1, a2⟩ := He.ba a2
      obtain ⟨b2, a2⟩ := He.ba a2
      obtain ⟨b3, a2⟩ := He.ba a2
      obtain ⟨b4, a2⟩ := He.ba a2
      obtain ⟨b5, a2⟩ := He.ba a2
      obtain ⟨b6, a2⟩ := He.ba a2
      obtain ⟨b7, b8⟩ := He.ba a2
      have e1 : nm = "__init__" := of_decide_eq_true b1
      have e2 : scope = iS := of_decide_eq_true b2
      have e3 : gl = mainGlobals := of_decide_eq_true b3
      have e4 : bn = builtinsNs := of_decide_eq_true b4
      have e5 := isNone_ok b5
      have e6 := isNone_ok b6
      obtain ⟨c, ca, cb, vs, cs, file, tf, e7, c1, c2, c3, c4, c5⟩ := codeB_ok b7
      obtain ⟨cc, da, db, dc, e8, d1⟩ := cellB_ok b8
      have e9 := argsB_ok hr
      have e10 := bodyB_ok hb
      subst e1 e2 e3 e4 e5 e6 e7 e8 e9 e10
      exact ⟨oc, od, doc, pm, an, c, ct, osl, cc, qual, b.txt, r.1, r.2, b.q1, b.q2, b.q3, b.q4, b.q5, b.q6, b.r1, b.r2, b.r3, b.r4, b.kk, ca, da, cb, db, vs, cs, dc, file, tf, lk, c1, c2, c3, c4, c5, d1⟩
    · cases a2
  · cases a2
end Ew
namespace En
open PySem PySem.Spec PySem.W PyProof.Rows L2 He
open Er (clsB clsB_ok isNone codeB cellB isNone_ok cellB_ok codeB_ok)
def argsB (a : Arguments) : Option Pos := match a with
  | { posonlyargs := [], args := [{ arg := x, annotation := none, pos := p1 }], vararg := none, kwonlyargs := [], kw_defaults := [], kwarg := none, defaults := [] } => if x = "self" then some p1 else none
  | _ => none
theorem argsB_ok {a : Arguments} {r : Pos} (h : argsB a = some r) : a = iA r := by
  unfold argsB at h
  split at h
  · rename_i x p1
    by_cases e : x = "self"
    · rw [if_pos e] at h
      subst e
      cases h
      rfl
    · rw [if_neg e] at h
      cases h
  · cases h
structure BodyP where
  txt : Str
  q1 : Pos
  q2 : Pos
  q3 : Pos
  q4 : Pos
  q5 : Pos
  q6 : Pos
  kk : Nat
def BodyP.body (b : BodyP) : List Stmt := iB b.txt b.q1 b.q2 b.q3 b.q4 b.q5 b.q6 b.kk
def bodyB (b : List Stmt) : Option BodyP := match b with
  | [.Expr (.Call (.Attribute (.Call (.Name x1 q1) [] [] q2) x2 q3) [.Constant (.str txt) kk q4] [] q5) q6] =>
    if x1 = "super" ∧ x2 = "__init__" then some ⟨txt, q1, q2, q3, q4, q5, q6, kk⟩ else none
  | _ => none
theorem bodyB_ok {b : List Stmt} {r : BodyP} (h : bodyB b = some r) : b = r.body := by
  unfold bodyB at h
  split at h
  · split at h
    · rename_i e
      obtain ⟨rfl, rfl⟩ := e
      cases h
      rfl
    · cases h
  · cases h
def initB (K : Frag) (P : Program) (C fI : Addr) : Bool := match K.lookup fI with
  | some ⟨_, _, .func ⟨nm, qual, params, .stmts body, scope, gl, cl, dV, kV, _, _, _, cd, _, bn⟩, _⟩ =>
    (match argsB params, bodyB body with
    | some _, some b => decide (nm = "__init__") && (decide (scope = iS) && (decide (gl = mainGlobals) && (decide (bn = builtinsNs) && (isNone dV && (isNone kV && (codeB K P cd qual (b.q3.endLine == b.q5.line) && cellB K C cl))))))
    | _, _ => false)
  | _ => false
def erOne (P : Program) (name : Str) (K : Frag) (C fI : Addr) : Bool :=
  clsB K C && (initB K P C fI && (eqO (nsIn K mainGlobals name) (some (some (.ref C))) && (eqO (findIn K (.ref C) "__setattr__") (some (some (.builtin "object.__setattr__"))) &&
    (eqO (findIn K (.ref C) "__getattribute__") (some (some (.builtin "BaseException.__getattribute__"))) && (eqO (findIn K (.ref C) "__getattr__") (some none) && (eqO (findIn K (.ref C) "__init__") (some (some (.ref fI))) && (decide (typeIn K (.ref fI) = some (.type "function")) && (keepIn K (.ref C) && (decide (subIn K (.ref C) (.type "BaseException") = some true) &&
    (decide (typeIn K (.ref C) = some (.type "type")) && (hasDictIn K C && (eqO (ks_superIn K C C "__init__") (some (some (.builtin "Exception.__init__"))) && (decide (subIn K (.ref C) (.type "Exception") = some true) &&
    (decide (mroIn K C (.ref C) = some true) && (eqO (nsIn K cStatics "thirdparty.any") (some none) && (eqO (nsIn K mainGlobals "super") (some none) && !(P.main.scope.names.lookup ("super" : Str)).isSome))))))))))))))))
def erB (P : Program) (name : Str) (K : Frag) : Bool := erOne P name K (ga K name) (ma K (ga K name) "__init__")
theorem erB_ok {P : Program} {name : Str} {K : Frag} {h : Heap} {mg : Str → Option Value} (X : K.In h) (G : h.Ns mainGlobals mg) (q : erB P name K = true) : ErTxt K P mg name (ga K name) (ma K (ga K name) "__init__") := by
  unfold erB erOne at q
  obtain ⟨a1, q⟩ := He.ba q
  obtain ⟨a2, q⟩ := He.ba q
  obtain ⟨a3, q⟩ := He.ba q
  obtain ⟨a4, q⟩ := He.ba q
  obtain ⟨a5, q⟩ := He.ba q
  obtain ⟨a6, q⟩ := He.ba q
  obtain ⟨a8, q⟩ := He.ba q
  obtain ⟨a9, q⟩ := He.ba q
  obtain ⟨a10, q⟩ := He.ba q
  obtain ⟨a11, q⟩ := He.ba q
  obtain ⟨a12, q⟩ := He.ba q
  obtain ⟨a13, q⟩ := He.ba q
  obtain ⟨a14, q⟩ := He.ba q
  obtain ⟨a15, q⟩ := He.ba q
  obtain ⟨a16, q⟩ := He.ba q
  obtain ⟨a17, q⟩ := He.ba q
  obtain ⟨a18, a19⟩ := He.ba q
  refine { gC := PySem.W.mg_of X G (eqO_ok a3), cls := clsB_ok a1, sa := eqO_ok a4, ga := eqO_ok a5, gg := eqO_ok a6, iC := eqO_ok a8, tC := of_decide_eq_true a9, kC := a10, exC := of_decide_eq_true a11, tyC := of_decide_eq_true a12, hdC := a13, sup := eqO_ok a14, isE := of_decide_eq_true a15, mroC := of_decide_eq_true a16, opq := eqO_ok a17, noS := PySem.W.mg_none_of X G (eqO_ok a18), top := by simpa using a19, fn := ?_ }
  unfold initB at a2
  split at a2
  · rename_i oc od nm qual params body scope gl cl dV kV doc pm an cd ct bn osl lk
    split at a2
    · rename_i r b hr hb
      obtain ⟨b1, a2⟩ := He.ba a2
      obtain ⟨b2, a2⟩ := He.ba a2
      obtain ⟨b3, a2⟩ := He.ba a2
      obtain ⟨b4, a2⟩ := He.ba a2
      obtain ⟨b5, a2⟩ := He.ba a2
      obtain ⟨b6, a2⟩ := He.ba a2
      obtain ⟨b7, b8⟩ := He.ba a2
      have e1 : nm = "__init__" := of_decide_eq_true b1
      have e2 : scope = iS := of_decide_eq_true b2
      have e3 : gl = mainGlobals := of_decide_eq_true b3
      have e4 : bn = builtinsNs := of_decide_eq_true b4
      have e5 := isNone_ok b5
      have e6 := isNone_ok b6
      obtain ⟨c, ca, cb, vs, cs, file, tf, e7, c1, c2, c3, c4, c5⟩ := codeB_ok b7
      obtain ⟨cc, da, db, dc, e8, d1⟩ := cellB_ok b8
      have e9 := argsB_ok hr
      have e10 := bodyB_ok hb
      subst e1 e2 e3 e4 e5 e6 e7 e8 e9 e10
      exact ⟨oc, od, doc, pm, an, c, ct, osl, cc, qual, b.txt, r, b.q1, b.q2, b.q3, b.q4, b.q5, b.q6, b.kk, ca, da, cb, db, vs, cs, dc, file, tf, lk, c1, c2, c3, c4, c5, d1⟩
    · cases a2
  · cases a2
end En
end PV
end
section
set_option Elab.async false
set_option linter.all false
set_option maxRecDepth 100000
set_option maxHeartbeats 4000000
/-! PwG: what the text says, as Bools of the head and of the text. -/
namespace PV
open PySem PySem.Spec PySem.W PyProof.Rows L2 He
/-! ### constants of the module -/
def seqT (K : Frag) (u : Value) : Option (List Value) := match u with
  | .ref a => (match K.lookup a with
    | some ⟨.type c, none, .seq its _, _⟩ => if c = "tuple" ∧ its.size ≤ sizeLine then some its.toList else none
    | _ => none)
  | _ => none
theorem seqT_ok {K : Frag} {u : Value} {us : List Value} (h : seqT K u = some us) : ∃ a, u = .ref a ∧ ∀ H vs, Vals vs us → TupR K H a vs := by
  unfold seqT at h
  split at h
  · rename_i a
    split at h
    · rename_i c its n sl lk
      by_cases e : c = "tuple" ∧ its.size ≤ sizeLine
      · rw [if_pos e] at h
        cases h
        exact ⟨a, rfl, fun H vs r => .inr ⟨_, its, n, lk, ⟨congrArg Value.type e.1, rfl⟩, rfl, e.2, r⟩⟩
      · rw [if_neg e] at h
        cases h
    · cases h
  · cases h
mutual
def dqB (K : Frag) : D → Value → Bool
  | .none, u => Er.isNone u
  | .bool b, u => relB (.bl b) u
  | .int i, u => relB (.int i) u
  | .str x, u => relB (.str x) u
  | .tuple ds, u => (seqT K u).any fun us => dqBs K ds us
  | .list _, _ => false
  | .dict kvs, u => match tokD (.dict kvs) with
    | some x => (match u with
      | .ref a => eqO (nsIn K mainGlobals x) (some (some (.ref a)))
      | _ => false)
    | none => false
def dqBs (K : Frag) : List D → List Value → Bool
  | [], us => us.isEmpty
  | d :: ds, us => (us.head?.any fun u => dqB K d u) && dqBs K ds us.tail
end
mutual
theorem dqB_ok {K : Frag} : ∀ (d : D) (u : Value), dqB K d u = true → ∃ v, RelV v u ∧ ∀ H, Dq K H v d
  | .none, u, h => by
    rw [dqB] at h
    have e := Er.isNone_ok h
    subst e
    exact ⟨.non, rfl, fun _ => .non⟩
  | .bool b, u, h => ⟨.bl b, relB_ok (by rw [dqB] at h; exact h), fun _ => .bl b⟩
  | .int i, u, h => ⟨.int i, relB_ok (by rw [dqB] at h; exact h), fun _ => .int i⟩
  | .str x, u, h => ⟨.str x, relB_ok (by rw [dqB] at h; exact h), fun _ => .str x⟩
  | .tuple ds, u, h => by
    rw [dqB] at h
    cases e : seqT K u with
    | none => rw [e] at h; cases h
    | some us =>
      rw [e] at h
      obtain ⟨a, rfl, ht⟩ := seqT_ok e
      obtain ⟨vs, r, q⟩ := dqBs_ok ds us h
      exact ⟨.ref a, rfl, fun H => .tup (ht H vs r) (q H)⟩
  | .list _, u, h => by rw [dqB] at h; cases h
  | .dict kvs, u, h => by
    rw [dqB] at h
    cases e : tokD (.dict kvs) with
    | none => rw [e] at h; cases h
    | some x =>
      rw [e] at h
      rw [tokD_eq e]
      cases u <;> simp only at h <;> try (cases h)
      rename_i a
      exact ⟨.ref a, rfl, fun H => .fn (eqO_ok h)⟩
theorem dqBs_ok {K : Frag} : ∀ (ds : List D) (us : List Value), dqBs K ds us = true → ∃ vs, Vals vs us ∧ ∀ H, DqAll K H vs ds
  | [], us, h => by
    rw [dqBs] at h
    have e := List.isEmpty_iff.mp h
    subst e
    exact ⟨[], .nil, fun _ => .nil⟩
  | d :: ds, [], h => by rw [dqBs] at h; cases h
  | d :: ds, u :: us, h => by
    rw [dqBs] at h
    obtain ⟨h1, h2⟩ := ba h
    obtain ⟨v, r1, q1⟩ := dqB_ok d u h1
    obtain ⟨vs, r2, q2⟩ := dqBs_ok ds us h2
    exact ⟨v :: vs, .cons r1 r2, fun H => .cons (q1 H) (q2 H)⟩
end
def ksB (K : Frag) (q : Str × D) : Bool := match nsIn K mainGlobals q.1 with
  | some (some u) => dqB K q.2 u
  | _ => false
def freeB (K : Frag) (x : Str) : Bool := eqO (nsIn K mainGlobals x) (some none)
def allBI : List BI := [.len, .int, .abs, .min, .max, .sum, .sorted, .tuple, .list, .repr, .all, .any, .lrange, .trange]
def allTy : List Ty := [.int, .bool, .str, .list, .tuple]
def caOf (C : Cfg) (K : Frag) (c : Nat) : Addr := ga K (C.nm c)
def exmB (C : Cfg) (K : Frag) (c k : Nat) : Bool := decide (exmOne K (.ref (caOf C K c)) (.ref (caOf C K k)) = some ((C.sub.getD k []).contains c))
def frB (C : Cfg) (K : Frag) : Bool := freeB K "zip" && (freeB K "reversed" && (freeB K "set" && (freeB K "dict" && (!C.gcd || eqO (nsIn K mainGlobals "gcd") (some (some (.builtin "math.gcd")))))))
def exB0 (C : Cfg) (P : Program) (K : Frag) : Bool :=
  noLst K && ((allBI.all fun b => freeB K b.nm) && ((allTy.all fun t => freeB K t.x) && (freeB K "isinstance" && (freeB K "range" && (freeB K "enumerate" && (frB C K && (C.ks.all (ksB K) &&
    (C.cls.all (fun q => eqO (nsIn K mainGlobals q.1) (some (some (.ref (ga K q.1)))) && ((!decide (q.2 = "at") || Er.erB P q.1 K) && ((!decide (q.2 = "word") || Ew.erB P q.1 K) && (!decide (q.2 = "-") || En.erB P q.1 K)))) &&
      ((List.range C.cls.length).all (fun c => !rsB (C.fl c) || (List.range C.cls.length).all fun k => exmB C K c k) &&
        C.fns.all fun fi => eqO (nsIn K mainGlobals fi.name) (some (some (.ref (ga K fi.name)))))))))))))
/-- the tables of the defs lie apart -/
def tbU (K : Frag) : Bool := decide (((tbOf K).map (·.1)).Nodup)
theorem nd_inj : ∀ {l : List (Addr × Str)}, (l.map (·.1)).Nodup → ∀ p ∈ l, ∀ q ∈ l, p.1 = q.1 → p.2 = q.2
  | [], _, p, hp, _, _, _ => by cases hp
  | a :: r, h, p, hp, q, hq, e => by
    rw [List.map_cons] at h
    obtain ⟨h1, h2⟩ := List.nodup_cons.mp h
    rcases List.mem_cons.mp hp with z1 | z1
    · rcases List.mem_cons.mp hq with z2 | z2
      · rw [z1, z2]
      · exact absurd (by rw [← z1, e]; exact List.mem_map.mpr ⟨q, z2, rfl⟩) h1
    · rcases List.mem_cons.mp hq with z2 | z2
      · exact absurd (by rw [← z2, ← e]; exact List.mem_map.mpr ⟨p, z1, rfl⟩) h1
      · exact nd_inj h2 p z1 q z2 e
def bmB (K : Frag) : Bool := match nsIn K mainGlobals "__builtins__" with
  | some (some (.ref bm)) => !decide (bm = builtinsNs) && (match K.lookup bm with
    | some ⟨.type c, some d, .plain, _⟩ => decide (c = "module") && decide (d = builtinsNs)
    | _ => false)
  | _ => false
def exT (K : Frag) : Bool := tbHd K && (tbU K && bmB K)
def exB (C : Cfg) (P : Program) (K : Frag) : Bool := exT K && (C.tds.all (fun td => eqO (nsIn K mainGlobals td.name) (some (some (.ref (ga K td.name))))) && exB0 C P K)
/-! ### a def of the text -/
def scopeB (N ps : List Str) (sc : Scope) : Bool :=
  decide (sc.kind = .function) && (!sc.isCoroutine && (!sc.isGenerator && (decide N.Nodup && (decide (N.take ps.length = ps) && ((ps.all fun x => decide (sc.names.lookup x = some .local) || decide (sc.names.lookup x = some .cell)) && sc.names.all fun y => !decide (y.2 = .free))))))
theorem scopeB_ok {N ps : List Str} {sc : Scope} (h : scopeB N ps sc = true) : FnScope N ps sc := by
  unfold scopeB at h
  obtain ⟨h1, h⟩ := ba h
  obtain ⟨h2, h⟩ := ba h
  obtain ⟨h3, h⟩ := ba h
  obtain ⟨h4, h⟩ := ba h
  obtain ⟨h5, h⟩ := ba h
  obtain ⟨h6, h7⟩ := ba h
  exact ⟨of_decide_eq_true h1, by simpa using h2, by simpa using h3, of_decide_eq_true h4, of_decide_eq_true h5, fun x hx => by simpa using List.all_eq_true.mp h6 x hx, fun y hy => by simpa using List.all_eq_true.mp h7 y hy⟩
def fnB (C : Cfg) (fi : FnI) (d : DefD) : Bool :=
  decide (d.at_ = (fi.name, none)) && (decide (d.name = fi.name) && (d.dfl.isEmpty && (d.kwd.isEmpty && (scopeB fi.N fi.ps d.scope && (chkB C fi.fn.body ⟨fi.N, d.scope, fun _ => true, fi.fn.lent, true⟩ d.body &&
    (decide (fi.N.length = fi.fn.ns) && (decide (fi.ps.length = fi.fn.ar) && (decide fi.fn.lent.Nodup && fi.fn.lent.all fun j => decide (j < fi.fn.ar)))))))))
/-- how a def's values are bound, from its text -/
def BindD (d : DefD) (ps : List Str) (n : Nat) (ks : List Str) (pm : List Nat) : Prop := ∀ (kV doc md : Value) (an : Option Addr) (cdv ct : Value) (us ws : List Value), us.length = n → ws.length = ks.length →
  bindArgs (fnOf d.name d.qual d.params d.body d.scope .none kV doc md an cdv ct) ⟨us, ks.zip ws⟩ = pure (ps.zip (reo pm (us ++ ws)))
instance : Inhabited DefD := ⟨⟨(Str.empty, none), Str.empty, Str.empty, ⟨[], [], none, [], [], none, []⟩, [], default, [], []⟩⟩
instance : Inhabited FnI := ⟨⟨Str.empty, [], [], ⟨0, 0, [], []⟩⟩⟩
def KBs (C : Cfg) (ds : List DefD) : List (Nat × Nat × List Str × List Nat) → Prop
  | [] => True
  | (f, n, ks, pm) :: r => BindD (ds.getD f default) (C.fns.getD f default).ps n ks pm ∧ KBs C ds r
theorem KBs.at {C : Cfg} {ds : List DefD} {f n : Nat} {ks : List Str} {pm : List Nat} : ∀ {l : List (Nat × Nat × List Str × List Nat)}, KBs C ds l → (f, n, ks, pm) ∈ l → BindD (ds.getD f default) (C.fns.getD f default).ps n ks pm
  | (f', n', ks', pm') :: r, h, m => by
    rcases List.mem_cons.mp m with e | m
    · cases e
      exact h.1
    · exact KBs.at h.2 m
/-- a def that tells is the text's -/
def TdP (td : TdI) (d : DefD) : Prop := d.at_ = (td.name, none) ∧ d.name = td.name ∧ d.qual = td.name ∧ d.dfl = [] ∧ d.kwd = [] ∧ td.params = d.params ∧ td.body = d.body ∧ td.scope = d.scope ∧ scopeB td.N [td.a] td.scope = true ∧ BindD d [td.a] 1 [] [0]
def TdPs : List TdI → List DefD → Prop
  | [], [] => True
  | td :: r, d :: s => TdP td d ∧ TdPs r s
  | _, _ => False
theorem TdPs.at : ∀ {ts : List TdI} {ds : List DefD} {g : Nat} {td : TdI}, TdPs ts ds → ts[g]? = some td → ∃ d, ds[g]? = some d ∧ TdP td d
  | [], [], g, td, _, e => by simp at e
  | td :: r, d :: s, 0, td', h, e => by
    simp at e
    subst e
    exact ⟨d, rfl, h.1⟩
  | td :: r, d :: s, g + 1, td', h, e => by
    obtain ⟨d', h1, h2⟩ := TdPs.at (g := g) h.2 (by simpa using e)
    exact ⟨d', by simpa using h1, h2⟩
  | [], _ :: _, _, _, h, _ => h.elim
  | _ :: _, [], _, _, h, _ => h.elim
def defsB (C : Cfg) (ds : List DefD) : Bool := decide (C.fns.length = ds.length) && (C.fns.zip ds).all fun q => fnB C q.1 q.2
/-! ### the Hook: the module's names, and the statics -/
abbrev AlG : Type := AlD × Bool × Bool
def frH (n : Nat) (g : Addr → Option Obj) : Frag := frT g (cStatics :: asD g n)
def tabsB (g : Addr → Option Obj) (K : Frag) : Bool := (tbOf K).all fun p => match g p.1 with
  | some o => emptyTab o
  | none => false
def obsG (n : Nat) (fn : List DefD) (ex : Frag → Bool) (g : Addr → Option Obj) : AlG := (obsD [] fn (frH n g), ex (frH n g), tabsB g (frH n g))
def valG (fn : List DefD) : AlG := (valD fn, true, true)
structure SaysG (fn : List DefD) (ex : Frag → Bool) (K : Frag) (h : Heap) : Prop where
  d : SaysD [] fn K
  more : ex K = true
  tab : ∀ p ∈ tbOf K, h.get? p.1 = some { cls := .none, data := .fields #[] }
  nin : ∀ p ∈ tbOf K, K.lookup p.1 = none
theorem tabs_ok {n : Nat} {h : Heap} (e : tabsB h.get? (frH n h.get?) = true) : ∀ p ∈ tbOf (frH n h.get?), h.get? p.1 = some { cls := .none, data := .fields #[] } ∧ (frH n h.get?).lookup p.1 = none := fun p hp => by
  have z := List.all_eq_true.mp e p hp
  cases q : h.get? p.1 with
  | none => rw [q] at z; cases z
  | some o =>
    rw [q] at z
    have z : emptyTab o = true := z
    have e2 := emptyTab_eq z
    subst e2
    exact ⟨rfl, frT_none q z⟩
def hookG (n : Nat) (fn : List DefD) (ex : Frag → Bool) : PySem.W.Hook where
  α := AlG
  obs := fun s => obsG n fn ex s.heap.get?
  val := fun _ => valG fn
  says := fun _ h => ∃ K : Frag, K.In h ∧ SaysG fn ex K h
  of := fun _ _ e => ⟨_, frT_in, congrArg (fun z : AlG => z.1) e, congrArg (fun z : AlG => z.2.1) e, fun p hp => (tabs_ok (congrArg (fun z : AlG => z.2.2) e) p hp).1, fun p hp => (tabs_ok (congrArg (fun z : AlG => z.2.2) e) p hp).2⟩
  keeps := fun _ _ _ ⟨K, hK, c⟩ k => ⟨K, Frag.In.keeps hK k, c.d, c.more, fun p hp => k _ _ (c.tab p hp), c.nin⟩
theorem obsG_eq {n : Nat} {fn : List DefD} {ex : Frag → Bool} {g : Addr → Option Obj} {s : Shared} (h : ∀ a, g a = s.heap.get? a) : obsG n fn ex g = (hookG n fn ex).obs s := by
  have e : g = s.heap.get? := funext h
  rw [e] <;> rfl
theorem txt_of {C : Cfg} {P : Program} {ds dt : List DefD} {K : Frag} {h : Heap} {mg : Str → Option Value} {wf : Nat} (X : K.In h) (G : h.Ns mainGlobals mg) (y : SaysG (ds ++ dt) (exB C P) K h) (hd : defsB C ds = true) (hk : KBs C ds C.kws) (htd : TdPs C.tds dt) :
    WalkK P C (caOf C K) wf K h mg := by
  have c : SaysD [] (ds ++ dt) K := y.d
  have q := y.more
  unfold exB exT at q
  obtain ⟨t1, q⟩ := ba q
  obtain ⟨t1, t2⟩ := ba t1
  obtain ⟨t2, t3⟩ := ba t2
  obtain ⟨t4, q⟩ := ba q
  unfold tbU at t2
  have t6 := nd_inj (of_decide_eq_true t2)
  unfold exB0 at q
  obtain ⟨q1, q⟩ := ba q
  obtain ⟨q2, q⟩ := ba q
  obtain ⟨q3, q⟩ := ba q
  obtain ⟨q4, q⟩ := ba q
  obtain ⟨q5, q⟩ := ba q
  obtain ⟨q6, q⟩ := ba q
  obtain ⟨qf, q⟩ := ba q
  unfold frB at qf
  obtain ⟨f1, qf⟩ := ba qf
  obtain ⟨f2, qf⟩ := ba qf
  obtain ⟨f3, qf⟩ := ba qf
  obtain ⟨f4, f5⟩ := ba qf
  obtain ⟨q7, q⟩ := ba q
  obtain ⟨q8, q⟩ := ba q
  obtain ⟨q9, q10⟩ := ba q
  have fr : ∀ {x : Str}, freeB K x = true → mg x = none := fun e => mg_none_of X G (eqO_ok e)
  have hcls : ∀ (c : Nat) (nm fl : Str), C.cls[c]? = some (nm, fl) → C.nm c = nm ∧ C.fl c = fl := fun c nm fl e => by
    unfold Cfg.nm Cfg.fl
    rw [List.getD_eq_getElem?_getD, e]
    exact ⟨rfl, rfl⟩
  have hlt : ∀ (c : Nat) (q : Str × Str), C.cls[c]? = some q → c ∈ List.range C.cls.length := fun c q e => by
    rw [List.mem_range]
    obtain ⟨h, _⟩ := List.getElem?_eq_some_iff.mp e
    exact h
  refine ⟨X, q1, ⟨fun b => fr (List.all_eq_true.mp q2 b (by cases b <;> decide)), fr q4, fun t => fr (List.all_eq_true.mp q3 t (by cases t <;> decide)), ⟨fr q5, fr q6, fr f1, fr f2, fr f3, fr f4, fun hg => mg_of X G (eqO_ok (by
    have hg : C.gcd = true := hg
    rw [hg] at f5
    simpa using f5)), fun y a hy => mg_of X G hy⟩, fun i x d e => ?_, fun c nm fl e => ?_, fun c nm fl e r hn => ?_, fun c nm e => ?_, fun c k nm nm' fl fl' e r e' => ?_, fun g td e => ?_, fun p hp q hq e => ?_, t1, fun f fi e => ?_⟩, y.tab, y.nin, of_decide_eq_true t2, ?_⟩
  · have z := List.all_eq_true.mp q7 _ (List.mem_of_getElem? e)
    unfold ksB at z
    split at z
    · rename_i u hu
      obtain ⟨v, r, qv⟩ := dqB_ok d u z
      exact ⟨v, u, mg_of X G hu, r, qv⟩
    · cases z
  · obtain ⟨z, _⟩ := ba (List.all_eq_true.mp q8 _ (List.mem_of_getElem? e))
    show mg nm = some (.ref (ga K (C.nm c)))
    rw [(hcls c nm fl e).1]
    exact mg_of X G (eqO_ok z)
  · obtain ⟨_, z⟩ := ba (List.all_eq_true.mp q8 _ (List.mem_of_getElem? e))
    obtain ⟨z1, z⟩ := ba z
    obtain ⟨z2, z3⟩ := ba z
    show ErP P K mg fl nm (ga K (C.nm c))
    rw [(hcls c nm _ e).1]
    rcases r with rfl | rfl | rfl
    · exact (Er.erB_ok X G (by simpa using z1)).p
    · exact (Ew.erB_ok X G (by simpa using z2)).p
    · exact absurd rfl hn
  · obtain ⟨_, z⟩ := ba (List.all_eq_true.mp q8 _ (List.mem_of_getElem? e))
    obtain ⟨z1, z⟩ := ba z
    obtain ⟨z2, z3⟩ := ba z
    show ErN P K mg nm (ga K (C.nm c))
    rw [(hcls c nm _ e).1]
    exact (En.erB_ok X G (by simpa using z3)).p
  · have z := List.all_eq_true.mp q9 c (hlt c _ e)
    rw [(hcls c nm _ e).2] at z
    have hrs : rsB fl = true := by
      unfold rsB
      rcases r with rfl | rfl | rfl <;> decide
    have z2 : (List.range C.cls.length).all (fun k => exmB C K c k) = true := by rw [hrs] at z; simpa using z
    exact of_decide_eq_true (List.all_eq_true.mp z2 k (hlt k _ e'))
  · obtain ⟨d, ed, p1, p2, p3, p4, p5, p6, p7, p8, p9, p10⟩ := htd.at (show C.tds[g]? = some td from e)
    have ed2 : (ds ++ dt)[ds.length + g]? = some d := by
      rw [List.getElem?_append_right (by omega)]
      rw [show ds.length + g - ds.length = g by omega]
      exact ed
    obtain ⟨fd, F⟩ := c.def_ (ds.length + g) ed2
    have e3 : d.dvs K = [] := by
      unfold DefD.dvs
      rw [p4]
      rfl
    have e4 : d.kws K = [] := by
      unfold DefD.kws
      rw [p5]
      rfl
    rw [p2, p3, e3, e4, ← p6, ← p7, ← p8] at F
    have kp := F.kp
    have eA : fAd K d.at_ = ga K td.name := by rw [p1]; rfl
    rw [eA] at F kp
    obtain ⟨oc, od, dV, kV, doc, md, an, cdv, ct, osl, rfl, lk, hcd, hD, hK⟩ := F.ex
    refine ⟨⟨ga K td.name, oc, od, dV, kV, doc, md, an, cdv, ct, osl, mg_of X G (eqO_ok (List.all_eq_true.mp t4 _ (List.mem_of_getElem? (show C.tds[g]? = some td from e)))), kp, lk, hcd, ?_⟩, scopeB_ok p9⟩
    intro s us ws _ l1 l2
    rcases hD with ⟨_, rfl⟩ | ⟨z, _⟩
    · have B2 := p10 kV doc md an cdv ct us ws l1 l2
      rw [p2, p3, ← p6, ← p7, ← p8] at B2
      exact .of_eq B2
    · exact absurd rfl z
  · exact t6 p hp q hq e
  · have e : C.fns[f]? = some fi := e
    unfold defsB at hd
    obtain ⟨hl, ha⟩ := ba hd
    have hl := of_decide_eq_true hl
    obtain ⟨hf, _⟩ := List.getElem?_eq_some_iff.mp e
    have ed : ds[f]? = some ds[f] := List.getElem?_eq_getElem (by omega)
    have hz : (fi, ds[f]) ∈ C.fns.zip ds := by
      refine List.mem_of_getElem? (i := f) ?_
      rw [List.getElem?_zip_eq_some]
      exact ⟨e, ed⟩
    generalize hdd : ds[f] = d at ed hz
    have z := List.all_eq_true.mp ha _ hz
    unfold fnB at z
    obtain ⟨b1, z⟩ := ba z
    obtain ⟨b2, z⟩ := ba z
    obtain ⟨b3, z⟩ := ba z
    obtain ⟨b4, z⟩ := ba z
    obtain ⟨b5, z⟩ := ba z
    obtain ⟨b6, z⟩ := ba z
    obtain ⟨b7, z⟩ := ba z
    obtain ⟨b8, z⟩ := ba z
    obtain ⟨b9, b10⟩ := ba z
    obtain ⟨fd, F⟩ := c.def_ f (show (ds ++ dt)[f]? = some d by rw [List.getElem?_append_left (by omega)]; exact ed)
    have e1 : d.at_ = (fi.name, none) := of_decide_eq_true b1
    have e2 : d.name = fi.name := of_decide_eq_true b2
    have e3 : d.dvs K = [] := by
      unfold DefD.dvs
      rw [List.isEmpty_iff.mp b3]
      rfl
    have e4 : d.kws K = [] := by
      unfold DefD.kws
      rw [List.isEmpty_iff.mp b4]
      rfl
    rw [e2, e3, e4] at F
    have kp := F.kp
    have eA : fAd K d.at_ = ga K fi.name := by rw [e1]; rfl
    rw [eA] at F kp
    refine ⟨ga K fi.name, fd, d.qual, d.params, d.body, d.scope, ?_, kp, F, scopeB_ok b5, b6, of_decide_eq_true b7, of_decide_eq_true b8, of_decide_eq_true b9, fun j hj => of_decide_eq_true (List.all_eq_true.mp b10 j hj), fun n ks pm m => ?_⟩
    · exact mg_of X G (eqO_ok (List.all_eq_true.mp q10 _ (List.mem_of_getElem? e)))
    · have B := hk.at m
      rw [List.getD_eq_getElem?_getD, List.getD_eq_getElem?_getD, ed, e] at B
      have B : BindD d fi.ps n ks pm := B
      intro s us ws _ l1 l2
      obtain ⟨oc, od, dV, kV, doc, md, an, cdv, ct, osl, rfl, lk, hcd, hD, hK⟩ := F.ex
      rcases hD with ⟨_, rfl⟩ | ⟨z, _⟩
      · have B2 := B kV doc md an cdv ct us ws l1 l2
        rw [e2] at B2
        exact .of_eq B2
      · exact absurd rfl z
  · unfold bmB at t3
    split at t3
    · rename_i bm hbm
      obtain ⟨u1, u2⟩ := ba t3
      split at u2
      · rename_i cc d sl hlk
        obtain ⟨u3, u4⟩ := ba u2
        have e3 : cc = "module" := of_decide_eq_true u3
        have e4 : d = builtinsNs := of_decide_eq_true u4
        subst e3 e4
        exact ⟨bm, _, mg_of X G hbm, by simpa using u1, X _ _ hlk, rfl, rfl, rfl⟩
      · cases u2
    · cases t3
end PV
end
section
set_option Elab.async false
set_option linter.all false
set_option maxRecDepth 100000
set_option maxHeartbeats 2000000
/-! PvHd: a head whose text begins with imports: the boot, the imports, the top in one run. -/
noncomputable section
namespace PvHd
open PySem PySem.W PySem.Calls PyProof.Rows HandSHeadRun
section
variable (st : SharedT → Thread → Option (SharedT × Thread))
/-- to where the imports have ended -/
def goI : Nat → SharedT → Thread → Option SharedT
  | 0, _, _ => none
  | m + 1, s, t => match t.atExitBegin with
    | some [] => some s
    | some (_ :: _) => none
    | none => match st s t with
      | some (s', t') => frS s' fun s' => goI m s' t'
      | none => none
end
theorem goI_ok {tb : String → Option Builtin} {p : Program} {w : World} : ∀ {m : Nat} {s s' : SharedT} {t : Thread}, goI (stepT (denote tb) p w) m s t = some s' → importEnds tb p w m s.abs t = some s'.abs
  | 0, _, _, _, h => by cases h
  | m + 1, s, s', t, h => by
    unfold goI at h
    unfold importEnds
    cases ht : t.atExitBegin with
    | some l =>
      rw [ht] at h
      cases l with
      | nil => cases h; rfl
      | cons a r => cases h
    | none =>
      rw [ht] at h
      simp only at h ⊢
      cases hs : stepT (denote tb) p w s t with
      | none => rw [hs] at h; cases h
      | some r =>
        obtain ⟨s2, t2⟩ := r
        rw [hs] at h
        simp only at h
        rw [frS_eq] at h
        have q := goI_ok h
        rw [stepT_spec hs]
        exact q
def nilT (p : Program) : SharedT := ⟨.nil, 0, (start p).1.heap.life, (start p).1.gens, (start p).1.drawn, (start p).1.toks, (start p).1.os⟩
theorem nilT_abs (p : Program) : (nilT p).abs = (start p).1 := rfl
def treeT (s : Shared) (r : PySem.W.BT × Nat) : SharedT := ⟨r.1, r.2, s.heap.life, s.gens, s.drawn, s.toks, s.os⟩
theorem treeT_abs {s : Shared} {r : PySem.W.BT × Nat} (h : putAll s.heap.objs.toList .nil 0 = some r) : (treeT s r).abs = s := by
  obtain ⟨t, n⟩ := r
  have e := putAll_heap h
  show (⟨absHeap t n s.heap.life, s.gens, s.drawn, s.toks, s.os⟩ : Shared) = s
  rw [e]
/-- the whole: what the imports left, fenced, what the top left -/
def endI (st1 st2 : SharedT → Thread → Option (SharedT × Thread)) (M1 M2 : Nat) (p : Program) : Option (Shared × SharedT) := match goI st1 M1 (nilT (opening p)) (start (opening p)).2 with
  | some s1 => (match fenceModules? p s1.abs with
    | some s0 => (match putAll s0.heap.objs.toList .nil 0 with
      | some r => (match s0.heap.isNs mainGlobals && s0.gens.size == 0 with
        | true => frS (treeT s0 r) fun s => (goF st2 s.n (s0.heap.nsMap mainGlobals "__annotations__") M2 s (topStub p)).map fun s2 => (s0, s2)
        | false => none)
      | none => none)
    | none => none)
  | none => none
theorem left_imp {p q : Program} {loose : List Str} {Xt : Shared → Bool} {α : Type} {Yf : Shared → α} {Ya : World → α} {M1 M2 N : Nat} (l1 : M1 ≤ N) (l2 : M2 ≤ N)
    (run : ∀ w : World, (endI (stepT (denote treeTable) (opening p) w) (stepT (denote treeTable) p w) M1 M2 p).map (fun s => (looksF p s.1.heap s.2.abs, openSeen q loose (importedModules p.main.body) Xt true s.2.abs, Yf s.2.abs)) = some (true, openGood q loose, Ya w)) :
    LeftO p q loose Xt Yf Ya N true := fun w => by
  obtain ⟨⟨s0, s2⟩, h, hv⟩ := Option.map_eq_some_iff.mp (run w)
  unfold endI at h
  cases e1 : goI (stepT (denote treeTable) (opening p) w) M1 (nilT (opening p)) (start (opening p)).2 with
  | none => rw [e1] at h; cases h
  | some s1 =>
    rw [e1] at h
    simp only at h
    cases ef : fenceModules? p s1.abs with
    | none => rw [ef] at h; cases h
    | some sf =>
      rw [ef] at h
      simp only at h
      cases ep : putAll sf.heap.objs.toList .nil 0 with
      | none => rw [ep] at h; cases h
      | some r =>
        rw [ep] at h
        simp only at h
        cases e2 : sf.heap.isNs mainGlobals && sf.gens.size == 0 with
        | false => rw [e2] at h; cases h
        | true =>
          rw [e2] at h
          simp only at h
          rw [frS_eq] at h
          obtain ⟨s3, h3, h4⟩ := Option.map_eq_some_iff.mp h
          cases h4
          have m1 := importEnds_mono (N - M1) _ _ _ _ (goI_ok e1)
          rw [show M1 + (N - M1) = N by omega, nilT_abs] at m1
          have m2 := topRun_mono (N - M2) _ _ _ _ (goF_ok h3)
          rw [show M2 + (N - M2) = N by omega, treeT_abs ep] at m2
          have en : s0.heap.objs.size = (treeT s0 r).n := by
            have z : (treeT s0 r).abs.heap.objs.size = (treeT s0 r).n := absHeap_size _ _ _
            rw [treeT_abs ep] at z
            exact z
          obtain ⟨v1, v2, v3⟩ : _ ∧ _ ∧ _ := by simpa only [Prod.mk.injEq] using hv
          have t : topFrom treeTable p w N s0 = some s2.abs := by
            unfold topFrom
            rw [e2, en]
            show (topRun treeTable p w (treeT s0 r).n (s0.heap.nsMap mainGlobals "__annotations__") N s0 (topStub p)).bind _ = _
            rw [m2]
            have v1 : (staticsOk (importedModules p.main.body) s0.heap s2.abs.heap && namesBound p s2.abs.heap && gensDone s2.abs && laidKept s0.heap s2.abs.heap) = true := v1
            show (match staticsOk (importedModules p.main.body) s0.heap s2.abs.heap && namesBound p s2.abs.heap && gensDone s2.abs && laidKept s0.heap s2.abs.heap with
              | true => some s2.abs
              | false => none) = _
            rw [v1]
          have o : openEnds treeTable p w N = some s2.abs := by
            unfold openEnds fencedOpening
            rw [m1]
            show ((fenceModules? p s1.abs).bind _) = _
            rw [ef]
            exact t
          show (openEnds treeTable p w N).map _ = _
          rw [o]
          exact congrArg some (Prod.ext v2 v3)
/-- the run's equation -/
abbrev RunI (r : OpenRow) (q : Program) (H : Hook) (ob : SharedT → H.α) (M1 M2 : Nat) (loose : List PySem.Str) (w : World) : Prop :=
  (endI (stepQ (denQ tabQ) (opening r.prog) w) (stepQ (denQ tabQ) r.prog w) M1 M2 r.prog).map (fun s => (looksF r.prog s.1.heap s.2.abs, seenQ q loose (importedModules r.prog.main.body) (fun s => xlAt q [] s && recOk r.toRowW.records s) s.2.abs, ob s.2)) = some (true, openGood q loose, H.val w)
theorem head_imp {r : OpenRow} {q : Program} {H : Hook} {ob : SharedT → H.α} {M1 M2 : Nat} {loose : List PySem.Str} {d : DefRec} {kwd : List (PySem.Str × PySem.Expr)} (ho : ∀ s : SharedT, ob s = H.obs s.abs)
    (run : ∀ w, RunI r q H ob M1 M2 loose w)
    (hdef : defOf q r.name = some (d, kwd)) (hp : r.prog.theDef r.name = some (d.params, d.body, d.scope)) (hk : kwWritten? d.params.kwonlyargs d.params.kw_defaults = some kwd)
    (hwr : (!r.writes || r.records.isEmpty) = true) (k1 : r.wellSaid = true) (ok : (chainsOk q && opensWell r.prog && (frees r.toRowW && r.within.isEmpty)) = true) (hb : r.prog.bare) (hw : r.toRowW.promised)
    (call : WalkO q loose (XL q []) H.says r.toRowW d kwd fun f vs => PySem.call f vs) : r.Holds := by
  have left : LeftO r.prog q loose (fun s => xlAt q [] s && recOk r.toRowW.records s) H.obs H.val (M1 + M2) true :=
    left_imp (M1 := M1) (M2 := M2) (by omega) (by omega) fun w => by
      have z := run w
      have eo : ob = fun s => H.obs s.abs := funext ho
      rw [eo] at z
      rw [stepQ_eq, denQ_eq, tabQ_eq]
      simp only [seenQ_eq]
      exact z
  exact holds_open (r := r) (q := q) (loose := loose) (XP := XL q []) (YP := H.says) (d := d) (kwd := kwd) left H.of H.keeps (fun s z => xl_of s (Bool.and_eq_true_iff.mp z).1) XL.keeps hdef hp hk (fun s z => recFacts_of (Bool.and_eq_true_iff.mp z).2) hwr k1 ok hb hw call
end PvHd
end
section
set_option Elab.async false
set_option linter.all false
set_option maxRecDepth 100000
set_option maxHeartbeats 0
/-! the text of law_k47_whole_rows_of_runs_with_the_least_share, as the small language; printed by gen.py. -/
namespace Qk47
open PySem PySem.Spec PyProof.Rows L2 PV
abbrev pw : Program := PySem.Challenge.pw_slowshelves_k47_whole_rows_of_runs_with
abbrev rw_ : PySem.W.OpenLaw := PySem.Challenge.rw_slowshelves_k47_whole_rows_of_runs_with
def top (i : Nat) : Stmt := pw.main.body.getD i (.Pass ⟨0, 0, 0, 0⟩)
/-- is_integer: 0=value -/
def f0 : Fn := ⟨1, 1, [], [
  (.ret (.and_ (.isi (.pk 0) [.int]) (.not_ (.isi (.pk 0) [.bool]))))]⟩
/-- is_number: 0=value -/
def f1 : Fn := ⟨1, 1, [], [
  (.ret (.and_ (.call 0 [(.var 0)] [0]) (.cmp .ge (.pk 0) (.lit (.int 0)))))]⟩
/-- need_rooms: 0=value -/
def f2 : Fn := ⟨1, 1, [], [
  (.ifs (.or_ (.not_ (.call 1 [(.var 0)] [0])) (.not_ (.chn .le .le (.lit (.int 1)) (.pk 0) (.glb 0 (.int 5))))) [(.raise 2 (.neg (.lit (.int 1))))] []),
  (.ret (.mv 0))]⟩
/-- need_room: 0=value -/
def f3 : Fn := ⟨1, 1, [], [
  (.ifs (.or_ (.not_ (.call 1 [(.var 0)] [0])) (.not_ (.chn .le .le (.lit (.int 1)) (.pk 0) (.glb 1 (.int 8))))) [(.raise 1 (.neg (.lit (.int 1))))] []),
  (.ret (.mv 0))]⟩
/-- lowest_terms: 0=moves 1=steps 2=part -/
def f4 : Fn := ⟨2, 3, [], [
  (.set 2 (.gcd (.pk 0) (.pk 1))),
  (.ret (.tup [(.op2 .fdiv (.pk 0) (.pk 2)), (.op2 .fdiv (.pk 1) (.pk 2))]))]⟩
/-- need_between: 0=cells 1=least 2=most -/
def f5 : Fn := ⟨3, 3, [], [
  (.ifs (.or_ (.not_ (.call 1 [(.var 0)] [0])) (.not_ (.chn .le .le (.pk 1) (.pk 0) (.pk 2)))) [(.raise 3 (.lit (.str "cells")))] []),
  (.ret (.mv 0))]⟩
/-- run_rows: 0=cells 1=many 2=room 3=rows 4=left 5=longer 6=row 7=rest 8=length -/
def f6b0 : List PV.St := [(.set 7 (.op2 .sub (.pk 0) (.blt .sum [(.pk 6)]))), (.ext 5 (.comp (.nm 8) .range [(.lit (.int 1)), (.op2 .add (.pk 2) (.lit (.int 1)))] [(.chn .le .le (.pk 4) (.op2 .sub (.pk 7) (.pk 8)) (.op2 .mul (.pk 4) (.pk 2)))] (.op2 .add (.pk 6) (.tup [(.var 8)]))))]
def f6b1 : List PV.St := [(.set 5 (.lst [])), (.for_ (.nm 6) .seq [(.var 3)] f6b0 [6, 7]), (.set 3 (.var 5))]
def f6 : Fn := ⟨3, 9, [], [
  (.set 3 (.lst [(.tup [])])),
  (.for_ (.nm 4) .range [(.op2 .sub (.pk 1) (.lit (.int 1))), (.neg (.lit (.int 1))), (.neg (.lit (.int 1)))] f6b1 [4, 5, 6, 7]),
  (.ret (.mv 3))]⟩
/-- best_runs: 0=cells 1=room 2=rooms 3=many 4=rows 5=full 6=row -/
def f7 : Fn := ⟨3, 7, [], [
  (.par [0, 1, 2] [(.call 5 [(.var 0), (.lit (.int 1)), (.glb 2 (.int 40))] [0, 1, 2]), (.call 3 [(.var 1)] [0]), (.call 2 [(.var 2)] [0])]),
  (.set 3 (.neg (.op2 .fdiv (.neg (.pk 0)) (.pk 1)))),
  (.set 4 (.call 6 [(.var 0), (.var 3), (.var 1)] [0, 1, 2])),
  (.ifs (.or_ (.cmp .eq (.pk 2) (.lit (.int 1))) (.cmp .le (.pk 3) (.pk 2))) [(.ret (.op2 .add (.ite (.cmp .gt (.pk 3) (.pk 2)) (.tup [(.lit (.int 1)), (.lit (.int 1))]) (.tup [(.lit (.int 0)), (.lit (.int 1))])) (.tup [(.blt .tuple [(.pk 4)])])))] []),
  (.set 5 (.blt .tuple [(.comp (.nm 6) .seq [(.var 4)] [(.cmp .eq (.blt .sum [(.slc (.pk 6) (some (.lit (.int 1))) (some (.neg (.lit (.int 1)))))]) (.op2 .mul (.op2 .sub (.pk 3) (.lit (.int 2))) (.pk 1)))] (.var 6))])),
  (.ret (.op2 .add (.call 4 [(.op2 .sub (.pk 3) (.pk 2)), (.op2 .add (.op2 .mul (.op2 .sub (.pk 3) (.lit (.int 2))) (.pk 1)) (.lit (.int 1)))] [0, 1]) (.tup [(.var 5)])))]⟩
/-- _law_source: 0=_law_script 1=_law_cells 2=_law_mixed 3=_law_cell -/
def f8b0 : List PV.St := [(.set 2 (.op2 .mod (.blt .int [(.op2 .add (.op2 .add (.op2 .mul (.pk 2) (.lit (.int 16807))) (.op2 .mod (.pk 3) (.lit (.int 2147483543)))) (.lit (.int 37)))]) (.lit (.int 2147483629))))]
def f8 : Fn := ⟨1, 4, [], [
  (.set 1 (.comp (.nm 3) .seq [(.slc (.pk 0) none (some (.lit (.int 48))))] [] (.blt .abs [(.blt .int [(.pk 3)])]))),
  (.set 2 (.lit (.int 410047))),
  (.for_ (.nm 3) .seq [(.var 1)] f8b0 []),
  (.ret (.lst [(.rev (.comp (.nm 3) .seq [(.var 1)] [(.cmp .ge (.pk 3) (.op2 .pow (.lit (.int 10)) (.lit (.int 18))))] (.var 3))), (.var 2)]))]⟩
/-- _law_any: 0=_law_source_here 1=_law_bound 2=_law_rest -/
def f9b0 : List PV.St := [(.expr (.popk 0 (.lit (.int 0))))]
def f9 : Fn := ⟨2, 3, [0], [
  (.while_ (.and_ (.cmp .ne (.ixk 0 (.lit (.int 0))) (.lst [])) (.cmp .eq (.ix (.ixk 0 (.lit (.int 0))) (.neg (.lit (.int 1)))) (.lit (.int 0)))) f9b0 []),
  (.ifs (.cmp .ne (.ixk 0 (.lit (.int 0))) (.lst [])) [(.set 2 (.blt .int [(.popk 0 (.lit (.int 0)))])), (.appk 0 (.lit (.int 0)) (.op2 .fdiv (.pk 2) (.pk 1))), (.ret (.op2 .mod (.pk 2) (.pk 1)))] []),
  (.setix 0 (.lit (.int 1)) (.op2 .mod (.blt .int [(.op2 .add (.op2 .mul (.ixk 0 (.lit (.int 1))) (.lit (.int 69621))) (.lit (.int 311)))]) (.lit (.int 2147483629)))),
  (.ret (.op2 .mod (.blt .int [(.op2 .fdiv (.ixk 0 (.lit (.int 1))) (.lit (.int 64)))]) (.pk 1)))]⟩
/-- _law_of: 0=_law_source_here 1=_law_some -/
def f10 : Fn := ⟨2, 2, [0], [
  (.ret (.ix (.var 1) (.call 9 [(.io 0), (.blt .len [(.pk 1)])] [0, 1])))]⟩
/-- _law_share: 0=_law_lengths 1=_law_rooms 2=_law_best 3=_law_one 4=_law_part 5=_law_steps 6=_law_other 7=_law_by -/
def f11b0 : List PV.St := [(.ifs (.and_ (.cmp .ge (.op2 .sub (.pk 6) (.pk 3)) (.pk 1)) (.cmp .gt (.op2 .mul (.op2 .sub (.op2 .add (.op2 .sub (.pk 6) (.pk 3)) (.lit (.int 1))) (.pk 1)) (.ix (.pk 2) (.lit (.int 1)))) (.op2 .mul (.ix (.pk 2) (.lit (.int 0))) (.pk 5)))) [(.set 2 (.tup [(.op2 .sub (.op2 .add (.op2 .sub (.pk 6) (.pk 3)) (.lit (.int 1))) (.pk 1)), (.var 5)]))] []), (.aug 5 .add (.ix (.pk 0) (.pk 6)))]
def f11b1 : List PV.St := [(.set 5 (.lit (.int 1))), (.for_ (.nm 6) .range [(.op2 .add (.pk 3) (.lit (.int 1))), (.blt .len [(.pk 0)])] f11b0 [6])]
def f11 : Fn := ⟨2, 8, [], [
  (.set 2 (.tup [(.lit (.int 0)), (.lit (.int 1))])),
  (.for_ (.nm 3) .range [(.blt .len [(.pk 0)])] f11b1 [3, 5, 6]),
  (.set 4 (.blt .max [(.comp (.nm 7) .range [(.lit (.int 1)), (.op2 .add (.ix (.pk 2) (.lit (.int 1))) (.lit (.int 1)))] [(.and_ (.cmp .eq (.op2 .mod (.ix (.pk 2) (.lit (.int 0))) (.pk 7)) (.lit (.int 0))) (.cmp .eq (.op2 .mod (.ix (.pk 2) (.lit (.int 1))) (.pk 7)) (.lit (.int 0))))] (.var 7))])),
  (.ret (.tup [(.op2 .fdiv (.ix (.pk 2) (.lit (.int 0))) (.pk 4)), (.op2 .fdiv (.ix (.pk 2) (.lit (.int 1))) (.pk 4))]))]⟩
/-- _law_runs: 0=_law_cells 1=_law_room 2=_law_done 3=_law_open_rows 4=_law_turn 5=_law_longer 6=_law_row 7=_law_length -/
def f12b0 : List PV.St := [(.ext 5 (.comp (.nm 7) .range [(.lit (.int 1)), (.op2 .add (.pk 1) (.lit (.int 1)))] [(.cmp .le (.op2 .add (.blt .sum [(.pk 6)]) (.pk 7)) (.pk 0))] (.op2 .add (.pk 6) (.tup [(.var 7)]))))]
def f12b1 : List PV.St := [(.set 5 (.lst [])), (.for_ (.nm 6) .seq [(.var 3)] f12b0 []), (.ext 2 (.comp (.nm 6) .seq [(.var 5)] [(.cmp .eq (.blt .sum [(.pk 6)]) (.pk 0))] (.var 6))), (.set 3 (.comp (.nm 6) .seq [(.var 5)] [(.cmp .lt (.blt .sum [(.pk 6)]) (.pk 0))] (.var 6)))]
def f12 : Fn := ⟨2, 8, [], [
  (.par [2, 3] [(.lst []), (.lst [(.tup [])])]),
  (.for_ (.nm 4) .range [(.var 0)] f12b1 [4, 5, 6]),
  (.ret (.mv 2))]⟩
/-- law: 0=_law_script 1=_law_source_here 2=_law_cells 3=_law_room 4=_law_rooms 5=_law_rows 6=_law_shares 7=_law_least 8=_law_share_here 9=_law_fewest 10=_law_due 11=_law_told 12=_law_many 13=_law_wrong 14=_law_ends 15=_law_row 16=_law_one 17=_law_other -/
def f13b0 : List PV.St := [(.set 7 (.ite (.cmp .lt (.op2 .mul (.ix (.pk 8) (.lit (.int 0))) (.ix (.pk 7) (.lit (.int 1)))) (.op2 .mul (.ix (.pk 7) (.lit (.int 0))) (.ix (.pk 8) (.lit (.int 1))))) (.var 8) (.var 7)))]
def f13 : Fn := ⟨1, 18, [], [
  (.set 1 (.call 8 [(.var 0)] [0])),
  (.ifs (.cmp .ne (.call 7 [(.lit (.int 5)), (.lit (.int 2)), (.lit (.int 2))] [0, 1, 2]) (.tup [(.lit (.int 1)), (.lit (.int 3)), (.tup [(.tup [(.lit (.int 1)), (.lit (.int 2)), (.lit (.int 2))]), (.tup [(.lit (.int 2)), (.lit (.int 2)), (.lit (.int 1))])])])) [(.ret (.lit (.bool false)))] []),
  (.par [2, 3, 4] [(.op2 .add (.lit (.int 1)) (.call 9 [(.io 1), (.lit (.int 9))] [0, 1])), (.op2 .add (.lit (.int 1)) (.call 9 [(.io 1), (.lit (.int 4))] [0, 1])), (.op2 .add (.lit (.int 1)) (.call 9 [(.io 1), (.lit (.int 4))] [0, 1]))]),
  (.set 5 (.call 12 [(.var 2), (.var 3)] [0, 1])),
  (.set 6 (.comp (.nm 15) .seq [(.var 5)] [] (.frz (.call 11 [(.var 15), (.var 4)] [0, 1])))),
  (.set 7 (.ix (.pk 6) (.lit (.int 0)))),
  (.for_ (.nm 8) .seq [(.var 6)] f13b0 []),
  (.set 9 (.blt .min [(.comp (.nm 15) .seq [(.var 5)] [] (.blt .len [(.pk 15)]))])),
  (.set 10 (.blt .sorted [(.comp (.tp [(.nm 15), (.nm 8)]) .zip [(.var 5), (.var 6)] [(.and_ (.cmp .eq (.blt .len [(.pk 15)]) (.pk 9)) (.cmp .eq (.pk 8) (.pk 7)))] (.var 15))])),
  (.ifs (.or_ (.cmp .ne (.blt .repr [(.call 7 [(.var 4), (.var 3), (.var 2)] [2, 1, 0])]) (.blt .repr [(.op2 .add (.pk 7) (.tup [(.blt .tuple [(.pk 10)])]))])) (.cmp .eq (.pk 10) (.lst []))) [(.ret (.lit (.bool false)))] []),
  (.ifs (.and_ (.cmp .gt (.pk 9) (.pk 4)) (.and_ (.cmp .gt (.pk 4) (.lit (.int 1))) (.cmp .ne (.comp (.tp [(.nm 15), (.nm 8)]) .zip [(.var 5), (.var 6)] [(.and_ (.cmp .gt (.blt .len [(.pk 15)]) (.pk 9)) (.cmp .eq (.pk 8) (.pk 7)))] (.var 15)) (.lst [])))) [(.ret (.lit (.bool false)))] []),
  (.par [2, 3, 4] [(.op2 .add (.lit (.int 10)) (.call 9 [(.io 1), (.lit (.int 25))] [0, 1])), (.op2 .add (.lit (.int 5)) (.call 9 [(.io 1), (.lit (.int 4))] [0, 1])), (.op2 .add (.lit (.int 2)) (.call 9 [(.io 1), (.lit (.int 2))] [0, 1]))]),
  (.par [11, 12] [(.call 7 [(.var 2), (.var 3), (.var 4)] [0, 1, 2]), (.op2 .fdiv (.op2 .sub (.op2 .add (.pk 2) (.pk 3)) (.lit (.int 1))) (.pk 3))]),
  (.ifs (.cmp .gt (.pk 12) (.pk 4)) [(.set 14 (.comp (.nm 16) .range [(.lit (.int 1)), (.op2 .add (.pk 3) (.lit (.int 1)))] [] (.tup [(.var 16), (.op2 .sub (.op2 .sub (.pk 2) (.op2 .mul (.op2 .sub (.pk 12) (.lit (.int 2))) (.pk 3))) (.pk 16))]))), (.set 10 (.comp (.tp [(.nm 16), (.nm 17)]) .seq [(.var 14)] [(.chn .le .le (.lit (.int 1)) (.pk 17) (.pk 3))] (.op2 .add (.op2 .add (.tup [(.var 16)]) (.op2 .mul (.tup [(.var 3)]) (.op2 .sub (.pk 12) (.lit (.int 2))))) (.tup [(.var 17)])))), (.ifs (.or_ (.cmp .ne (.blt .repr [(.ix (.pk 11) (.lit (.int 2)))]) (.blt .repr [(.blt .tuple [(.pk 10)])])) (.cmp .ne (.blt .repr [(.slc (.pk 11) none (some (.lit (.int 2))))]) (.blt .repr [(.call 11 [(.ix (.pk 10) (.lit (.int 0))), (.var 4)] [0, 1])]))) [(.ret (.lit (.bool false)))] [])] [(.ifs (.or_ (.cmp .ne (.slc (.pk 11) none (some (.lit (.int 2)))) (.tup [(.lit (.int 0)), (.lit (.int 1))])) (.cmp .ne (.comp (.nm 15) .seq [(.ix (.pk 11) (.lit (.int 2)))] [(.or_ (.cmp .ne (.blt .len [(.pk 15)]) (.pk 12)) (.or_ (.cmp .ne (.blt .sum [(.pk 15)]) (.pk 2)) (.cmp .gt (.blt .max [(.pk 15)]) (.pk 3))))] (.var 15)) (.lst []))) [(.ret (.lit (.bool false)))] [])]),
  (.set 13 (.call 10 [(.io 1), (.lst [(.lit (.int 0)), (.lit (.int 41)), (.neg (.lit (.int 1))), (.lit .none), (.lit (.bool true)), (.lit (.str "9"))])] [0, 1])),
  (.ifs (.cmp .ne (.told 0 (.call 7 [(.var 13), (.lit (.int 0)), (.lit (.int 0))] [0, 1, 2]) (.lit .none) [⟨3, (some 1), [3], .ret (.tup [(.lit (.str "size")), .fld])⟩, ⟨1, (some 1), [1], .ret (.tup [(.lit (.str "room")), .fld])⟩, ⟨2, (some 1), [2], .ret (.tup [(.lit (.str "rooms")), .fld])⟩] [1, 2, 3]) (.tup [(.lit (.str "size")), (.lit (.str "cells"))])) [(.ret (.lit (.bool false)))] []),
  (.ifs (.cmp .ne (.told 0 (.call 7 [(.var 2), (.call 10 [(.io 1), (.lst [(.lit (.int 0)), (.lit (.int 9)), (.lit .none), (.lit (.bool true))])] [0, 1]), (.lit (.int 0))] [0, 1, 2]) (.lit .none) [⟨3, (some 1), [3], .ret (.tup [(.lit (.str "size")), .fld])⟩, ⟨1, (some 1), [1], .ret (.tup [(.lit (.str "room")), .fld])⟩, ⟨2, (some 1), [2], .ret (.tup [(.lit (.str "rooms")), .fld])⟩] [1, 2, 3]) (.tup [(.lit (.str "room")), (.neg (.lit (.int 1)))])) [(.ret (.lit (.bool false)))] []),
  (.ret (.cmp .eq (.told 0 (.call 7 [(.var 2), (.var 3), (.call 10 [(.io 1), (.lst [(.lit (.int 0)), (.lit (.int 6)), (.lit .none), (.lit (.bool true))])] [0, 1])] [0, 1, 2]) (.lit .none) [⟨3, (some 1), [3], .ret (.tup [(.lit (.str "size")), .fld])⟩, ⟨1, (some 1), [1], .ret (.tup [(.lit (.str "room")), .fld])⟩, ⟨2, (some 1), [2], .ret (.tup [(.lit (.str "rooms")), .fld])⟩] [1, 2, 3]) (.tup [(.lit (.str "rooms")), (.neg (.lit (.int 1)))])))]⟩
def fns : List FnI := [
  (⟨"is_integer", ["value"], ["value"], f0⟩ : FnI),
  (⟨"is_number", ["value"], ["value"], f1⟩ : FnI),
  (⟨"need_rooms", ["value"], ["value"], f2⟩ : FnI),
  (⟨"need_room", ["value"], ["value"], f3⟩ : FnI),
  (⟨"lowest_terms", ["moves", "steps", "part"], ["moves", "steps"], f4⟩ : FnI),
  (⟨"need_between", ["cells", "least", "most"], ["cells", "least", "most"], f5⟩ : FnI),
  (⟨"run_rows", ["cells", "many", "room", "rows", "left", "longer", "row", "rest", "length"], ["cells", "many", "room"], f6⟩ : FnI),
  (⟨"best_runs", ["cells", "room", "rooms", "many", "rows", "full", "row"], ["cells", "room", "rooms"], f7⟩ : FnI),
  (⟨"_law_source", ["_law_script", "_law_cells", "_law_mixed", "_law_cell"], ["_law_script"], f8⟩ : FnI),
  (⟨"_law_any", ["_law_source_here", "_law_bound", "_law_rest"], ["_law_source_here", "_law_bound"], f9⟩ : FnI),
  (⟨"_law_of", ["_law_source_here", "_law_some"], ["_law_source_here", "_law_some"], f10⟩ : FnI),
  (⟨"_law_share", ["_law_lengths", "_law_rooms", "_law_best", "_law_one", "_law_part", "_law_steps", "_law_other", "_law_by"], ["_law_lengths", "_law_rooms"], f11⟩ : FnI),
  (⟨"_law_runs", ["_law_cells", "_law_room", "_law_done", "_law_open_rows", "_law_turn", "_law_longer", "_law_row", "_law_length"], ["_law_cells", "_law_room"], f12⟩ : FnI),
  (⟨"law", ["_law_script", "_law_source_here", "_law_cells", "_law_room", "_law_rooms", "_law_rows", "_law_shares", "_law_least", "_law_share_here", "_law_fewest", "_law_due", "_law_told", "_law_many", "_law_wrong", "_law_ends", "_law_row", "_law_one", "_law_other"], ["_law_script"], f13⟩ : FnI)]
def C : Cfg := ⟨fns, [(("ShelfError", "") : Str × Str), (("InvalidRoom", "at") : Str × Str), (("InvalidRooms", "at") : Str × Str), (("InvalidSize", "word") : Str × Str)], [[1, 2, 3], [1], [2], [3]], [(("MOST_ROOMS", (.int 5)) : Str × D), (("MOST_ROOM", (.int 8)) : Str × D), (("MOST_RUN_CELLS", (.int 40)) : Str × D)], true, [((0, 1, [], [0]) : Nat × Nat × List Str × List Nat), ((1, 1, [], [0]) : Nat × Nat × List Str × List Nat), ((2, 1, [], [0]) : Nat × Nat × List Str × List Nat), ((3, 1, [], [0]) : Nat × Nat × List Str × List Nat), ((4, 2, [], [0, 1]) : Nat × Nat × List Str × List Nat), ((5, 3, [], [0, 1, 2]) : Nat × Nat × List Str × List Nat), ((6, 3, [], [0, 1, 2]) : Nat × Nat × List Str × List Nat), ((7, 0, ["rooms", "room", "cells"], [2, 1, 0]) : Nat × Nat × List Str × List Nat), ((7, 3, [], [0, 1, 2]) : Nat × Nat × List Str × List Nat), ((8, 1, [], [0]) : Nat × Nat × List Str × List Nat), ((9, 2, [], [0, 1]) : Nat × Nat × List Str × List Nat), ((10, 2, [], [0, 1]) : Nat × Nat × List Str × List Nat), ((11, 2, [], [0, 1]) : Nat × Nat × List Str × List Nat), ((12, 2, [], [0, 1]) : Nat × Nat × List Str × List Nat), ((13, 1, [], [0]) : Nat × Nat × List Str × List Nat)], [⟨"_law_refusal", ["_law_work", "error"], "_law_work", defArgs (top 26), defBody (top 26), defScope (top 26)⟩]⟩
def ds : List He.DefD := [
  (⟨("is_integer", none), "is_integer", "is_integer", defArgs (top 7), defBody (top 7), defScope (top 7), [], []⟩ : He.DefD),
  (⟨("is_number", none), "is_number", "is_number", defArgs (top 8), defBody (top 8), defScope (top 8), [], []⟩ : He.DefD),
  (⟨("need_rooms", none), "need_rooms", "need_rooms", defArgs (top 12), defBody (top 12), defScope (top 12), [], []⟩ : He.DefD),
  (⟨("need_room", none), "need_room", "need_room", defArgs (top 13), defBody (top 13), defScope (top 13), [], []⟩ : He.DefD),
  (⟨("lowest_terms", none), "lowest_terms", "lowest_terms", defArgs (top 16), defBody (top 16), defScope (top 16), [], []⟩ : He.DefD),
  (⟨("need_between", none), "need_between", "need_between", defArgs (top 17), defBody (top 17), defScope (top 17), [], []⟩ : He.DefD),
  (⟨("run_rows", none), "run_rows", "run_rows", defArgs (top 18), defBody (top 18), defScope (top 18), [], []⟩ : He.DefD),
  (⟨("best_runs", none), "best_runs", "best_runs", defArgs (top 19), defBody (top 19), defScope (top 19), [], []⟩ : He.DefD),
  (⟨("_law_source", none), "_law_source", "_law_source", defArgs (top 21), defBody (top 21), defScope (top 21), [], []⟩ : He.DefD),
  (⟨("_law_any", none), "_law_any", "_law_any", defArgs (top 22), defBody (top 22), defScope (top 22), [], []⟩ : He.DefD),
  (⟨("_law_of", none), "_law_of", "_law_of", defArgs (top 23), defBody (top 23), defScope (top 23), [], []⟩ : He.DefD),
  (⟨("_law_share", none), "_law_share", "_law_share", defArgs (top 24), defBody (top 24), defScope (top 24), [], []⟩ : He.DefD),
  (⟨("_law_runs", none), "_law_runs", "_law_runs", defArgs (top 25), defBody (top 25), defScope (top 25), [], []⟩ : He.DefD),
  (⟨("law", none), "law", "law", defArgs (top 27), defBody (top 27), defScope (top 27), [], []⟩ : He.DefD)]
def dt : List He.DefD := [(⟨("_law_refusal", none), "_law_refusal", "_law_refusal", defArgs (top 26), defBody (top 26), defScope (top 26), [], []⟩ : He.DefD)]
theorem tdps : TdPs C.tds dt := ⟨⟨rfl, rfl, rfl, rfl, rfl, rfl, rfl, rfl, by decide +kernel, fun _ _ _ _ _ _ us ws h1 h2 => match us, ws, h1, h2 with | [_], [], _, _ => rfl⟩, trivial⟩
theorem okDefs : defsB C ds = true := by decide +kernel
theorem kbs : KBs C ds C.kws := ⟨
  fun _ _ _ _ _ _ us ws h1 h2 => match us, ws, h1, h2 with | [_], [], _, _ => rfl,
  fun _ _ _ _ _ _ us ws h1 h2 => match us, ws, h1, h2 with | [_], [], _, _ => rfl,
  fun _ _ _ _ _ _ us ws h1 h2 => match us, ws, h1, h2 with | [_], [], _, _ => rfl,
  fun _ _ _ _ _ _ us ws h1 h2 => match us, ws, h1, h2 with | [_], [], _, _ => rfl,
  fun _ _ _ _ _ _ us ws h1 h2 => match us, ws, h1, h2 with | [_, _], [], _, _ => rfl,
  fun _ _ _ _ _ _ us ws h1 h2 => match us, ws, h1, h2 with | [_, _, _], [], _, _ => rfl,
  fun _ _ _ _ _ _ us ws h1 h2 => match us, ws, h1, h2 with | [_, _, _], [], _, _ => rfl,
  fun _ _ _ _ _ _ us ws h1 h2 => match us, ws, h1, h2 with | [], [_, _, _], _, _ => rfl,
  fun _ _ _ _ _ _ us ws h1 h2 => match us, ws, h1, h2 with | [_, _, _], [], _, _ => rfl,
  fun _ _ _ _ _ _ us ws h1 h2 => match us, ws, h1, h2 with | [_], [], _, _ => rfl,
  fun _ _ _ _ _ _ us ws h1 h2 => match us, ws, h1, h2 with | [_, _], [], _, _ => rfl,
  fun _ _ _ _ _ _ us ws h1 h2 => match us, ws, h1, h2 with | [_, _], [], _, _ => rfl,
  fun _ _ _ _ _ _ us ws h1 h2 => match us, ws, h1, h2 with | [_, _], [], _, _ => rfl,
  fun _ _ _ _ _ _ us ws h1 h2 => match us, ws, h1, h2 with | [_, _], [], _, _ => rfl,
  fun _ _ _ _ _ _ us ws h1 h2 => match us, ws, h1, h2 with | [_], [], _, _ => rfl, trivial⟩
def lawI : Nat := 13
end Qk47
end
section
set_option Elab.async false
set_option linter.all false
set_option maxRecDepth 100000
set_option maxHeartbeats 0
namespace Qk47
open PySem PySem.Spec PyProof.Rows L2 PV
def loose : List Str := [("gcd" : Str), ("ShelfError" : Str), ("InvalidRoom" : Str), ("InvalidRooms" : Str), ("InvalidSize" : Str), ("is_integer" : Str), ("is_number" : Str), ("MOST_ROOMS" : Str), ("MOST_ROOM" : Str), ("need_rooms" : Str), ("need_room" : Str), ("MOST_RUN_CELLS" : Str), ("lowest_terms" : Str), ("need_between" : Str), ("run_rows" : Str), ("best_runs" : Str), ("_law_source" : Str), ("_law_any" : Str), ("_law_of" : Str), ("_law_share" : Str), ("_law_runs" : Str), ("_law_refusal" : Str)]
abbrev Rw : PySem.W.OpenRow := PySem.W.OpenLaw.row rw_
abbrev hk : PySem.W.Hook := hookG 6 (ds ++ dt) (exB C pw)
def ob (s : PySem.W.SharedT) : AlG := obsG 6 (ds ++ dt) (exB C pw) (HandSHeadRun.getT s)
theorem ob_eq (s : PySem.W.SharedT) : ob s = hk.obs s.abs := obsG_eq (HandSHeadRun.getT_eq s)
theorem run (w : World) : PvHd.RunI Rw (PySem.W.view Rw.prog [27]) hk ob 3000 40000 loose w := by
  kernel_rfl
open PySem.W PySem.Calls in
theorem holds_of {wf k : Nat} (hr : Room (4 * k) callerA) (hrun : ∀ ns : List Int, ns.length ≤ 63 → PV.run C.prog wf k lawI [.imm (.list (ns.map .int))] = .ok (.imm (.bool true)) []) : rw_.Holds := by
  w_on; o_law
  refine PvHd.head_imp (r := OpenLaw.row rw_) (q := view (OpenLaw.row rw_).prog [27]) (H := hk) (ob := ob) (M1 := 3000) (M2 := 40000) (loose := loose) (d := HandSHeadRun.topDef (OpenLaw.row rw_).prog 27) (kwd := []) ob_eq
    run (by kernel_rfl) (by kernel_rfl) (by kernel_rfl) (by rfl) (by first | assumption | decide +kernel) (by decide +kernel) ⟨rfl, rfl, rfl, rfl, rfl, by decide +kernel⟩ ?hw ?hc
  case hw => w_witness2
  case hc =>
    refine walk_g (l := rw_) (n := 63) (C := C) (wf := wf) (li := lawI) (fi := C.fns.getD lawI default) (x := "_law_script") k rfl (by decide) (by kernel_rfl) hr (by kernel_rfl) (by kernel_rfl) (by kernel_rfl) (by kernel_rfl) (by decide +kernel) ?F hrun
    intro w mg h Y G
    obtain ⟨K, KX, y⟩ := Y
    exact ⟨K, caOf C K, txt_of (wf := wf) KX G y okDefs kbs tdps⟩
end Qk47
end
section
set_option Elab.async false
set_option linter.all false
set_option maxRecDepth 100000
set_option maxHeartbeats 1000000
/-! PxA: plain steps of the evaluator, as rewriting rules. No program in sight. -/
namespace PX
open PV
open PySem
section
variable {α β : Type} {ft : FT} {wf : Nat} {s : Sl}
@[simp] theorem bind_ok {a : α} {f : α → Sl → R β} : (R.ok a s).bind f = f a s := rfl
@[simp] theorem bind_exc {c : Nat} {d : D} {f : α → Sl → R β} : (R.exc c d s : R α).bind f = .exc c d s := rfl
@[simp] theorem bind_bad {f : α → Sl → R β} : (R.bad : R α).bind f = .bad := rfl
@[simp] theorem d_ok {v : OV} : (R.ok v s).d = .ok v.toD s := rfl
@[simp] theorem d_exc {c : Nat} {d : D} : (R.exc c d s : R OV).d = .exc c d s := rfl
@[simp] theorem d_bad : (R.bad : R OV).d = .bad := rfl
@[simp] theorem ofO_some {a : α} : R.ofO (some a) s = .ok a s := rfl
@[simp] theorem ofO_none : R.ofO (none : Option α) s = .bad := rfl
@[simp] theorem noX_ok {a : α} : (R.ok a s).noX = .ok a s := rfl
@[simp] theorem at_zero {x : Option OV} : at_ (x :: s) 0 = x := rfl
@[simp] theorem at_succ {x : Option OV} {n : Nat} : at_ (x :: s) (n + 1) = at_ s n := rfl
@[simp] theorem toD_imm {d : D} : (OV.imm d).toD = d := by rw [OV.toD]
@[simp] theorem toD_ol {xs : List OV} : (OV.ol xs).toD = .list (OV.toDs xs) := by rw [OV.toD]
@[simp] theorem toDs_nil : OV.toDs [] = [] := by rw [OV.toDs]
@[simp] theorem toDs_cons {x : OV} {xs : List OV} : OV.toDs (x :: xs) = x.toD :: OV.toDs xs := by rw [OV.toDs]
@[simp] theorem shal_imm {d : D} : (OV.imm d).shal = some d := rfl
@[simp] theorem shal_ol {xs : List OV} : (OV.ol xs).shal = (OV.immAll xs).map .list := rfl
@[simp] theorem immAll_nil : OV.immAll [] = some [] := rfl
@[simp] theorem immAll_imm {d : D} {xs : List OV} : OV.immAll (.imm d :: xs) = (OV.immAll xs).map (d :: ·) := rfl
@[simp] theorem immAll_map {ds : List D} : OV.immAll (ds.map .imm) = some ds := by
  induction ds with
  | nil => rfl
  | cons d ds ih => rw [List.map_cons, immAll_imm, ih]; rfl
@[simp] theorem toDs_map {ds : List D} : OV.toDs (ds.map .imm) = ds := by
  induction ds with
  | nil => simp
  | cons d ds ih => simp [ih]
theorem toDs_app {xs ys : List OV} : OV.toDs (xs ++ ys) = OV.toDs xs ++ OV.toDs ys := by
  induction xs with
  | nil => simp
  | cons d ds ih => simp [ih]
/-! ### the operations -/
@[simp] theorem c_eq {a b : D} : C2.sem .eq a b = if eqOk a b then some (PyData.eqv a b) else none := by cases a <;> cases b <;> rfl
@[simp] theorem c_ne {a b : D} : C2.sem .ne a b = if eqOk a b then some (!PyData.eqv a b) else none := by cases a <;> cases b <;> rfl
@[simp] theorem c_lt {i j : Int} : C2.sem .lt (.int i) (.int j) = some (decide (i < j)) := rfl
@[simp] theorem c_le {i j : Int} : C2.sem .le (.int i) (.int j) = some (decide (i ≤ j)) := rfl
@[simp] theorem c_gt {i j : Int} : C2.sem .gt (.int i) (.int j) = some (decide (j < i)) := rfl
@[simp] theorem c_ge {i j : Int} : C2.sem .ge (.int i) (.int j) = some (decide (j ≤ i)) := rfl
@[simp] theorem c_in {a b : D} : C2.sem .in_ a b = (seqOf b).bind fun xs => if inOk xs a then some (memD a xs) else none := by cases a <;> cases b <;> rfl
@[simp] theorem c_nin {a b : D} : C2.sem .nin a b = (seqOf b).bind fun xs => if inOk xs a then some (!memD a xs) else none := by cases a <;> cases b <;> rfl
@[simp] theorem c_is {a : D} : C2.sem .is a .none = some (match a with | .none => true | _ => false) := by cases a <;> rfl
@[simp] theorem c_isnt {a : D} : C2.sem .isnt a .none = some (match a with | .none => false | _ => true) := by cases a <;> rfl
@[simp] theorem o_add {i j : Int} : O2.sem .add (.int i) (.int j) = some (.imm (.int (i + j))) := rfl
@[simp] theorem o_addT {xs ys : List D} : O2.sem .add (.tuple xs) (.tuple ys) = if xs.length + ys.length ≤ lim then some (.imm (.tuple (xs ++ ys))) else none := rfl
@[simp] theorem o_addL {xs ys : List D} : O2.sem .add (.list xs) (.list ys) = if xs.length + ys.length ≤ lim then some (nl (xs ++ ys)) else none := rfl
@[simp] theorem o_sub {i j : Int} : O2.sem .sub (.int i) (.int j) = some (.imm (.int (i - j))) := rfl
@[simp] theorem o_mul {i j : Int} : O2.sem .mul (.int i) (.int j) = if okMul i j then some (.imm (.int (i * j))) else none := rfl
@[simp] theorem o_fdiv {i j : Int} : O2.sem .fdiv (.int i) (.int j) = if 0 < j ∧ j < 1073741824 then some (.imm (.int (i / j))) else none := rfl
@[simp] theorem o_mod {i j : Int} : O2.sem .mod (.int i) (.int j) = if 0 < j then some (.imm (.int (i % j))) else none := rfl
@[simp] theorem o_pow {i j : Int} : O2.sem .pow (.int i) (.int j) = if 0 ≤ j ∧ j ≤ 1000 ∧ i.natAbs < 1000000 then some (.imm (.int (i ^ j.toNat))) else none := rfl
@[simp] theorem ix_l {xs : List D} {i : Int} : ixD (.list xs) (.int i) = L2.atI xs i := rfl
@[simp] theorem ix_t {xs : List D} {i : Int} : ixD (.tuple xs) (.int i) = L2.atI xs i := rfl
@[simp] theorem b_lenL {xs : List D} : BI.sem .len [.list xs] = some (.imm (.int xs.length)) := rfl
@[simp] theorem b_lenT {xs : List D} : BI.sem .len [.tuple xs] = some (.imm (.int xs.length)) := rfl
@[simp] theorem b_int {i : Int} : BI.sem .int [.int i] = some (.imm (.int i)) := rfl
@[simp] theorem b_intB {b : Bool} : BI.sem .int [.bool b] = some (.imm (.int (if b then 1 else 0))) := rfl
@[simp] theorem b_abs {i : Int} : BI.sem .abs [.int i] = some (.imm (.int (if i < 0 then -i else i))) := rfl
@[simp] theorem b_tupL {xs : List D} : BI.sem .tuple [.list xs] = some (.imm (.tuple xs)) := rfl
@[simp] theorem b_tupT {xs : List D} : BI.sem .tuple [.tuple xs] = some (.imm (.tuple xs)) := rfl
@[simp] theorem b_lstL {xs : List D} : BI.sem .list [.list xs] = some (nl xs) := rfl
@[simp] theorem b_lstT {xs : List D} : BI.sem .list [.tuple xs] = some (nl xs) := rfl
@[simp] theorem b_sortL {xs : List D} : BI.sem .sorted [.list xs] = if sortOk xs && decide (xs.length ≤ lim) then some (nl (sortD xs)) else none := rfl
@[simp] theorem b_sortT {xs : List D} : BI.sem .sorted [.tuple xs] = if sortOk xs && decide (xs.length ≤ lim) then some (nl (sortD xs)) else none := rfl
@[simp] theorem b_repr {d : D} : BI.sem .repr [d] = if reprOk d then some (.imm (.str d.shown)) else none := by cases d <;> rfl
@[simp] theorem seq_l {xs : List D} : seqOf (.list xs) = some xs := rfl
@[simp] theorem seq_t {xs : List D} : seqOf (.tuple xs) = some xs := rfl
@[simp] theorem tb_nm {i : Nat} {d : D} : Tgt.bind (.nm i) d s = some (s.set i (some (.imm d))) := by rw [Tgt.bind]
@[simp] theorem tb_tp {ts : List Tgt} {ds : List D} : Tgt.bind (.tp ts) (.tuple ds) s = Tgt.binds ts ds s := by rw [Tgt.bind]
@[simp] theorem tbs_nil : Tgt.binds [] [] s = some s := by rw [Tgt.binds]
@[simp] theorem tbs_cons {t : Tgt} {ts : List Tgt} {d : D} {ds : List D} : Tgt.binds (t :: ts) (d :: ds) s = (Tgt.bind t d s).bind fun s' => Tgt.binds ts ds s' := by rw [Tgt.binds]
/-! ### statements, one behind another -/
theorem B_cons {t : PV.St} {ts : List PV.St} {s s1 : Sl} (h : evS wf ft t s = .ok .nx s1) : evB wf ft (t :: ts) s = evB wf ft ts s1 := by
  rw [evB, h]; rfl
theorem B_ret {t : PV.St} {ts : List PV.St} {s s1 : Sl} {v : OV} (h : evS wf ft t s = .ok (.rt v) s1) : evB wf ft (t :: ts) s = .ok (.rt v) s1 := by
  rw [evB, h]; rfl
theorem B_exc {t : PV.St} {ts : List PV.St} {s s1 : Sl} {c : Nat} {d : D} (h : evS wf ft t s = .exc c d s1) : evB wf ft (t :: ts) s = .exc c d s1 := by
  rw [evB, h]; rfl
theorem S_for {t : Tgt} {k : SK} {es : List E} {body : List PV.St} {ks : List Nat} {s s1 : Sl} {ds items : List D} (h1 : evDs ft es s = .ok ds s1) (h2 : srcOf k ds = some items) : evS wf ft (.for_ t k es body ks) s = loopF ks (Tgt.bind t) (fun s => evB wf ft body s) items s1 := by
  rw [evS, h1, bind_ok, h2]
theorem E_comp {t : Tgt} {k : SK} {es cs : List E} {e : E} {s s1 : Sl} {ds items : List D} (h1 : evDs ft es s = .ok ds s1) (h2 : srcOf k ds = some items) : evE ft (.comp t k es cs e) s = (loopC t.slots (Tgt.bind t) (fun s => evAll ft cs s) (fun s => evE ft e s) items (clear t.slots s1) []).bind fun vs s2 => .ok (.ol vs) s2 := by
  rw [evE, h1, bind_ok, h2]
@[simp] theorem src_range {ds : List D} : srcOf .range ds = rangeD ds := by rw [srcOf]
@[simp] theorem src_seqL {ds : List D} : srcOf .seq [.list ds] = some ds := by rw [srcOf]
@[simp] theorem src_seqT {ds : List D} : srcOf .seq [.tuple ds] = some ds := by rw [srcOf]
theorem small_nat {n : Nat} (h : n < 1000000000) : small62 (n : Int) = true := by
  unfold small62
  rw [decide_eq_true (by omega), decide_eq_true (by omega)]
  rfl
theorem range_nat {n : Nat} (h : n < 1000000000) : rangeD [.int (n : Int)] = some (intsD 0 n) := by
  have e : rangeD [.int (n : Int)] = if small62 (n : Int) = true then some (intsD 0 (n : Int).toNat) else none := rfl
  rw [e, if_pos (small_nat h), Int.toNat_natCast]
theorem range_nat2 {a b : Nat} (h : a < 1000000000) (k : b < 1000000000) : rangeD [.int (a : Int), .int (b : Int)] = some (intsD a (b - a)) := by
  have e : rangeD [.int (a : Int), .int (b : Int)] = if (small62 (a : Int) && small62 (b : Int)) = true then some (intsD a ((b : Int) - a).toNat) else none := rfl
  rw [e, small_nat h, small_nat k, show ((b : Int) - a).toNat = b - a by omega]
  rfl
theorem E_pk {i : Nat} {ov : OV} {d : D} (h : at_ s i = some ov) (k : ov.shal = some d) : evE ft (.pk i) s = .ok (.imm d) s := by
  rw [evE, h]
  show R.ofO (ov.shal.map OV.imm) s = _
  rw [k]; rfl
theorem set_at {i : Nat} {ov : OV} (h : at_ s i = some ov) : s.set i (some ov) = s := by
  have h1 : s[i]? = some (some ov) := by
    unfold at_ at h
    cases q : s[i]? with
    | none => rw [q] at h; cases h
    | some x => rw [q] at h; have h : x = some ov := h; rw [h]
  obtain ⟨hl, e⟩ := List.getElem?_eq_some_iff.mp h1
  rw [← e]
  exact List.set_getElem_self hl
theorem E_var {i : Nat} {d : D} (h : at_ s i = some (.imm d)) : evE ft (.var i) s = .ok (.imm d) s := by
  rw [evE, h]
  show R.ok (OV.imm (OV.imm d).toD) (s.set i (some (OV.imm (OV.imm d).toD))) = _
  rw [toD_imm, set_at h]
theorem E_var2 {i : Nat} {ov : OV} (h : at_ s i = some ov) : evE ft (.var i) s = .ok (.imm ov.toD) (s.set i (some (.imm ov.toD))) := by
  rw [evE, h]
theorem E_mv {i : Nat} {ov : OV} (h : at_ s i = some ov) : evE ft (.mv i) s = .ok ov (s.set i none) := by
  rw [evE, h]
theorem E_lit {d : D} : evE ft (.lit d) s = .ok (.imm d) s := by rw [evE]
theorem E_glb {k : Nat} {d : D} : evE ft (.glb k d) s = .ok (.imm d) s := by rw [evE]
theorem E_op2 {o : O2} {a b : E} {s s1 s2 : Sl} {va vb r : OV} (ha : evE ft a s = .ok va s1) (hb : evE ft b s1 = .ok vb s2) (h : o.sem va.toD vb.toD = some r) : evE ft (.op2 o a b) s = .ok r s2 := by
  rw [evE, ha, d_ok, bind_ok, hb, d_ok, bind_ok, h, ofO_some]
theorem E_cmp {o : C2} {a b : E} {s s1 s2 : Sl} {va vb : OV} {r : Bool} (ha : evE ft a s = .ok va s1) (hb : evE ft b s1 = .ok vb s2) (h : o.sem va.toD vb.toD = some r) : evE ft (.cmp o a b) s = .ok (.imm (.bool r)) s2 := by
  rw [evE, ha, d_ok, bind_ok, hb, d_ok, bind_ok, h]; rfl
theorem E_blt1 {b : BI} {e : E} {s s1 : Sl} {v r : OV} (h : evE ft e s = .ok v s1) (k : b.sem [v.toD] = some r) : evE ft (.blt b [e]) s = .ok r s1 := by
  rw [evE, evDs, h, bind_ok, evDs, bind_ok, bind_ok, k, ofO_some]
theorem E_ix {a b : E} {s s1 s2 : Sl} {va vb : OV} {r : D} (ha : evE ft a s = .ok va s1) (hb : evE ft b s1 = .ok vb s2) (h : ixD va.toD vb.toD = some r) : evE ft (.ix a b) s = .ok (.imm r) s2 := by
  rw [evE, ha, d_ok, bind_ok, hb, d_ok, bind_ok, h]; rfl
theorem E_tup2 {a b : E} {s s1 s2 : Sl} {va vb : OV} (ha : evE ft a s = .ok va s1) (hb : evE ft b s1 = .ok vb s2) : evE ft (.tup [a, b]) s = .ok (.imm (.tuple [va.toD, vb.toD])) s2 := by
  rw [evE, evDs, ha, bind_ok, evDs, hb, bind_ok, evDs, bind_ok, bind_ok, bind_ok]
theorem S_app {i : Nat} {e : E} {s s1 : Sl} {v : OV} {ys xs : List OV} (h0 : at_ s i = some (.ol ys)) (h : evE ft e s = .ok v s1) (h1 : at_ s1 i = some (.ol xs)) (hl : xs.length < lim) : evS wf ft (.app i e) s = .ok .nx (s1.set i (some (.ol (xs ++ [v])))) := by
  rw [evS, h0]
  show ((evE ft e s).bind _) = _
  rw [h, bind_ok, h1]
  show (if xs.length < lim then _ else _) = _
  rw [if_pos hl]
theorem S_set {i : Nat} {e : E} {s s1 : Sl} {v : OV} (h : evE ft e s = .ok v s1) : evS wf ft (.set i e) s = .ok .nx (s1.set i (some v)) := by
  rw [evS, h, bind_ok]
theorem S_ret {e : E} {s s1 : Sl} {v : OV} (h : evE ft e s = .ok v s1) : evS wf ft (.ret e) s = .ok (.rt v) s1 := by
  rw [evS, h, bind_ok]
theorem S_ifT {c : E} {a b : List PV.St} {s s1 : Sl} (h : evE ft c s = .ok (.imm (.bool true)) s1) : evS wf ft (.ifs c a b) s = evB wf ft a s1 := by
  rw [evS, h, bind_ok]
theorem S_ifF {c : E} {a b : List PV.St} {s s1 : Sl} (h : evE ft c s = .ok (.imm (.bool false)) s1) : evS wf ft (.ifs c a b) s = evB wf ft b s1 := by
  rw [evS, h, bind_ok]
theorem B_one {t : PV.St} {s : Sl} : evB wf ft [t] s = evS wf ft t s := by
  rw [evB]
  cases evS wf ft t s with
  | ok f s1 =>
    cases f with
    | nx => rw [bind_ok, evB]
    | _ => rfl
  | _ => rfl
theorem B_nil {s : Sl} : evB wf ft [] s = .ok .nx s := by rw [evB]
/-- a def's body, from its first slots on -/
theorem F_body {f : Fn} {vs : List OV} {s : Sl} (h1 : vs.length = f.ar) (h2 : vs.map some ++ List.replicate (f.ns - f.ar) none = s) : evF wf ft f vs = (evB wf ft f.body s).fin f.lent := by
  unfold evF
  rw [if_pos h1, h2]
/-! ### loops, a turn at a time -/
theorem loopF_nil {ks : List Nat} {bd : D → Sl → Option Sl} {body : Sl → R Fl} {s : Sl} : loopF ks bd body [] s = .ok .nx s := rfl
theorem loopF_step {ks : List Nat} {bd : D → Sl → Option Sl} {body : Sl → R Fl} {d : D} {ds : List D} {s s1 s2 : Sl} (h1 : bd d s = some s1) (h2 : body s1 = .ok .nx s2) : loopF ks bd body (d :: ds) s = loopF ks bd body ds (clear ks s2) := by
  rw [loopF, h1]
  show (body s1).bind _ = _
  rw [h2]
  rfl
theorem loopF_exc {ks : List Nat} {bd : D → Sl → Option Sl} {body : Sl → R Fl} {d : D} {ds : List D} {s s1 s2 : Sl} {c : Nat} {e : D} (h1 : bd d s = some s1) (h2 : body s1 = .exc c e s2) : loopF ks bd body (d :: ds) s = .exc c e s2 := by
  rw [loopF, h1]
  show (body s1).bind _ = _
  rw [h2]
  rfl
theorem loopF_ret {ks : List Nat} {bd : D → Sl → Option Sl} {body : Sl → R Fl} {d : D} {ds : List D} {s s1 s2 : Sl} {v : OV} (h1 : bd d s = some s1) (h2 : body s1 = .ok (.rt v) s2) : loopF ks bd body (d :: ds) s = .ok (.rt v) s2 := by
  rw [loopF, h1]
  show (body s1).bind _ = _
  rw [h2]
  rfl
end
end PX
end
section
set_option Elab.async false
set_option linter.all false
set_option maxRecDepth 100000
set_option maxHeartbeats 1000000
/-! PxB: the laws' own box of digits. -/
namespace PX
open PV
open PySem
def takeF (A B c d e : Int) : Fn := ⟨2, 4, [0], [
  (.ifs (.cmp .gt (.ix (.pk 0) (.lit (.int 0))) (.lit (.int 0))) [(.set 3 (.op2 .mod (.blt .int [(.ix (.pk 0) (.lit (.int 0)))]) (.pk 1))), (.setix 0 (.lit (.int 0)) (.op2 .fdiv (.ix (.pk 0) (.lit (.int 0))) (.pk 1))), (.ret (.mv 3))] []),
  (.setix 0 (.lit (.int 2)) (.op2 .add (.ix (.pk 0) (.lit (.int 2))) (.lit (.int 1)))),
  (.set 2 (.op2 .mod (.blt .int [(.op2 .add (.op2 .mul (.op2 .add (.ix (.pk 0) (.lit (.int 1))) (.op2 .mul (.lit (.int A)) (.ix (.pk 0) (.lit (.int 2))))) (.lit (.int B))) (.lit (.int c)))]) (.lit (.int 2147483563)))),
  (.setix 0 (.lit (.int 1)) (.op2 .add (.op2 .mod (.blt .int [(.op2 .add (.op2 .mul (.pk 2) (.lit (.int d))) (.lit (.int e)))]) (.lit (.int 2147483629))) (.lit (.int 1)))),
  (.ret (.op2 .mod (.blt .int [(.op2 .fdiv (.op2 .add (.op2 .mul (.pk 2) (.lit (.int 2147483647))) (.ix (.pk 0) (.lit (.int 1)))) (.lit (.int 8191)))]) (.pk 1)))]⟩
def boxF (p q r s t : Int) : Fn := ⟨2, 3, [], [
  (.set 2 (.op2 .add (.op2 .mul (.lit (.int p)) (.pk 1)) (.lit (.int q)))),
  (.ifs (.cmp .lt (.pk 1) (.blt .len [(.pk 0)])) [(.set 2 (.blt .abs [(.ix (.pk 0) (.pk 1))]))] [(.ifs (.cmp .gt (.blt .len [(.pk 0)]) (.lit (.int 0))) [(.set 2 (.op2 .add (.pk 2) (.op2 .mul (.op2 .mod (.blt .int [(.blt .abs [(.ix (.pk 0) (.op2 .mod (.blt .int [(.pk 1)]) (.blt .len [(.pk 0)])))])]) (.lit (.int 2147483629))) (.lit (.int r)))))] [])]),
  (.ret (.lst [(.ix (.lst [(.lit (.int 0)), (.var 2)]) (.blt .int [(.cmp .ge (.pk 2) (.op2 .pow (.lit (.int 10)) (.lit (.int 18))))])), (.op2 .add (.op2 .mod (.blt .int [(.op2 .add (.op2 .mul (.op2 .mod (.blt .int [(.pk 2)]) (.lit (.int 2147483629))) (.lit (.int s))) (.op2 .mul (.lit (.int t)) (.pk 1)))]) (.lit (.int 2147483629))) (.lit (.int 1))), (.lit (.int 0))]))]⟩
def pickF (t : Nat) : Fn := ⟨2, 2, [0], [(.ret (.ix (.var 1) (.call t [(.io 0), (.blt .len [(.pk 1)])] [0, 1])))]⟩
/-- small enough to be multiplied -/
def Sm (i : Int) : Prop := -(2 ^ 200) < i ∧ i < 2 ^ 200
theorem okMul_of {i j : Int} (hi : Sm i) (hj : Sm j) : okMul i j = true := by
  have z : ∀ {k : Int}, Sm k → k.natAbs.log2 < 400000 := fun {k} h => by
    have h1 : k.natAbs < 2 ^ 200 := by
      obtain ⟨a, b⟩ := h
      omega
    by_cases hk : k.natAbs = 0
    · rw [hk]; decide
    · exact Nat.lt_of_lt_of_le ((Nat.log2_lt hk).mpr h1) (by decide)
  unfold okMul
  rw [decide_eq_true (z hi), decide_eq_true (z hj)]
  rfl
/-- a box: three numbers; the last counts what was drawn -/
def Box (n : Nat) (v : OV) : Prop := ∃ a b c : Int, v = .ol [.imm (.int a), .imm (.int b), .imm (.int c)] ∧ 0 ≤ b ∧ b < 2147483648 ∧ 0 ≤ c ∧ c ≤ n
theorem Box.mono {n m : Nat} {v : OV} (h : Box n v) (k : n ≤ m) : Box m v := by
  obtain ⟨a, b, c, h1, h2, h3, h4, h5⟩ := h
  exact ⟨a, b, c, h1, h2, h3, h4, by omega⟩
def Coef (A : Int) : Prop := 0 ≤ A ∧ A < 1000000
theorem ev_take {A B c d e : Int} {ft : FT} {wf n : Nat} {v : OV} {m : Int} (hA : Coef A) (hB : Coef B) (hc : Coef c) (hd : Coef d) (he : Coef e) (hv : Box n v) (hn : n < 1000000000) (m0 : 0 < m) (m1 : m < 1073741824) :
    ∃ r v', evF wf ft (takeF A B c d e) [v, .imm (.int m)] = .ok (.imm (.int r)) [v'] ∧ 0 ≤ r ∧ r < m ∧ Box (n + 1) v' := by
  obtain ⟨a, b, k, rfl, b0, b1, k0, k1⟩ := hv
  obtain ⟨A0, A1⟩ := hA
  obtain ⟨B0, B1⟩ := hB
  obtain ⟨c0, c1⟩ := hc
  obtain ⟨d0, d1⟩ := hd
  obtain ⟨e0, e1⟩ := he
  by_cases ha : 0 < a
  · refine ⟨a % m, .ol [.imm (.int (a / m)), .imm (.int b), .imm (.int k)], ?_, Int.emod_nonneg _ (by omega), Int.emod_lt_of_pos _ m0, _, _, _, rfl, b0, b1, k0, by omega⟩
    simp [evF, takeF, evB, evS, evE, evDs, L2.atI, L2.ixN, R.fin, outsOf, m0, m1, ha]
  · have q1 : 0 ≤ A * (k + 1) ∧ A * (k + 1) ≤ 1000000 * 2000000000 := ⟨Int.mul_nonneg A0 (by omega), Int.mul_le_mul (by omega) (by omega) (by omega) (by omega)⟩
    have q2 : 0 ≤ (b + A * (k + 1)) * B ∧ (b + A * (k + 1)) * B ≤ 4000000000000000 * 1000000 := ⟨Int.mul_nonneg (by omega) B0, Int.mul_le_mul (by omega) (by omega) (by omega) (by omega)⟩
    let raw := ((b + A * (k + 1)) * B + c) % 2147483563
    have r0 : 0 ≤ raw := Int.emod_nonneg _ (by decide)
    have r1 : raw < 2147483563 := Int.emod_lt_of_pos _ (by decide)
    have o1 : okMul A (k + 1) = true := okMul_of ⟨by omega, by omega⟩ ⟨by omega, by omega⟩
    have o2 : okMul (b + A * (k + 1)) B = true := okMul_of ⟨by omega, by omega⟩ ⟨by omega, by omega⟩
    have o3 : okMul raw d = true := okMul_of ⟨by omega, by omega⟩ ⟨by omega, by omega⟩
    have o4 : okMul raw 2147483647 = true := okMul_of ⟨by omega, by omega⟩ ⟨by omega, by omega⟩
    let nb := (raw * d + e) % 2147483629 + 1
    refine ⟨(raw * 2147483647 + nb) / 8191 % m, .ol [.imm (.int a), .imm (.int nb), .imm (.int (k + 1))], ?_, Int.emod_nonneg _ (by omega), Int.emod_lt_of_pos _ m0, _, _, _, rfl, ?_, ?_, by omega, by omega⟩
    · simp [evF, takeF, evB, evS, evE, evDs, L2.atI, L2.ixN, R.fin, outsOf, m0, m1, ha, o1, o2, o3, o4, raw, nb]
    · have := Int.emod_nonneg (raw * d + e) (show (2147483629 : Int) ≠ 0 by decide)
      show 0 ≤ (raw * d + e) % 2147483629 + 1
      omega
    · have := Int.emod_lt_of_pos (raw * d + e) (show (0 : Int) < 2147483629 by decide)
      show (raw * d + e) % 2147483629 + 1 < 2147483648
      omega
theorem atI_nat {α : Type} {xs : List α} {i : Nat} : L2.atI xs (i : Int) = xs[i]? := by
  unfold L2.atI L2.ixN
  by_cases h : i < xs.length
  · have h1 : (0 : Int) ≤ i ∧ (i : Int) < xs.length := ⟨by omega, by omega⟩
    simp [h1, h]
  · have h1 : ¬((0 : Int) ≤ i ∧ (i : Int) < xs.length) := by omega
    simp [h1, h]
theorem atI_int {α : Type} {xs : List α} {i : Int} (h0 : 0 ≤ i) : L2.atI xs i = xs[i.toNat]? := by
  have e : i = (i.toNat : Int) := by omega
  rw [e, atI_nat]
  rfl
theorem ev_box {p q r s t : Int} {ft : FT} {wf : Nat} {ns : List Int} {k : Int} (hp : Coef p) (hq : Coef q) (hr : Coef r) (hs : Coef s) (ht : Coef t) (k0 : 0 ≤ k) (k1 : k < 1000000) :
    ∃ v, evF wf ft (boxF p q r s t) [.imm (.list (ns.map .int)), .imm (.int k)] = .ok v [] ∧ Box 0 v := by
  obtain ⟨p0, p1⟩ := hp
  obtain ⟨q0, q1⟩ := hq
  obtain ⟨r0, r1⟩ := hr
  obtain ⟨s0, s1⟩ := hs
  obtain ⟨t0, t1⟩ := ht
  have o1 : okMul p k = true := okMul_of ⟨by omega, by omega⟩ ⟨by omega, by omega⟩
  have o2 : okMul t k = true := okMul_of ⟨by omega, by omega⟩ ⟨by omega, by omega⟩
  have o3 : ∀ x : Int, okMul (x % 2147483629) s = true := fun x => by
    have := Int.emod_nonneg x (show (2147483629 : Int) ≠ 0 by decide)
    have := Int.emod_lt_of_pos x (show (0 : Int) < 2147483629 by decide)
    exact okMul_of ⟨by omega, by omega⟩ ⟨by omega, by omega⟩
  have o4 : ∀ x : Int, okMul (x % 2147483629) r = true := fun x => by
    have := Int.emod_nonneg x (show (2147483629 : Int) ≠ 0 by decide)
    have := Int.emod_lt_of_pos x (show (0 : Int) < 2147483629 by decide)
    exact okMul_of ⟨by omega, by omega⟩ ⟨by omega, by omega⟩
  -- whatever the cell, the box is one
  have fin : ∀ cell : Int, ∃ a : Int, (L2.atI [(PyData.int 0), .int cell] (if (1000000000000000000 : Int) ≤ cell then 1 else 0)) = some (.int a) := fun cell => by
    by_cases h : (1000000000000000000 : Int) ≤ cell
    · exact ⟨cell, by simp [h, L2.atI, L2.ixN]⟩
    · exact ⟨0, by simp [h, L2.atI, L2.ixN]⟩
  have bb : ∀ cell a : Int, Box 0 (.ol [.imm (.int a), .imm (.int ((cell % 2147483629 * s + t * k) % 2147483629 + 1)), .imm (.int 0)]) := fun cell a => by
    have := Int.emod_nonneg (cell % 2147483629 * s + t * k) (show (2147483629 : Int) ≠ 0 by decide)
    have := Int.emod_lt_of_pos (cell % 2147483629 * s + t * k) (show (0 : Int) < 2147483629 by decide)
    exact ⟨_, _, _, rfl, by omega, by omega, by omega, by omega⟩
  by_cases h1 : k < ns.length
  · obtain ⟨i, hi⟩ : ∃ i, ns[k.toNat]? = some i := ⟨_, List.getElem?_eq_getElem (by omega)⟩
    obtain ⟨a, ha⟩ := fin (if i < 0 then -i else i)
    refine ⟨_, ?_, bb (if i < 0 then -i else i) a⟩
    simp [evF, boxF, evB, evS, evE, evEs, evDs, R.fin, outsOf, o1, o2, o3, o4, h1, atI_int k0, hi, ha]
  · by_cases h2 : 0 < ns.length
    · have m0 := Int.emod_nonneg k (show (ns.length : Int) ≠ 0 by omega)
      have m1 := Int.emod_lt_of_pos k (show (0 : Int) < ns.length by omega)
      obtain ⟨i, hi⟩ : ∃ i, ns[(k % ns.length).toNat]? = some i := ⟨_, List.getElem?_eq_getElem (by omega)⟩
      have o5 := o4 (if i < 0 then -i else i)
      obtain ⟨a, ha⟩ := fin (p * k + q + (if i < 0 then -i else i) % 2147483629 * r)
      refine ⟨_, ?_, bb (p * k + q + (if i < 0 then -i else i) % 2147483629 * r) a⟩
      have h2' : (0 : Int) < ns.length := by omega
      simp [evF, boxF, evB, evS, evE, evEs, evDs, R.fin, outsOf, o1, o2, o3, o4, o5, h1, h2, h2', atI_int m0, hi, ha]
    · obtain ⟨a, ha⟩ := fin (p * k + q)
      refine ⟨_, ?_, bb (p * k + q) a⟩
      have e : ns = [] := List.eq_nil_of_length_eq_zero (by omega)
      subst e
      have h3 : ¬k < 0 := by omega
      simp [h3, evF, boxF, evB, evS, evE, evEs, evDs, R.fin, outsOf, o1, o2, o3, o4, ha]
/-- what drawing promises -/
def TakeOk (ft : FT) (t : Nat) : Prop := ∀ (n : Nat) (v : OV) (m : Int), Box n v → n < 1000000000 → 0 < m → m < 1073741824 → ∃ r v', ft t [v, .imm (.int m)] = .ok (.imm (.int r)) [v'] ∧ 0 ≤ r ∧ r < m ∧ Box (n + 1) v'
theorem ev_pick {t : Nat} {ft : FT} {wf n : Nat} {v so : OV} {ds : List D} (T : TakeOk ft t) (hs : so.toD = .list ds ∨ so.toD = .tuple ds) (hv : Box n v) (hn : n < 1000000000) (h0 : ds ≠ []) (h1 : ds.length < 1073741824) :
    ∃ (i : Nat) (d : D) (v' : OV), evF wf ft (pickF t) [v, so] = .ok (.imm d) [v'] ∧ ds[i]? = some d ∧ Box (n + 1) v' := by
  have hl : 0 < ds.length := List.length_pos_iff.mpr h0
  obtain ⟨r, v', e, r0, r1, hb⟩ := T n v ds.length hv hn (by omega) (by omega)
  obtain ⟨d, hd⟩ : ∃ d, ds[r.toNat]? = some d := ⟨_, List.getElem?_eq_getElem (by omega)⟩
  refine ⟨r.toNat, d, v', ?_, hd, hb⟩
  rcases hs with hs | hs <;>
    simp [evF, pickF, evB, evS, evE, evA, evDs, R.fin, outsOf, E.arg, takeAll, reo, FR.back, putAll, hs, e, atI_int r0, hd]
end PX
end
section
set_option Elab.async false
set_option linter.all false
set_option maxRecDepth 100000
set_option maxHeartbeats 1000000
/-! PxC: plain data: None, whole numbers, rows of these. -/
namespace PX
open PV
open PySem
mutual
def pn : D → Bool
  | .none => true
  | .int _ => true
  | .tuple xs => pns xs
  | .list xs => pns xs
  | .bool _ => false
  | .str _ => false
  | .dict _ => false
def pns : List D → Bool
  | [] => true
  | x :: xs => pn x && pns xs
end
mutual
theorem pn_lay : ∀ d : D, pn d = true → d.canLay0 = true
  | .none, _ => by simp [PyData.canLay0]
  | .int _, _ => by simp [PyData.canLay0]
  | .tuple xs, h => by
    rw [pn] at h
    simpa [PyData.canLay0] using pns_lay xs h
  | .list xs, h => by
    rw [pn] at h
    simpa [PyData.canLay0] using pns_lay xs h
  | .bool _, h => by rw [pn] at h; cases h
  | .str _, h => by rw [pn] at h; cases h
  | .dict _, h => by rw [pn] at h; cases h
theorem pns_lay : ∀ ds : List D, pns ds = true → PyData.canLayAll0 ds = true
  | [], _ => by simp [PyData.canLayAll0]
  | d :: ds, h => by
    rw [pns, Bool.and_eq_true] at h
    simp [PyData.canLayAll0, pn_lay d h.1, pns_lay ds h.2]
end
mutual
theorem eqv_iff : ∀ a b : D, pn a = true → pn b = true → (PyData.eqv a b = true ↔ a = b)
  | .none, b, _, hb => by cases b <;> simp [PyData.eqv, pn] at *
  | .int i, b, _, hb => by cases b <;> simp [PyData.eqv, pn] at *
  | .tuple xs, b, ha, hb => by
    cases b with
    | tuple ys =>
      rw [pn] at ha hb
      rw [PyData.eqv, eqvAll_iff xs ys ha hb]
      simp
    | _ => simp [PyData.eqv, pn] at *
  | .list xs, b, ha, hb => by
    cases b with
    | list ys =>
      rw [pn] at ha hb
      rw [PyData.eqv, eqvAll_iff xs ys ha hb]
      simp
    | _ => simp [PyData.eqv, pn] at *
  | .bool _, _, h, _ => by rw [pn] at h; cases h
  | .str _, _, h, _ => by rw [pn] at h; cases h
  | .dict _, _, h, _ => by rw [pn] at h; cases h
theorem eqvAll_iff : ∀ xs ys : List D, pns xs = true → pns ys = true → (PyData.eqvAll xs ys = true ↔ xs = ys)
  | [], [], _, _ => by simp [PyData.eqvAll]
  | [], _ :: _, _, _ => by simp [PyData.eqvAll]
  | _ :: _, [], _, _ => by simp [PyData.eqvAll]
  | x :: xs, y :: ys, ha, hb => by
    rw [pns, Bool.and_eq_true] at ha hb
    rw [PyData.eqvAll, Bool.and_eq_true, eqv_iff x y ha.1 hb.1, eqvAll_iff xs ys ha.2 hb.2]
    simp
end
theorem shaped_of {d : D} (h : pn d = true) (k : d.depth ≤ 64) : SeqAt.shaped d = true := by
  unfold SeqAt.shaped
  rw [pn_lay d h, decide_eq_true k]
  rfl
theorem depthAll_le {ds : List D} {n : Nat} (h : ∀ d ∈ ds, d.depth ≤ n) : PyData.depthAll ds ≤ n := by
  induction ds with
  | nil => simp [PyData.depthAll]
  | cons d ds ih =>
    rw [PyData.depthAll]
    exact Nat.max_le.mpr ⟨h d (by simp), ih fun x hx => h x (by simp [hx])⟩
theorem pns_of {ds : List D} (h : ∀ d ∈ ds, pn d = true) : pns ds = true := by
  induction ds with
  | nil => rw [pns]
  | cons d ds ih => rw [pns, h d (by simp), ih fun x hx => h x (by simp [hx])]; rfl
/-- plain, no deeper than n -/
def Pd (n : Nat) (d : D) : Prop := pn d = true ∧ d.depth ≤ n
theorem Pd.mono {n m : Nat} {d : D} (h : Pd n d) (k : n ≤ m) : Pd m d := ⟨h.1, Nat.le_trans h.2 k⟩
theorem pd_int {n : Nat} (i : Int) : Pd n (.int i) := ⟨by rw [pn], by rw [PyData.depth]; omega⟩
theorem pd_none {n : Nat} : Pd n .none := ⟨by rw [pn], by rw [PyData.depth]; omega⟩
theorem pd_tup {n : Nat} {ds : List D} (h : ∀ d ∈ ds, Pd n d) : Pd (n + 1) (.tuple ds) := ⟨by rw [pn]; exact pns_of fun d hd => (h d hd).1, by
  rw [PyData.depth]
  have := depthAll_le fun d hd => (h d hd).2
  omega⟩
theorem pd_lst {n : Nat} {ds : List D} (h : ∀ d ∈ ds, Pd n d) : Pd (n + 1) (.list ds) := ⟨by rw [pn]; exact pns_of fun d hd => (h d hd).1, by
  rw [PyData.depth]
  have := depthAll_le fun d hd => (h d hd).2
  omega⟩
theorem Pd.shaped {n : Nat} {d : D} (h : Pd n d) (k : n ≤ 64) : SeqAt.shaped d = true := shaped_of h.1 (Nat.le_trans h.2 k)
theorem eqOk_of {n m : Nat} {a b : D} (ha : Pd n a) (hb : Pd m b) (hn : n ≤ 64) (hm : m ≤ 64) : eqOk a b = true := by
  unfold eqOk
  rw [ha.shaped hn, hb.shaped hm]
  rfl
theorem eqv_pd {n m : Nat} {a b : D} (ha : Pd n a) (hb : Pd m b) : PyData.eqv a b = true ↔ a = b := eqv_iff a b ha.1 hb.1
theorem memD_iff {n m : Nat} {a : D} {xs : List D} (ha : Pd n a) (hx : ∀ x ∈ xs, Pd m x) : memD a xs = true ↔ a ∈ xs := by
  unfold memD
  rw [List.any_eq_true]
  constructor
  · rintro ⟨x, hx1, h⟩
    rw [(eqv_pd (hx x hx1) ha).mp h] at hx1
    exact hx1
  · exact fun h => ⟨a, h, (eqv_pd ha ha).mpr rfl⟩
theorem inOk_of {n m : Nat} {a : D} {xs : List D} (ha : Pd n a) (hx : ∀ x ∈ xs, Pd m x) (hn : n ≤ 64) (hm : m < 64) : inOk xs a = true := by
  unfold inOk
  rw [ha.shaped hn, (pd_lst hx).shaped (by omega)]
  rfl
end PX
end
section
set_option Elab.async false
set_option linter.all false
set_option maxRecDepth 100000
set_option maxHeartbeats 1000000
/-! PxD: shared functions of the program: numbers, sequences, touches. -/
namespace PX
open PV
open PySem
def isIntF : Fn := ⟨1, 1, [], [(.ret (.and_ (.isi (.pk 0) [.int]) (.not_ (.isi (.pk 0) [.bool]))))]⟩
def isNumF (i : Nat) : Fn := ⟨1, 1, [], [(.ret (.and_ (.call i [(.var 0)] [0]) (.cmp .ge (.pk 0) (.lit (.int 0)))))]⟩
def isBelF (i : Nat) : Fn := ⟨2, 2, [], [(.ret (.and_ (.call i [(.var 0)] [0]) (.cmp .lt (.pk 0) (.pk 1))))]⟩
def isSeqF : Fn := ⟨1, 1, [], [(.ret (.isi (.pk 0) [.list, .tuple]))]⟩
def isIntD : D → Bool
  | .int _ => true
  | _ => false
def isNumD : D → Bool
  | .int i => decide (0 ≤ i)
  | _ => false
def isBelD (m : Int) : D → Bool
  | .int i => decide (0 ≤ i) && decide (i < m)
  | _ => false
def isSeqD : D → Bool
  | .list _ => true
  | .tuple _ => true
  | _ => false
/-- a def that answers a question about one thing -/
def AskOk (ft : FT) (i : Nat) (p : D → Bool) : Prop := ∀ d : D, noDictB d = true → ft i [.imm d] = .ok (.imm (.bool (p d))) []
theorem ev_isInt {ft : FT} {wf : Nat} {d : D} (h : noDictB d = true) : evF wf ft isIntF [.imm d] = .ok (.imm (.bool (isIntD d))) [] := by
  cases d <;> simp [evF, isIntF, evB, evS, evE, noDictB, Ty.has, isIntD, R.fin, outsOf] at h ⊢
theorem ev_isNum {ft : FT} {wf i : Nat} {d : D} (A : AskOk ft i isIntD) (h : noDictB d = true) : evF wf ft (isNumF i) [.imm d] = .ok (.imm (.bool (isNumD d))) [] := by
  have e := A d h
  cases d <;> simp [isIntD] at e <;> simp [evF, isNumF, evB, evS, evE, evA, isNumD, R.fin, outsOf, E.arg, takeAll, reo, FR.back, putAll, e]
theorem ev_isBel {ft : FT} {wf i : Nat} {d : D} {m : Int} (A : AskOk ft i isNumD) (h : noDictB d = true) : evF wf ft (isBelF i) [.imm d, .imm (.int m)] = .ok (.imm (.bool (isBelD m d))) [] := by
  have e := A d h
  cases d with
  | int k =>
    by_cases hk : 0 ≤ k <;> simp [isNumD, hk] at e <;> simp [evF, isBelF, evB, evS, evE, evA, isBelD, R.fin, outsOf, E.arg, takeAll, reo, FR.back, putAll, e, hk]
  | _ => simp [isNumD] at e <;> simp [evF, isBelF, evB, evS, evE, evA, isBelD, R.fin, outsOf, E.arg, takeAll, reo, FR.back, putAll, e]
theorem ev_isSeq {ft : FT} {wf : Nat} {d : D} (h : noDictB d = true) : evF wf ft isSeqF [.imm d] = .ok (.imm (.bool (isSeqD d))) [] := by
  cases d <;> simp [evF, isSeqF, evB, evS, evE, noDictB, Ty.has, isSeqD, R.fin, outsOf] at h ⊢
/-! ### the touches of a walk -/
def needTouB (bel g40 x : Nat) : List St := [(.ifs (.or_ (.not_ (.call bel [(.var 2), (.glb g40 (.int 40))] [0, 1])) (.and_ (.cmp .gt (.pk 1) (.lit (.int 0))) (.cmp .eq (.pk 2) (.ix (.pk 0) (.op2 .sub (.pk 1) (.lit (.int 1))))))) [(.raise x (.var 1))] [])]
def needTouF (seq bel g40 g400 x : Nat) : Fn := ⟨1, 3, [], [
  (.ifs (.or_ (.not_ (.call seq [(.var 0)] [0])) (.not_ (.chn .le .le (.lit (.int 1)) (.blt .len [(.pk 0)]) (.glb g400 (.int 400))))) [(.raise x (.neg (.lit (.int 1))))] []),
  (.for_ (.tp [(.nm 1), (.nm 2)]) .enum [(.var 0)] (needTouB bel g40 x) [1, 2]),
  (.ret (.blt .tuple [(.pk 0)]))]⟩
/-- the first place that is wrong: no number below 40, or the touch ahead again -/
def badAt : Option Int → Nat → List D → Option Nat
  | _, _, [] => none
  | p, k, .int i :: xs => if 0 ≤ i ∧ i < 40 ∧ p ≠ some i then badAt (some i) (k + 1) xs else some k
  | _, k, _ :: _ => some k
theorem badAt_not {p : Option Int} {k : Nat} {x : D} {xs : List D} (h : isBelD 40 x = false) : badAt p k (x :: xs) = some k := by
  cases x with
  | int i =>
    rw [badAt]
    simp [isBelD] at h
    rw [if_neg]
    intro ⟨a, b, _⟩
    have := h a
    omega
  | _ => rw [badAt]; intro i; nofun
def BelOk (ft : FT) (i : Nat) : Prop := ∀ (d : D) (m : Int), noDictB d = true → ft i [.imm d, .imm (.int m)] = .ok (.imm (.bool (isBelD m d))) []
theorem bel_int {m : Int} {d : D} (h : isBelD m d = true) : ∃ i, d = .int i ∧ 0 ≤ i ∧ i < m := by
  cases d <;> simp [isBelD] at h
  exact ⟨_, rfl, h.1, h.2⟩
theorem tou_go {ft : FT} {wf bel g40 x : Nat} {v : D} {k : Int} {i j : Int} (eB : ft bel [.imm (.int i), .imm (.int 40)] = .ok (.imm (.bool true)) []) (hk : 0 < k) (hix : ixD v (.int (k - 1)) = some (.int j)) (ok1 : eqOk (.int i) (.int j) = true) (hne : PyData.eqv (.int i) (.int j) = false) :
    evB wf ft (needTouB bel g40 x) [some (.imm v), some (.imm (.int k)), some (.imm (.int i))] = .ok .nx [some (.imm v), some (.imm (.int k)), some (.imm (.int i))] := by
  simp [needTouB, evB, evS, evE, evA, E.arg, takeAll, reo, FR.back, putAll, eB, hk, hix, ok1, hne]
theorem tou_eq {ft : FT} {wf bel g40 x : Nat} {v : D} {k : Int} {i j : Int} (eB : ft bel [.imm (.int i), .imm (.int 40)] = .ok (.imm (.bool true)) []) (hk : 0 < k) (hix : ixD v (.int (k - 1)) = some (.int j)) (ok1 : eqOk (.int i) (.int j) = true) (hne : PyData.eqv (.int i) (.int j) = true) :
    evB wf ft (needTouB bel g40 x) [some (.imm v), some (.imm (.int k)), some (.imm (.int i))] = .exc x (.int k) [some (.imm v), some (.imm (.int k)), some (.imm (.int i))] := by
  simp [needTouB, evB, evS, evE, evA, E.arg, takeAll, reo, FR.back, putAll, eB, hk, hix, ok1, hne]
theorem tou_first {ft : FT} {wf bel g40 x : Nat} {v : D} {i : Int} (eB : ft bel [.imm (.int i), .imm (.int 40)] = .ok (.imm (.bool true)) []) :
    evB wf ft (needTouB bel g40 x) [some (.imm v), some (.imm (.int 0)), some (.imm (.int i))] = .ok .nx [some (.imm v), some (.imm (.int 0)), some (.imm (.int i))] := by
  simp [needTouB, evB, evS, evE, evA, E.arg, takeAll, reo, FR.back, putAll, eB]
theorem tou_bad {ft : FT} {wf bel g40 x : Nat} {v d : D} {k : Int} (eB : ft bel [.imm d, .imm (.int 40)] = .ok (.imm (.bool false)) []) :
    evB wf ft (needTouB bel g40 x) [some (.imm v), some (.imm (.int k)), some (.imm d)] = .exc x (.int k) [some (.imm v), some (.imm (.int k)), some (.imm d)] := by
  simp [needTouB, evB, evS, evE, evA, E.arg, takeAll, reo, FR.back, putAll, eB]
theorem loop_tou {ft : FT} {wf bel g40 x : Nat} (B : BelOk ft bel) {v : D} {all : List D} (hv : v = .list all ∨ v = .tuple all) (xs : List D) : ∀ (pre : List Int), all = pre.map .int ++ xs → (∀ d ∈ xs, noDictB d = true) →
    match badAt pre.getLast? pre.length xs with
    | none => loopF [1, 2] (Tgt.bind (.tp [(.nm 1), (.nm 2)])) (fun s => evB wf ft (needTouB bel g40 x) s) (enumD pre.length xs) [some (.imm v), none, none] = .ok .nx [some (.imm v), none, none]
    | some k => ∃ s, loopF [1, 2] (Tgt.bind (.tp [(.nm 1), (.nm 2)])) (fun s => evB wf ft (needTouB bel g40 x) s) (enumD pre.length xs) [some (.imm v), none, none] = .exc x (.int k) s := by
  induction xs with
  | nil => exact fun pre _ _ => rfl
  | cons d xs ih0 =>
    intro pre ha hn
    have hd := hn d (by simp)
    have eB := B d 40 hd
    by_cases hb : isBelD 40 d = true
    · obtain ⟨i, rfl, i0, i1⟩ := bel_int hb
      rw [hb] at eB
      have ih := ih0 (pre ++ [i]) (by simp [ha]) (fun d hd => hn d (by simp [hd]))
      simp only [List.length_append, List.length_cons, List.length_nil, List.getLast?_append, List.getLast?_singleton, Option.some_or, Nat.zero_add] at ih
      by_cases h0 : pre = []
      · subst h0
        have st : evB wf ft (needTouB bel g40 x) [some (.imm v), some (.imm (.int (0 : Nat))), some (.imm (.int i))] = .ok .nx [some (.imm v), some (.imm (.int (0 : Nat))), some (.imm (.int i))] := by
          exact tou_first eB
        have hbad : badAt (List.getLast? ([] : List Int)) (List.length ([] : List Int)) (.int i :: xs) = badAt (some i) 1 xs := by
          rw [badAt, if_pos ⟨i0, i1, by simp⟩]
          rfl
        rw [hbad]
        show match badAt (some i) 1 xs with
          | none => loopF [1, 2] (Tgt.bind (.tp [(.nm 1), (.nm 2)])) (fun s => evB wf ft (needTouB bel g40 x) s) (.tuple [.int (0 : Nat), .int i] :: enumD 1 xs) [some (.imm v), none, none] = .ok .nx [some (.imm v), none, none]
          | some k => ∃ s, loopF [1, 2] (Tgt.bind (.tp [(.nm 1), (.nm 2)])) (fun s => evB wf ft (needTouB bel g40 x) s) (.tuple [.int (0 : Nat), .int i] :: enumD 1 xs) [some (.imm v), none, none] = .exc x (.int k) s
        rw [loopF_step (s1 := [some (.imm v), some (.imm (.int (0 : Nat))), some (.imm (.int i))]) rfl st]
        exact ih
      · obtain ⟨j, hj⟩ : ∃ j, pre.getLast? = some j := Option.isSome_iff_exists.mp (List.getLast?_isSome.mpr h0)
        have hl : 0 < pre.length := List.length_pos_iff.mpr h0
        have hat : all[pre.length - 1]? = some (.int j) := by
          rw [ha, List.getElem?_append_left (by rw [List.length_map]; omega), List.getElem?_map, ← List.getLast?_eq_getElem?, hj]
          rfl
        have hix : ixD v (.int ((pre.length : Int) - 1)) = some (.int j) := by
          have e : ((pre.length : Int) - 1) = ((pre.length - 1 : Nat) : Int) := by omega
          rcases hv with rfl | rfl <;> simp [ixD, e, atI_nat, hat]
        have ok1 : eqOk (.int i) (.int j) = true := eqOk_of (n := 0) (m := 0) (pd_int i) (pd_int j) (by decide) (by decide)
        have hl' : (0 : Int) < pre.length := by omega
        by_cases he : i = j
        · subst he
          have hbad : badAt pre.getLast? pre.length (.int i :: xs) = some pre.length := by
            rw [badAt, if_neg (by simp [hj])]
          rw [hbad]
          refine ⟨[some (.imm v), some (.imm (.int pre.length)), some (.imm (.int i))], loopF_exc (s1 := [some (.imm v), some (.imm (.int pre.length)), some (.imm (.int i))]) rfl ?_⟩
          exact tou_eq eB hl' hix ok1 (by simp [PyData.eqv])
        · have hbeq : (i == j) = false := by simpa using he
          have st : evB wf ft (needTouB bel g40 x) [some (.imm v), some (.imm (.int pre.length)), some (.imm (.int i))] = .ok .nx [some (.imm v), some (.imm (.int pre.length)), some (.imm (.int i))] := by
            exact tou_go eB hl' hix ok1 (by simpa [PyData.eqv] using hbeq)
          have hbad : badAt pre.getLast? pre.length (.int i :: xs) = badAt (some i) (pre.length + 1) xs := by
            rw [badAt, if_pos ⟨i0, i1, by rw [hj]; intro z; exact he (Option.some.inj z).symm⟩]
          rw [hbad]
          have e := loopF_step (ks := [1, 2]) (bd := Tgt.bind (.tp [(.nm 1), (.nm 2)])) (body := fun s => evB wf ft (needTouB bel g40 x) s) (d := .tuple [.int pre.length, .int i]) (ds := enumD (pre.length + 1) xs) (s := [some (.imm v), none, none]) (s1 := [some (.imm v), some (.imm (.int pre.length)), some (.imm (.int i))]) rfl st
          rw [enumD, e]
          exact ih
    · have hb' : isBelD 40 d = false := by simpa using hb
      rw [hb'] at eB
      rw [badAt_not hb']
      refine ⟨[some (.imm v), some (.imm (.int pre.length)), some (.imm d)], loopF_exc (s1 := [some (.imm v), some (.imm (.int pre.length)), some (.imm d)]) rfl ?_⟩
      exact tou_bad eB
/-- where a walk is wrong: -1 for no walk at all -/
def touErr (d : D) : Option Int := match seqOf d with
  | none => some (-1)
  | some xs => if 1 ≤ xs.length ∧ xs.length ≤ 400 then (badAt none 0 xs).map fun k => (k : Int) else some (-1)
def noDictAll (d : D) : Prop := noDictB d = true ∧ ∀ xs, seqOf d = some xs → ∀ x ∈ xs, noDictB x = true
theorem ev_needTou {ft : FT} {wf seq bel g40 g400 x : Nat} (S : AskOk ft seq isSeqD) (B : BelOk ft bel) {ov : OV} {d : D} (ho : ov.toD = d) (hd : noDictAll d) :
    match touErr d with
    | some e => evF wf ft (needTouF seq bel g40 g400 x) [ov] = .exc x (.int e) []
    | none => ∃ xs, seqOf d = some xs ∧ evF wf ft (needTouF seq bel g40 g400 x) [ov] = .ok (.imm (.tuple xs)) [] := by
  have eS := S d hd.1
  -- the walk behind the first test
  have main : ∀ xs : List D, (d = .list xs ∨ d = .tuple xs) → match touErr d with
      | some e => evF wf ft (needTouF seq bel g40 g400 x) [ov] = .exc x (.int e) []
      | none => ∃ xs, seqOf d = some xs ∧ evF wf ft (needTouF seq bel g40 g400 x) [ov] = .ok (.imm (.tuple xs)) [] := fun xs hx => by
    have hq : seqOf d = some xs := by rcases hx with rfl | rfl <;> rfl
    have hsd : isSeqD d = true := by rcases hx with rfl | rfl <;> rfl
    have hlen : BI.sem .len [d] = some (.imm (.int xs.length)) := by rcases hx with rfl | rfl <;> rfl
    have htup : BI.sem .tuple [d] = some (.imm (.tuple xs)) := by rcases hx with rfl | rfl <;> rfl
    have hsrc : srcOf .enum [d] = some (enumD 0 xs) := by rcases hx with rfl | rfl <;> rfl
    rw [hsd] at eS
    have hloop := loop_tou (x := x) (wf := wf) (g40 := g40) B hx xs [] rfl (hd.2 xs hq)
    simp only [List.getLast?_nil, List.length_nil] at hloop
    unfold touErr
    rw [hq]
    by_cases hl : 1 ≤ xs.length ∧ xs.length ≤ 400
    · simp only [hl, and_self, if_true]
      have h1 : (1 : Int) ≤ xs.length := by omega
      have h2 : (xs.length : Int) ≤ 400 := by omega
      cases hb : badAt none 0 xs with
      | none =>
        rw [hb] at hloop
        refine ⟨xs, rfl, ?_⟩
        simp [evF, needTouF, evB, evS, evE, evA, evDs, E.arg, takeAll, reo, FR.back, putAll, ho, eS, hlen, h1, h2, hsrc, htup, R.fin, outsOf, hloop]
      | some k =>
        rw [hb] at hloop
        obtain ⟨s, hloop⟩ := hloop
        simp [evF, needTouF, evB, evS, evE, evA, evDs, E.arg, takeAll, reo, FR.back, putAll, ho, eS, hlen, h1, h2, hsrc, htup, R.fin, outsOf, hloop]
    · simp only [hl, if_false]
      by_cases h1 : (1 : Int) ≤ xs.length
      · have h2 : ¬(xs.length : Int) ≤ 400 := by omega
        simp [evF, needTouF, evB, evS, evE, evA, evDs, E.arg, takeAll, reo, FR.back, putAll, ho, eS, hlen, h1, h2, R.fin, outsOf]
      · simp [evF, needTouF, evB, evS, evE, evA, evDs, E.arg, takeAll, reo, FR.back, putAll, ho, eS, hlen, h1, R.fin, outsOf]
  cases d with
  | list xs => exact main xs (.inl rfl)
  | tuple xs => exact main xs (.inr rfl)
  | _ => 
    simp only [touErr, seqOf]
    simp [isSeqD] at eS
    simp [evF, needTouF, evB, evS, evE, evA, evDs, E.arg, takeAll, reo, FR.back, putAll, ho, eS, R.fin, outsOf]
end PX
end
section
set_option Elab.async false
set_option linter.all false
set_option maxRecDepth 100000
set_option maxHeartbeats 1000000
/-! PxE: rows in order. -/
namespace PX
open PV
open PySem
theorem sort_perm {ds : List D} : (sortD ds).Perm ds := List.mergeSort_perm ds _
theorem sort_pw {ds : List D} : (sortD ds).Pairwise fun a b => PySem.W.dataLe false (fun d => d) a b = true :=
  List.pairwise_mergeSort (fun a b c => (PySem.W.sortLe_total _ false _).trans a b c) (fun a b => by
    have := (PySem.W.sortLe_total (PyProof.Rows.listOrd PyProof.Rows.itemOrd) false (fun d : D => PySem.W.keyToks d)).total a b
    simpa [PySem.W.dataLe, Bool.or_eq_true] using this) ds
theorem lt_int {a b : Int} {r s : List (Int ⊕ List Nat)} : PyProof.Rows.lexLt PyProof.Rows.itemOrd (.inl a :: r) (.inl b :: s) = (decide (a < b) || (!decide (b < a) && PyProof.Rows.lexLt PyProof.Rows.itemOrd r s)) := PyProof.Rows.lex_cons _ _ _ _
theorem le_int {i j : Int} : PySem.W.dataLe false (fun d : D => d) (.int i) (.int j) = decide (i ≤ j) := by
  show (!PyProof.Rows.lexLt PyProof.Rows.itemOrd (PySem.W.keyToks (.int j)) (PySem.W.keyToks (.int i))) = _
  rw [PySem.W.keyToks, PySem.W.keyToks, lt_int]
  have e : PyProof.Rows.lexLt PyProof.Rows.itemOrd [] [] = false := rfl
  rw [e]
  by_cases h : i ≤ j
  · have h2 : ¬j < i := by omega
    simp [h, h2]
  · have h2 : j < i := by omega
    simp [h, h2]
theorem le_fst {i j : Int} {r s : List D} (h : PySem.W.dataLe false (fun d : D => d) (.tuple (.int i :: r)) (.tuple (.int j :: s)) = true) : i ≤ j := by
  have h : (!PyProof.Rows.lexLt PyProof.Rows.itemOrd (PySem.W.keyToks (.tuple (.int j :: s))) (PySem.W.keyToks (.tuple (.int i :: r)))) = true := h
  rw [PySem.W.keyToks, PySem.W.keyToks, PySem.W.keyToksAll, PySem.W.keyToksAll, PySem.W.keyToks, PySem.W.keyToks, lt_int, List.singleton_append, List.singleton_append, lt_int] at h
  by_cases q : j < i
  · simp [q] at h
  · omega
end PX
end
section
set_option Elab.async false
set_option linter.all false
set_option maxRecDepth 100000
set_option maxHeartbeats 1000000
/-! PxF: ranges, cuts, places. -/
namespace PX
open PV
open PySem
theorem cut_nat {α : Type} {xs : List α} {b m : Nat} : cut xs (some (b : Int)) (some (m : Int)) = (xs.take m).drop b := by
  unfold cut
  rw [HT.sIx_nat, HT.sIx_nat, List.drop_take]
  by_cases hb : b ≤ xs.length
  · rw [Nat.min_eq_left hb]
    by_cases hm : m ≤ xs.length
    · rw [Nat.min_eq_left hm]
    · rw [Nat.min_eq_right (by omega), List.take_of_length_le (by rw [List.length_drop]; omega), List.take_of_length_le (by rw [List.length_drop]; omega)]
  · have e : min b xs.length = xs.length := by omega
    rw [e, List.drop_eq_nil_of_le (Nat.le_refl _), List.drop_eq_nil_of_le (by omega)]
    simp
theorem intsD_eq {lo : Int} {n : Nat} : intsD lo n = (List.range n).map fun k => .int (lo + (k : Int)) := by
  induction n generalizing lo with
  | zero => rfl
  | succ n ih =>
    rw [intsD, ih, List.range_succ_eq_map]
    simp
    intro a _
    omega
theorem idx_none {n m : Nat} {d : D} {xs : List D} (hd : Pd n d) (hx : ∀ x ∈ xs, Pd m x) {k : Nat} (h : d ∉ xs) : idxD d xs k = none := by
  induction xs generalizing k with
  | nil => rfl
  | cons x xs ih =>
    have e : PyData.eqv x d = false := by
      cases q : PyData.eqv x d with
      | false => rfl
      | true =>
        have := (eqv_pd (hx x (by simp)) hd).mp q
        exact absurd (by rw [this]; simp) h
    rw [idxD, if_neg (by rw [e]; simp)]
    exact ih (fun y hy => hx y (by simp [hy])) (fun z => h (by simp [z]))
theorem idx_some {n m : Nat} {d : D} {xs : List D} (hd : Pd n d) (hx : ∀ x ∈ xs, Pd m x) {k : Nat} (h : d ∈ xs) : ∃ j, idxD d xs k = some (k + j) ∧ xs[j]? = some d ∧ ∀ i < j, xs[i]? ≠ some d := by
  induction xs generalizing k with
  | nil => cases h
  | cons x xs ih =>
    rw [idxD]
    by_cases q : PyData.eqv x d = true
    · have e := (eqv_pd (hx x (by simp)) hd).mp q
      exact ⟨0, by rw [if_pos q]; rfl, by rw [e]; rfl, fun i hi => by omega⟩
    · have hne : x ≠ d := fun e => q ((eqv_pd (hx x (by simp)) hd).mpr e)
      obtain ⟨j, h1, h2, h3⟩ := ih (k := k + 1) (fun y hy => hx y (by simp [hy])) ((List.mem_cons.mp h).resolve_left fun e => hne e.symm)
      refine ⟨j + 1, by rw [if_neg q, h1]; congr 1; omega, by simpa using h2, fun i hi => ?_⟩
      cases i with
      | zero => simpa using hne
      | succ i => simpa using h3 i (by omega)
end PX
end
section
set_option Elab.async false
set_option linter.all false
set_option maxRecDepth 100000
set_option maxHeartbeats 1000000
/-! PxG: typed data for the evaluator; loops as folds. No program in sight. -/
namespace PX
open PV PySem PySem.W
class Lay (α : Type) [DecidableEq α] [Datum α] : Prop where
  lay : ∀ a : α, (Datum.toD a).canLay0 = true
instance : Lay Int := ⟨fun a => by show PyData.canLay0 (.int a) = true; simp [PyData.canLay0]⟩
instance : Lay Bool := ⟨fun a => by show PyData.canLay0 (.bool a) = true; simp [PyData.canLay0]⟩
instance : Lay Unit := ⟨fun a => by show PyData.canLay0 .none = true; simp [PyData.canLay0]⟩
section
variable {α β : Type} [DecidableEq α] [Datum α] [Lay α] [DecidableEq β] [Datum β] [Lay β]
theorem layAll_map : ∀ xs : List α, PyData.canLayAll0 (xs.map Datum.toD) = true
  | [] => by simp [PyData.canLayAll0]
  | x :: xs => by simp only [List.map_cons, PyData.canLayAll0, Lay.lay x, layAll_map xs, Bool.and_self]
instance : Lay (List α) := ⟨fun xs => by show PyData.canLay0 (.list _) = true; rw [PyData.canLay0]; exact layAll_map xs⟩
instance : Lay (Tup α) := ⟨fun t => by show PyData.canLay0 (.tuple _) = true; rw [PyData.canLay0]; exact layAll_map t.items⟩
instance : Lay (α × β) := ⟨fun p => by
  show PyData.canLay0 (.tuple [Datum.toD p.1, Datum.toD p.2]) = true
  simp only [PyData.canLay0, PyData.canLayAll0, Lay.lay, Bool.and_self]⟩
theorem shaped_dt (a : α) (h : Datum.depth α ≤ 64) : SeqAt.shaped (Datum.toD a) = true := by
  unfold SeqAt.shaped
  rw [Lay.lay a, decide_eq_true (Nat.le_trans (Datum.depth_le a) h)]
  rfl
theorem eqOk_dt (a : α) (b : β) (h : Datum.depth α ≤ 64) (k : Datum.depth β ≤ 64) : eqOk (Datum.toD a) (Datum.toD b) = true := by
  unfold eqOk
  rw [shaped_dt a h, shaped_dt b k]
  rfl
theorem inOk_dt (xs : List α) (a : β) (h : Datum.depth α < 64) (k : Datum.depth β ≤ 64) : inOk (xs.map Datum.toD) (Datum.toD a) = true := by
  unfold inOk
  have := shaped_dt (α := List α) xs (show Datum.depth α + 1 ≤ 64 by omega)
  rw [show PyData.list (xs.map Datum.toD) = Datum.toD xs from rfl, this, shaped_dt a k]
  rfl
omit [Lay α] in
theorem memD_dt (a : α) : ∀ xs : List α, memD (Datum.toD a) (xs.map Datum.toD) = decide (a ∈ xs)
  | [] => rfl
  | x :: xs => by
    have ih := memD_dt a xs
    unfold memD at ih ⊢
    rw [List.map_cons, List.any_cons, ih, Datum.eqv x a, ← Bool.decide_or]
    exact decide_eq_decide.mpr (by rw [List.mem_cons, eq_comm])
omit [Lay α] in
theorem idxD_dt (a : α) : ∀ (xs : List α) (k : Nat), idxD (Datum.toD a) (xs.map Datum.toD) k = (xs.findIdx? fun x => decide (x = a)).map (· + k)
  | [], _ => rfl
  | x :: xs, k => by
    rw [List.map_cons, idxD, idxD_dt a xs (k + 1), Datum.eqv x a, List.findIdx?_cons]
    by_cases h : x = a
    · simp [h]
    · simp only [h, decide_false, Bool.false_eq_true, if_false, Option.map_map]
      congr 1
      funext y
      show y + (k + 1) = y + 1 + k
      omega
end
section
variable {α β : Type} [DecidableEq α] [DatumOrd α] [DecidableEq β] [DatumOrd β]
def leT (a b : α) : Bool := !DatumOrd.lt b a
def sortT (xs : List α) : List α := xs.mergeSort leT
theorem sortD_dt (xs : List α) : sortD (xs.map Datum.toD) = (sortT xs).map Datum.toD := by
  unfold sortD sortT
  symm
  refine List.map_mergeSort fun a _ b _ => ?_
  show (!DatumOrd.lt b a) = !dataLt (Datum.toD b) (Datum.toD a)
  rw [DatumOrd.lt_eq]
theorem alikes (xs : List α) : ((xs.map Datum.toD).all fun d => (xs.map Datum.toD).all fun e => PySem.W.alike d e) = true := by
  rw [List.all_eq_true]
  intro d hd
  rw [List.all_eq_true]
  intro e he
  obtain ⟨a, _, rfl⟩ := List.mem_map.mp hd
  obtain ⟨b, _, rfl⟩ := List.mem_map.mp he
  exact DatumOrd.alike a b
theorem depths (xs : List α) (h : Datum.depth α ≤ 64) : decide (PyData.depthAll (xs.map Datum.toD) ≤ 64) = true := decide_eq_true (Nat.le_trans (depthAll_map xs) h)
theorem sortOk_int (xs : List Int) : sortOk (xs.map Datum.toD) = true := by
  unfold sortOk
  rw [alikes xs, depths xs (by decide)]
  refine Bool.and_eq_true_iff.mpr ⟨Bool.and_eq_true_iff.mpr ⟨rfl, Bool.or_eq_true_iff.mpr (.inr ?_)⟩, rfl⟩
  rw [List.all_eq_true]
  intro d hd
  obtain ⟨a, _, rfl⟩ := List.mem_map.mp hd
  rfl
theorem sortOk_pair (xs : List (α × β)) (h : Datum.depth (α × β) ≤ 64) : sortOk (xs.map Datum.toD) = true := by
  unfold sortOk
  rw [alikes xs, depths xs h]
  refine Bool.and_eq_true_iff.mpr ⟨Bool.and_eq_true_iff.mpr ⟨rfl, Bool.or_eq_true_iff.mpr (.inl ?_)⟩, rfl⟩
  rw [List.all_eq_true]
  intro d hd
  obtain ⟨a, _, rfl⟩ := List.mem_map.mp hd
  rfl
theorem sortT_perm (xs : List α) : (sortT xs).Perm xs := List.mergeSort_perm xs _
theorem sortT_pw (xs : List α) : ((sortT xs).map Datum.toD).Pairwise fun a b => PySem.W.dataLe false (fun d => d) a b = true := by
  rw [← sortD_dt]
  exact sort_pw
theorem sortT_fst (xs : List (Int × β)) : (sortT xs).Pairwise fun a b => a.1 ≤ b.1 := by
  have h := sortT_pw xs
  rw [List.pairwise_map] at h
  exact h.imp fun {a b} q => le_fst (r := [Datum.toD a.2]) (s := [Datum.toD b.2]) q
theorem sortT_int (xs : List Int) : (sortT xs).Pairwise fun a b => a ≤ b := by
  have h := sortT_pw xs
  rw [List.pairwise_map] at h
  refine h.imp fun {a b} q => ?_
  have q : PySem.W.dataLe false (fun d : D => d) (.int a) (.int b) = true := q
  rw [le_int] at q
  exact of_decide_eq_true q
end
theorem perm_sorted : ∀ {xs ys : List Int}, xs.Perm ys → (xs.Pairwise fun a b => a ≤ b) → (ys.Pairwise fun a b => a ≤ b) → xs = ys := by
  intro xs ys h hx hy
  exact h.eq_of_pairwise (fun a b _ _ h1 h2 => by omega) hx hy
theorem sortT_two (a b : Int) : sortT [a, b] = if a ≤ b then [a, b] else [b, a] := by
  refine perm_sorted ?_ (sortT_int _) ?_
  · refine (sortT_perm _).trans ?_
    by_cases h : a ≤ b
    · rw [if_pos h]
    · rw [if_neg h]; exact List.Perm.swap b a []
  · by_cases h : a ≤ b
    · rw [if_pos h]; simpa using h
    · rw [if_neg h]; simp; omega
theorem sortT_swap (a b : Int) : sortT [a, b] = sortT [b, a] := perm_sorted ((sortT_perm _).trans ((List.Perm.swap b a []).trans (sortT_perm _).symm)) (sortT_int _) (sortT_int _)
theorem sortT_one (a : Int) : sortT [a] = [a] := List.perm_singleton.mp (sortT_perm [a])
section
variable {α : Type} [DecidableEq α] [Datum α]
/-- a list of our own, of typed things -/
def oT (l : List α) : OV := .ol (l.map fun x => .imm (Datum.toD x))
theorem toDs_oT : ∀ l : List α, OV.toDs (l.map fun x => .imm (Datum.toD x)) = l.map Datum.toD
  | [] => by simp
  | x :: l => by simp [toDs_oT l]
theorem immAll_oT : ∀ l : List α, OV.immAll (l.map fun x => .imm (Datum.toD x)) = some (l.map Datum.toD)
  | [] => by simp
  | x :: l => by simp [immAll_oT l]
@[simp] theorem toD_oT {l : List α} : (oT l).toD = .list (l.map Datum.toD) := by unfold oT; rw [toD_ol, toDs_oT]
@[simp] theorem shal_oT {l : List α} : (oT l).shal = some (.list (l.map Datum.toD)) := by unfold oT; rw [shal_ol, immAll_oT]; rfl
theorem oT_snoc {l : List α} {x : α} : OV.ol (l.map (fun x => .imm (Datum.toD x)) ++ [.imm (Datum.toD x)]) = oT (l ++ [x]) := by unfold oT; rw [List.map_append]; rfl
theorem nl_oT {l : List α} : nl (l.map Datum.toD) = oT l := by unfold nl oT; rw [List.map_map]; rfl
end
/-! ### loops -/
theorem loopF_fold {α σ : Type} {ks : List Nat} {bd : D → Sl → Option Sl} {body : Sl → R Fl} (g : α → D) (st : σ → Sl) (f : σ → α → σ) (I : σ → List α → Prop)
    (step : ∀ x d ds, I x (d :: ds) → (∃ s1 s2, bd (g d) (st x) = some s1 ∧ body s1 = .ok .nx s2 ∧ clear ks s2 = st (f x d)) ∧ I (f x d) ds) :
    ∀ (ds : List α) (x : σ), I x ds → loopF ks bd body (ds.map g) (st x) = .ok .nx (st (ds.foldl f x)) ∧ I (ds.foldl f x) []
  | [], x, h => ⟨rfl, h⟩
  | d :: ds, x, h => by
    obtain ⟨⟨s1, s2, h1, h2, h3⟩, h4⟩ := step x d ds h
    rw [List.map_cons, loopF_step h1 h2, h3, List.foldl_cons]
    exact loopF_fold g st f I step ds _ h4
theorem loopC_map {α : Type} {ks : List Nat} {bd : D → Sl → Option Sl} {cond : Sl → R Bool} {elt : Sl → R OV} (g : α → D) (c : α → Bool) (e : α → OV) (s : Sl) :
    ∀ (xs : List α) (acc : List OV), (∀ x ∈ xs, ∃ s1, bd (g x) s = some s1 ∧ (c x = true → ∃ s2 s3, cond s1 = .ok true s2 ∧ elt s2 = .ok (e x) s3 ∧ clear ks s3 = s) ∧ (c x = false → ∃ s2, cond s1 = .ok false s2 ∧ clear ks s2 = s)) →
    acc.length + xs.length ≤ lim → loopC ks bd cond elt (xs.map g) s acc = .ok (acc ++ (xs.filter c).map e) s
  | [], acc, _, _ => by rw [List.map_nil, loopC]; simp
  | x :: xs, acc, h, hl => by
    obtain ⟨s1, h1, h2, h3⟩ := h x (by simp)
    rw [List.length_cons] at hl
    rw [List.map_cons, loopC, h1]
    show ((cond s1).noX.bind fun b s2 => if b then (elt s2).noX.bind fun v s3 => if acc.length < lim then loopC ks bd cond elt (xs.map g) (clear ks s3) (acc ++ [v]) else .bad else loopC ks bd cond elt (xs.map g) (clear ks s2) acc) = _
    cases hc : c x with
    | true =>
      obtain ⟨s2, s3, q1, q2, q3⟩ := h2 hc
      rw [q1]
      simp only [noX_ok, bind_ok, if_true, q2, q3]
      rw [if_pos (by omega), loopC_map g c e s xs (acc ++ [e x]) (fun y hy => h y (by simp [hy])) (by simp; omega), List.filter_cons_of_pos hc]
      simp
    | false =>
      obtain ⟨s2, q1, q3⟩ := h3 hc
      rw [q1]
      simp only [noX_ok, bind_ok, q3, Bool.false_eq_true, if_false]
      rw [loopC_map g c e s xs acc (fun y hy => h y (by simp [hy])) (by omega), List.filter_cons_of_neg (by simp [hc])]
/-! ### texts of plain data -/
mutual
theorem shown_ok : ∀ d : D, pn d = true → ∀ c ∈ d.shown.cps.toList, c < 128
  | .none, _ => by
    rw [PyData.shown_none]
    have e : (("None" : String) : Str).cps.toList = [78, 111, 110, 101] := by decide
    rw [e]
    intro c hc
    simp at hc
    omega
  | .int i, _ => by
    intro c hc
    by_cases h : c < 128
    · exact h
    · exact absurd hc (PyProof.Rows.shown_int_free' ⟨by omega, by omega⟩ i)
  | .tuple xs, h => by
    rw [pn] at h
    have ih := shownAll_ok xs h
    intro c hc
    rw [PyData.shown_tuple] at hc
    rw [PyProof.Rows.mem_cps_append, PyProof.Rows.mem_cps_append, PyProof.Rows.signs_lparen, PyProof.Rows.mem_join, PyProof.Rows.signs_tuple_end, PyProof.Rows.signs_sep] at hc
    rcases hc with (hc | (⟨t, ht, hc⟩ | ⟨_, hc⟩)) | hc
    · simp at hc; omega
    · exact ih t ht c hc
    · simp at hc; omega
    · split at hc <;> simp at hc <;> omega
  | .list xs, h => by
    rw [pn] at h
    have ih := shownAll_ok xs h
    intro c hc
    rw [PyData.shown_list] at hc
    rw [PyProof.Rows.mem_cps_append, PyProof.Rows.mem_cps_append, PyProof.Rows.signs_lbrack, PyProof.Rows.mem_join, PyProof.Rows.signs_rbrack, PyProof.Rows.signs_sep] at hc
    rcases hc with (hc | (⟨t, ht, hc⟩ | ⟨_, hc⟩)) | hc
    · simp at hc; omega
    · exact ih t ht c hc
    · simp at hc; omega
    · simp at hc; omega
  | .bool _, h => by rw [pn] at h; cases h
  | .str _, h => by rw [pn] at h; cases h
  | .dict _, h => by rw [pn] at h; cases h
theorem shownAll_ok : ∀ ds : List D, pns ds = true → ∀ t ∈ PyData.shownAll ds, ∀ c ∈ t.cps.toList, c < 128
  | [], _ => by rw [PyData.shownAll_nil]; simp
  | d :: ds, h => by
    rw [pns, Bool.and_eq_true] at h
    intro t ht
    rw [PyData.shownAll_cons, List.mem_cons] at ht
    rcases ht with rfl | ht
    · exact shown_ok d h.1
    · exact shownAll_ok ds h.2 t ht
end
end PX
end
section
set_option Elab.async false
set_option linter.all false
set_option maxRecDepth 100000
set_option maxHeartbeats 1000000
/-! PxH: repr of small data. No program in sight. -/
namespace PX
open PV PySem PySem.W
mutual
/-- none and numbers below 10 ** 12, nested -/
def sm : D → Bool
  | .none => true
  | .int i => decide (i.natAbs < 1000000000000)
  | .tuple xs => sms xs
  | .list xs => sms xs
  | .bool _ => false
  | .str _ => false
  | .dict _ => false
def sms : List D → Bool
  | [] => true
  | x :: xs => sm x && sms xs
end
mutual
theorem sm_ok : ∀ d : D, sm d = true → pn d = true ∧ d.showable = true ∧ d.leavesShort 13 = true
  | .none, _ => ⟨by rw [pn], by rw [PyData.showable], by rw [PyData.leavesShort]⟩
  | .int i, h => by
    rw [sm, decide_eq_true_eq] at h
    refine ⟨by rw [pn], ?_, ?_⟩
    · rw [PyData.showable, decide_eq_true_eq]
      by_cases hz : i.natAbs = 0
      · rw [hz]; decide
      · exact Nat.lt_of_lt_of_le ((Nat.log2_lt (k := 40) hz).mpr (by omega)) (by decide)
    · rw [PyData.leavesShort, decide_eq_true_eq]
      exact PyData.shown_int_le (by omega)
  | .tuple xs, h => by
    rw [sm] at h
    obtain ⟨a, b, c⟩ := sms_ok xs h
    exact ⟨by rw [pn]; exact a, by rw [PyData.showable]; exact b, by rw [PyData.leavesShort]; exact c⟩
  | .list xs, h => by
    rw [sm] at h
    obtain ⟨a, b, c⟩ := sms_ok xs h
    exact ⟨by rw [pn]; exact a, by rw [PyData.showable]; exact b, by rw [PyData.leavesShort]; exact c⟩
  | .bool _, h => by rw [sm] at h; cases h
  | .str _, h => by rw [sm] at h; cases h
  | .dict _, h => by rw [sm] at h; cases h
theorem sms_ok : ∀ ds : List D, sms ds = true → pns ds = true ∧ PyData.showableAll ds = true ∧ PyData.leavesShortAll 13 ds = true
  | [], _ => ⟨by rw [pns], by rw [PyData.showableAll], by rw [PyData.leavesShortAll]⟩
  | d :: ds, h => by
    rw [sms, Bool.and_eq_true] at h
    obtain ⟨a, b, c⟩ := sm_ok d h.1
    obtain ⟨a', b', c'⟩ := sms_ok ds h.2
    exact ⟨by rw [pns, a, a']; rfl, by rw [PyData.showableAll, b, b']; rfl, by rw [PyData.leavesShortAll, c, c']; rfl⟩
end
theorem sms_of {ds : List D} (h : ∀ d ∈ ds, sm d = true) : sms ds = true := by
  induction ds with
  | nil => rw [sms]
  | cons d ds ih => rw [sms, h d (by simp), ih fun x hx => h x (by simp [hx])]; rfl
theorem bulkAll_le {c : Nat} : ∀ ds : List D, (∀ d ∈ ds, d.bulk ≤ c) → PyData.bulkAll ds ≤ (c + 1) * ds.length
  | [], _ => by rw [PyData.bulkAll]; omega
  | d :: ds, h => by
    have h1 := h d (by simp)
    have h2 := bulkAll_le (c := c) ds fun x hx => h x (by simp [hx])
    rw [PyData.bulkAll, List.length_cons, Nat.mul_add, Nat.mul_one]
    omega
theorem reprOk_of {d : D} (h : sm d = true) (hd : d.depth ≤ 64) (hb : d.bulk ≤ 1000000) : reprOk d = true := by
  obtain ⟨h1, h2, h3⟩ := sm_ok d h
  have h4 := PyData.shown_le_bulk 13 (by decide) d h3
  have h5 := PyData.hasDict_of_canLay d (pn_lay d h1)
  unfold reprOk
  rw [h2, h5, decide_eq_true hd, decide_eq_true (by show _ ≤ 16777216; omega)]
  rfl
theorem strOk_shown {d : D} (h : pn d = true) : SeqAt.shaped (.str d.shown) = true := by
  unfold SeqAt.shaped
  rw [PyData.canLay0, PyData.depth]
  have : PyData.strOk d.shown = true := by
    unfold PyData.strOk
    rw [Array.all_eq_true_iff_forall_mem]
    intro c hc
    have := shown_ok d h c (Array.mem_toList_iff.mpr hc)
    simp
    omega
  rw [this]
  rfl
theorem repr_same {d : D} (h : pn d = true) : C2.sem .ne (.str d.shown) (.str d.shown) = some false ∧ C2.sem .eq (.str d.shown) (.str d.shown) = some true := by
  have e : eqOk (.str d.shown) (.str d.shown) = true := by unfold eqOk; rw [strOk_shown h]; rfl
  have q : PyData.eqv (.str d.shown) (.str d.shown) = true := by rw [PyData.eqv]; exact beq_self_eq_true _
  rw [c_ne, c_eq, if_pos e, if_pos e, q]
  exact ⟨rfl, rfl⟩
end PX
end
section
set_option Elab.async false
set_option linter.all false
set_option maxRecDepth 100000
set_option maxHeartbeats 1000000
/-! PxI: rewriting rules of calls. No program in sight. -/
namespace PX
open PySem PV PySem.W
section
variable {ft : FT} {wf : Nat} {s : Sl}
theorem E_io1 {f i : Nat} {e : E} {v bx r bx' : OV} (h0 : at_ s i = some bx) (he : evE ft e s = .ok v s) (ha : e.arg v = .val v) (hf : ft f [bx, v] = .ok r [bx']) : evE ft (.call f [(.io i), e] [0, 1]) s = .ok r (s.set i (some bx')) := by
  have h1 : evE ft (.io i) s = .ok (.imm .none) s := by rw [evE, h0]
  rw [evE, evA, h1, bind_ok, evA, he, bind_ok, evA, bind_ok, bind_ok, bind_ok, ha]
  show (match takeAll [.lent i, .val v] s with | some (vs, s2) => (ft f (reo [0, 1] vs)).back [.lent i, .val v] s2 | none => .bad) = _
  have ht : takeAll [.lent i, .val v] s = some ([bx, v], s.set i none) := by
    rw [takeAll, h0, Option.bind_some, takeAll, takeAll]; rfl
  rw [ht]
  show (ft f [bx, v]).back [.lent i, .val v] (s.set i none) = _
  rw [hf]
  show R.ok r ((s.set i none).set i (some bx')) = _
  rw [List.set_set]
theorem E_io0 {f i : Nat} {bx r bx' : OV} (h0 : at_ s i = some bx) (hf : ft f [bx] = .ok r [bx']) : evE ft (.call f [(.io i)] [0]) s = .ok r (s.set i (some bx')) := by
  have h1 : evE ft (.io i) s = .ok (.imm .none) s := by rw [evE, h0]
  rw [evE, evA, h1, bind_ok, evA, bind_ok, bind_ok]
  show (match takeAll [.lent i] s with | some (vs, s2) => (ft f (reo [0] vs)).back [.lent i] s2 | none => .bad) = _
  have ht : takeAll [.lent i] s = some ([bx], s.set i none) := by
    rw [takeAll, h0, Option.bind_some, takeAll]; rfl
  rw [ht]
  show (ft f [bx]).back [.lent i] (s.set i none) = _
  rw [hf]
  show R.ok r ((s.set i none).set i (some bx')) = _
  rw [List.set_set]
theorem E_call1 {f : Nat} {e : E} {s1 : Sl} {v r : OV} (he : evE ft e s = .ok v s1) (ha : e.arg v = .val v) (hf : ft f [v] = .ok r []) : evE ft (.call f [e] [0]) s = .ok r s1 := by
  rw [evE, evA, he, bind_ok, evA, bind_ok, bind_ok, ha]
  show (ft f [v]).back [.val v] s1 = _
  rw [hf]; rfl
theorem E_call2 {f : Nat} {e e' : E} {s1 s2 : Sl} {v v' r : OV} (he : evE ft e s = .ok v s1) (ha : e.arg v = .val v) (he' : evE ft e' s1 = .ok v' s2) (ha' : e'.arg v' = .val v') (hf : ft f [v, v'] = .ok r []) : evE ft (.call f [e, e'] [0, 1]) s = .ok r s2 := by
  rw [evE, evA, he, bind_ok, evA, he', bind_ok, evA, bind_ok, bind_ok, bind_ok, ha, ha']
  show (ft f [v, v']).back [.val v, .val v'] s2 = _
  rw [hf]; rfl
theorem E_orT {a b : E} {s1 : Sl} (h : evE ft a s = .ok (.imm (.bool true)) s1) : evE ft (.or_ a b) s = .ok (.imm (.bool true)) s1 := by
  rw [evE, h, bind_ok]
theorem E_not {a : E} {s1 : Sl} {b : Bool} (h : evE ft a s = .ok (.imm (.bool b)) s1) : evE ft (.not_ a) s = .ok (.imm (.bool (!b))) s1 := by
  rw [evE, h, bind_ok]
theorem E_neg {a : E} {s1 : Sl} {i : Int} (h : evE ft a s = .ok (.imm (.int i)) s1) : evE ft (.neg a) s = .ok (.imm (.int (-i))) s1 := by
  rw [evE, h, d_ok, bind_ok, toD_imm]
theorem E_orF {a b : E} {s1 : Sl} (h : evE ft a s = .ok (.imm (.bool false)) s1) : evE ft (.or_ a b) s = evE ft b s1 := by
  rw [evE, h, bind_ok]
theorem E_andF {a b : E} {s1 : Sl} (h : evE ft a s = .ok (.imm (.bool false)) s1) : evE ft (.and_ a b) s = .ok (.imm (.bool false)) s1 := by
  rw [evE, h, bind_ok]
theorem E_andT {a b : E} {s1 : Sl} (h : evE ft a s = .ok (.imm (.bool true)) s1) : evE ft (.and_ a b) s = evE ft b s1 := by
  rw [evE, h, bind_ok]
end
theorem atI_last {α : Type} {xs : List α} (h : xs ≠ []) : L2.atI xs (-1) = xs.getLast? := by
  have hl : 0 < xs.length := List.length_pos_iff.mpr h
  have e : L2.ixN xs.length (-1) = some (xs.length - 1) := by
    unfold L2.ixN
    rw [if_neg (by omega), if_pos (by omega)]
    congr 1
    omega
  unfold L2.atI
  rw [e, Option.bind_some, List.getLast?_eq_getElem?]
section
variable {ft : FT} {wf : Nat}
theorem E_slc {a : E} {lo hi : Option E} {s s1 s2 s3 : Sl} {va r : OV} {l h : Option Int} (ha : evE ft a s = .ok va s1) (h1 : evI ft lo s1 = .ok l s2) (h2 : evI ft hi s2 = .ok h s3) (k : slcD va.toD l h = some r) : evE ft (.slc a lo hi) s = .ok r s3 := by
  rw [evE, ha, d_ok, bind_ok, h1, bind_ok, h2, bind_ok, k, ofO_some]
end
theorem slc_l {xs : List D} {l h : Option Int} : slcD (.list xs) l h = some (nl (cut xs l h)) := rfl
theorem toD_nl {xs : List D} : (nl xs).toD = .list xs := by unfold nl; rw [toD_ol, toDs_map]
end PX
end
section
set_option Elab.async false
set_option linter.all false
set_option maxRecDepth 100000
set_option maxHeartbeats 1000000
/-! PxS: the evaluator as a machine of rewriting rules without binders. No program in sight. -/
namespace PX
open PV
open PySem
section
variable {ft : FT} {wf : Nat} {s : Sl} {α β : Type}
/-! ### frames -/
def bin2 (f : D → D → Option OV) (x : D) : R OV → R OV
  | .ok w s => R.ofO (f x w.toD) s
  | .exc c d s => .exc c d s
  | .bad => .bad
@[simp] theorem bin2_0 : bin2 f x (.ok w s) = R.ofO (f x w.toD) s := rfl
@[simp] theorem bin2_1 : bin2 f x (.exc c9 d9 s) = .exc c9 d9 s := rfl
@[simp] theorem bin2_2 : bin2 f x (.bad) = .bad := rfl
def bin1 (f : D → D → Option OV) (ft : FT) (b : E) : R OV → R OV
  | .ok v s => bin2 f v.toD (evE ft b s)
  | .exc c d s => .exc c d s
  | .bad => .bad
@[simp] theorem bin1_0 : bin1 f ft b (.ok v s) = bin2 f v.toD (evE ft b s) := rfl
@[simp] theorem bin1_1 : bin1 f ft b (.exc c9 d9 s) = .exc c9 d9 s := rfl
@[simp] theorem bin1_2 : bin1 f ft b (.bad) = .bad := rfl
def un1 (f : D → Option OV) : R OV → R OV
  | .ok v s => R.ofO (f v.toD) s
  | .exc c d s => .exc c d s
  | .bad => .bad
@[simp] theorem un1_0 : un1 f (.ok v s) = R.ofO (f v.toD) s := rfl
@[simp] theorem un1_1 : un1 f (.exc c9 d9 s) = .exc c9 d9 s := rfl
@[simp] theorem un1_2 : un1 f (.bad) = .bad := rfl
def semC (o : C2) (x y : D) : Option OV := (o.sem x y).map fun k => .imm (.bool k)
def semI (x y : D) : Option OV := (ixD x y).map .imm
def semN : D → Option OV
  | .int i => some (.imm (.int (-i)))
  | _ => none
def semR : D → Option OV
  | .list xs => some (nl xs.reverse)
  | _ => none
def semG : D → D → Option OV
  | .int i, .int j => some (.imm (.int ((Nat.gcd i.natAbs j.natAbs : Nat) : Int)))
  | _, _ => none
def semT (ts : List Ty) (x : D) : Option OV := if noDictB x then some (.imm (.bool (ts.any fun t => t.has x))) else none
def frzK : R OV → R OV
  | .ok v s => .ok (.imm v.toD) s
  | .exc c d s => .exc c d s
  | .bad => .bad
@[simp] theorem frzK_0 : frzK  (.ok v s) = .ok (.imm v.toD) s := rfl
@[simp] theorem frzK_1 : frzK  (.exc c9 d9 s) = .exc c9 d9 s := rfl
@[simp] theorem frzK_2 : frzK  (.bad) = .bad := rfl
def andK (ft : FT) (b : E) : R OV → R OV
  | .ok (.imm (.bool k)) s => if k = true then evE ft b s else .ok (.imm (.bool false)) s
  | .ok _ _ => .bad
  | .exc c d s => .exc c d s
  | .bad => .bad
@[simp] theorem andK_0 : andK ft b (.ok (.imm (.bool k)) s) = if k = true then evE ft b s else .ok (.imm (.bool false)) s := rfl
@[simp] theorem andK_1 : andK ft b (.exc c9 d9 s) = .exc c9 d9 s := rfl
@[simp] theorem andK_2 : andK ft b (.bad) = .bad := rfl
def orK (ft : FT) (b : E) : R OV → R OV
  | .ok (.imm (.bool k)) s => if k = true then .ok (.imm (.bool true)) s else evE ft b s
  | .ok _ _ => .bad
  | .exc c d s => .exc c d s
  | .bad => .bad
@[simp] theorem orK_0 : orK ft b (.ok (.imm (.bool k)) s) = if k = true then .ok (.imm (.bool true)) s else evE ft b s := rfl
@[simp] theorem orK_1 : orK ft b (.exc c9 d9 s) = .exc c9 d9 s := rfl
@[simp] theorem orK_2 : orK ft b (.bad) = .bad := rfl
def notK : R OV → R OV
  | .ok (.imm (.bool k)) s => .ok (.imm (.bool (!k))) s
  | .ok _ _ => .bad
  | .exc c d s => .exc c d s
  | .bad => .bad
@[simp] theorem notK_0 : notK  (.ok (.imm (.bool k)) s) = .ok (.imm (.bool (!k))) s := rfl
@[simp] theorem notK_1 : notK  (.exc c9 d9 s) = .exc c9 d9 s := rfl
@[simp] theorem notK_2 : notK  (.bad) = .bad := rfl
def iteK (ft : FT) (a b : E) : R OV → R OV
  | .ok (.imm (.bool k)) s => if k = true then evE ft a s else evE ft b s
  | .ok _ _ => .bad
  | .exc c d s => .exc c d s
  | .bad => .bad
@[simp] theorem iteK_0 : iteK ft a b (.ok (.imm (.bool k)) s) = if k = true then evE ft a s else evE ft b s := rfl
@[simp] theorem iteK_1 : iteK ft a b (.exc c9 d9 s) = .exc c9 d9 s := rfl
@[simp] theorem iteK_2 : iteK ft a b (.bad) = .bad := rfl
def chn3 (ft : FT) (o' : C2) (c : E) (y : D) (s : Sl) : Option Bool → R OV
  | some k => if k = true then bin2 (semC o') y (evE ft c s) else .ok (.imm (.bool false)) s
  | none => .bad
@[simp] theorem chn3_0 : chn3 ft o' c y s (some k) = if k = true then bin2 (semC o') y (evE ft c s) else .ok (.imm (.bool false)) s := rfl
@[simp] theorem chn3_1 : chn3 ft o' c y s (none) = .bad := rfl
def chn2 (ft : FT) (o o' : C2) (c : E) (x : D) : R OV → R OV
  | .ok w s => chn3 ft o' c w.toD s (o.sem x w.toD)
  | .exc c d s => .exc c d s
  | .bad => .bad
@[simp] theorem chn2_0 : chn2 ft o o' c x (.ok w s) = chn3 ft o' c w.toD s (o.sem x w.toD) := rfl
@[simp] theorem chn2_1 : chn2 ft o o' c x (.exc c9 d9 s) = .exc c9 d9 s := rfl
@[simp] theorem chn2_2 : chn2 ft o o' c x (.bad) = .bad := rfl
def chn1 (ft : FT) (o o' : C2) (b c : E) : R OV → R OV
  | .ok v s => chn2 ft o o' c v.toD (evE ft b s)
  | .exc c d s => .exc c d s
  | .bad => .bad
@[simp] theorem chn1_0 : chn1 ft o o' b c (.ok v s) = chn2 ft o o' c v.toD (evE ft b s) := rfl
@[simp] theorem chn1_1 : chn1 ft o o' b c (.exc c9 d9 s) = .exc c9 d9 s := rfl
@[simp] theorem chn1_2 : chn1 ft o o' b c (.bad) = .bad := rfl
def tupK : R (List D) → R OV
  | .ok ds s => .ok (.imm (.tuple ds)) s
  | .exc c d s => .exc c d s
  | .bad => .bad
@[simp] theorem tupK_0 : tupK  (.ok ds s) = .ok (.imm (.tuple ds)) s := rfl
@[simp] theorem tupK_1 : tupK  (.exc c9 d9 s) = .exc c9 d9 s := rfl
@[simp] theorem tupK_2 : tupK  (.bad) = .bad := rfl
def lstK : R (List OV) → R OV
  | .ok vs s => .ok (.ol vs) s
  | .exc c d s => .exc c d s
  | .bad => .bad
@[simp] theorem lstK_0 : lstK  (.ok vs s) = .ok (.ol vs) s := rfl
@[simp] theorem lstK_1 : lstK  (.exc c9 d9 s) = .exc c9 d9 s := rfl
@[simp] theorem lstK_2 : lstK  (.bad) = .bad := rfl
def bltK (b : BI) : R (List D) → R OV
  | .ok ds s => R.ofO (b.sem ds) s
  | .exc c d s => .exc c d s
  | .bad => .bad
@[simp] theorem bltK_0 : bltK b (.ok ds s) = R.ofO (b.sem ds) s := rfl
@[simp] theorem bltK_1 : bltK b (.exc c9 d9 s) = .exc c9 d9 s := rfl
@[simp] theorem bltK_2 : bltK b (.bad) = .bad := rfl
def pushD (d : D) : R (List D) → R (List D)
  | .ok ds s => .ok (d :: ds) s
  | .exc c d s => .exc c d s
  | .bad => .bad
@[simp] theorem pushD_0 : pushD d (.ok ds s) = .ok (d :: ds) s := rfl
@[simp] theorem pushD_1 : pushD d (.exc c9 d9 s) = .exc c9 d9 s := rfl
@[simp] theorem pushD_2 : pushD d (.bad) = .bad := rfl
def dsK (ft : FT) (es : List E) : R OV → R (List D)
  | .ok v s => pushD v.toD (evDs ft es s)
  | .exc c d s => .exc c d s
  | .bad => .bad
@[simp] theorem dsK_0 : dsK ft es (.ok v s) = pushD v.toD (evDs ft es s) := rfl
@[simp] theorem dsK_1 : dsK ft es (.exc c9 d9 s) = .exc c9 d9 s := rfl
@[simp] theorem dsK_2 : dsK ft es (.bad) = .bad := rfl
def pushV (d : OV) : R (List OV) → R (List OV)
  | .ok ds s => .ok (d :: ds) s
  | .exc c d s => .exc c d s
  | .bad => .bad
@[simp] theorem pushV_0 : pushV d (.ok ds s) = .ok (d :: ds) s := rfl
@[simp] theorem pushV_1 : pushV d (.exc c9 d9 s) = .exc c9 d9 s := rfl
@[simp] theorem pushV_2 : pushV d (.bad) = .bad := rfl
def esK (ft : FT) (es : List E) : R OV → R (List OV)
  | .ok v s => pushV v (evEs ft es s)
  | .exc c d s => .exc c d s
  | .bad => .bad
@[simp] theorem esK_0 : esK ft es (.ok v s) = pushV v (evEs ft es s) := rfl
@[simp] theorem esK_1 : esK ft es (.exc c9 d9 s) = .exc c9 d9 s := rfl
@[simp] theorem esK_2 : esK ft es (.bad) = .bad := rfl
def pushA (d : AV) : R (List AV) → R (List AV)
  | .ok ds s => .ok (d :: ds) s
  | .exc c d s => .exc c d s
  | .bad => .bad
@[simp] theorem pushA_0 : pushA d (.ok ds s) = .ok (d :: ds) s := rfl
@[simp] theorem pushA_1 : pushA d (.exc c9 d9 s) = .exc c9 d9 s := rfl
@[simp] theorem pushA_2 : pushA d (.bad) = .bad := rfl
def aK (ft : FT) (e : E) (es : List E) : R OV → R (List AV)
  | .ok v s => pushA (e.arg v) (evA ft es s)
  | .exc c d s => .exc c d s
  | .bad => .bad
@[simp] theorem aK_0 : aK ft e es (.ok v s) = pushA (e.arg v) (evA ft es s) := rfl
@[simp] theorem aK_1 : aK ft e es (.exc c9 d9 s) = .exc c9 d9 s := rfl
@[simp] theorem aK_2 : aK ft e es (.bad) = .bad := rfl
def callH (ft : FT) (f : Nat) (pm : List Nat) (as : List AV) : Option (List OV × Sl) → R OV
  | some (vs, s) => (ft f (reo pm vs)).back as s
  | none => .bad
@[simp] theorem callH_0 : callH ft f pm as (some (vs, s)) = (ft f (reo pm vs)).back as s := rfl
@[simp] theorem callH_1 : callH ft f pm as (none) = .bad := rfl
def callK (ft : FT) (f : Nat) (pm : List Nat) : R (List AV) → R OV
  | .ok as s => callH ft f pm as (takeAll as s)
  | .exc c d s => .exc c d s
  | .bad => .bad
@[simp] theorem callK_0 : callK ft f pm (.ok as s) = callH ft f pm as (takeAll as s) := rfl
@[simp] theorem callK_1 : callK ft f pm (.exc c9 d9 s) = .exc c9 d9 s := rfl
@[simp] theorem callK_2 : callK ft f pm (.bad) = .bad := rfl
def pkK (s : Sl) : Option OV → R OV
  | some ov => R.ofO (ov.shal.map .imm) s
  | none => .bad
@[simp] theorem pkK_0 : pkK s (some ov) = R.ofO (ov.shal.map .imm) s := rfl
@[simp] theorem pkK_1 : pkK s (none) = .bad := rfl
def varK (i : Nat) (s : Sl) : Option OV → R OV
  | some ov => .ok (.imm ov.toD) (s.set i (some (.imm ov.toD)))
  | none => .bad
@[simp] theorem varK_0 : varK i s (some ov) = .ok (.imm ov.toD) (s.set i (some (.imm ov.toD))) := rfl
@[simp] theorem varK_1 : varK i s (none) = .bad := rfl
def mvK (i : Nat) (s : Sl) : Option OV → R OV
  | some ov => .ok ov (s.set i none)
  | none => .bad
@[simp] theorem mvK_0 : mvK i s (some ov) = .ok ov (s.set i none) := rfl
@[simp] theorem mvK_1 : mvK i s (none) = .bad := rfl
def ioK (s : Sl) : Option OV → R OV
  | some _ => .ok (.imm .none) s
  | none => .bad
@[simp] theorem ioK_0 : ioK s (some v9) = .ok (.imm .none) s := rfl
@[simp] theorem ioK_1 : ioK s (none) = .bad := rfl
def iOf : R OV → R (Option Int)
  | .ok v s => match v.toD with
    | .int i => .ok (some i) s
    | _ => .bad
  | .exc c d s => .exc c d s
  | .bad => .bad
@[simp] theorem iOf_0 : iOf  (.ok v s) = match v.toD with
    | .int i => .ok (some i) s
    | _ => .bad := rfl
@[simp] theorem iOf_1 : iOf  (.exc c9 d9 s) = .exc c9 d9 s := rfl
@[simp] theorem iOf_2 : iOf  (.bad) = .bad := rfl
def slc3 (x : D) (l : Option Int) : R (Option Int) → R OV
  | .ok h s => R.ofO (slcD x l h) s
  | .exc c d s => .exc c d s
  | .bad => .bad
@[simp] theorem slc3_0 : slc3 x l (.ok h s) = R.ofO (slcD x l h) s := rfl
@[simp] theorem slc3_1 : slc3 x l (.exc c9 d9 s) = .exc c9 d9 s := rfl
@[simp] theorem slc3_2 : slc3 x l (.bad) = .bad := rfl
def slc2 (ft : FT) (hi : Option E) (x : D) : R (Option Int) → R OV
  | .ok l s => slc3 x l (evI ft hi s)
  | .exc c d s => .exc c d s
  | .bad => .bad
@[simp] theorem slc2_0 : slc2 ft hi x (.ok l s) = slc3 x l (evI ft hi s) := rfl
@[simp] theorem slc2_1 : slc2 ft hi x (.exc c9 d9 s) = .exc c9 d9 s := rfl
@[simp] theorem slc2_2 : slc2 ft hi x (.bad) = .bad := rfl
def slc1 (ft : FT) (lo hi : Option E) : R OV → R OV
  | .ok v s => slc2 ft hi v.toD (evI ft lo s)
  | .exc c d s => .exc c d s
  | .bad => .bad
@[simp] theorem slc1_0 : slc1 ft lo hi (.ok v s) = slc2 ft hi v.toD (evI ft lo s) := rfl
@[simp] theorem slc1_1 : slc1 ft lo hi (.exc c9 d9 s) = .exc c9 d9 s := rfl
@[simp] theorem slc1_2 : slc1 ft lo hi (.bad) = .bad := rfl
def ixkK (i : Nat) : R OV → R OV
  | .ok v s => match v.toD, at_ s i with
    | .int k, some (.ol xs) => match L2.atI xs k with
      | some ov => R.ofO (ov.shal.map .imm) s
      | none => .bad
    | _, _ => .bad
  | .exc c d s => .exc c d s
  | .bad => .bad
@[simp] theorem ixkK_0 : ixkK i (.ok v s) = match v.toD, at_ s i with
    | .int k, some (.ol xs) => match L2.atI xs k with
      | some ov => R.ofO (ov.shal.map .imm) s
      | none => .bad
    | _, _ => .bad := rfl
@[simp] theorem ixkK_1 : ixkK i (.exc c9 d9 s) = .exc c9 d9 s := rfl
@[simp] theorem ixkK_2 : ixkK i (.bad) = .bad := rfl
def toldK (fin : HE) (hs : List Cl) (all : List Nat) : R OV → R OV
  | .ok _ s => R.ofO ((fin.ev .none []).map .imm) s
  | .exc c d s => if all.contains c then told hs c d s else .bad
  | .bad => .bad
@[simp] theorem toldK_0 : toldK fin hs all (.ok v9 s) = R.ofO ((fin.ev .none []).map .imm) s := rfl
@[simp] theorem toldK_1 : toldK fin hs all (.exc c9 d9 s) = if all.contains c9 then told hs c9 d9 s else .bad := rfl
@[simp] theorem toldK_2 : toldK fin hs all (.bad) = .bad := rfl
def methK (ft : FT) (m : ME) (x : D) : R (List D) → R OV
  | .ok ds s => R.ofO (m.sem x ds) s
  | .exc c d s => .exc c d s
  | .bad => .bad
@[simp] theorem methK_0 : methK ft m x (.ok ds s) = R.ofO (m.sem x ds) s := rfl
@[simp] theorem methK_1 : methK ft m x (.exc c9 d9 s) = .exc c9 d9 s := rfl
@[simp] theorem methK_2 : methK ft m x (.bad) = .bad := rfl
def meth1 (ft : FT) (m : ME) (es : List E) : R OV → R OV
  | .ok v s => match seqOf v.toD with
    | none => .bad
    | some _ => methK ft m v.toD (evDs ft es s)
  | .exc c d s => .exc c d s
  | .bad => .bad
@[simp] theorem meth1_0 : meth1 ft m es (.ok v s) = match seqOf v.toD with
    | none => .bad
    | some _ => methK ft m v.toD (evDs ft es s) := rfl
@[simp] theorem meth1_1 : meth1 ft m es (.exc c9 d9 s) = .exc c9 d9 s := rfl
@[simp] theorem meth1_2 : meth1 ft m es (.bad) = .bad := rfl
def cmpK (ft : FT) (t : Tgt) (k : SK) (cs : List E) (e : E) : R (List D) → R OV
  | .ok ds s => match srcOf k ds with
    | none => .bad
    | some items => lstK (loopC t.slots (Tgt.bind t) (fun s => evAll ft cs s) (fun s => evE ft e s) items (clear t.slots s) [])
  | .exc c d s => .exc c d s
  | .bad => .bad
/-! ### expressions -/
@[simp] theorem x_lit {d : D} : evE ft (.lit d) s = .ok (.imm d) s := by rw [evE]
@[simp] theorem x_glb {k : Nat} {d : D} : evE ft (.glb k d) s = .ok (.imm d) s := by rw [evE]
@[simp] theorem x_var {i : Nat} : evE ft (.var i) s = varK i s (at_ s i) := by rw [evE]; cases at_ s i <;> rfl
@[simp] theorem x_mv {i : Nat} : evE ft (.mv i) s = mvK i s (at_ s i) := by rw [evE]; cases at_ s i <;> rfl
@[simp] theorem x_pk {i : Nat} : evE ft (.pk i) s = pkK s (at_ s i) := by rw [evE]; cases at_ s i <;> rfl
@[simp] theorem x_io {i : Nat} : evE ft (.io i) s = ioK s (at_ s i) := by rw [evE]; cases at_ s i <;> rfl
@[simp] theorem x_op2 {o : O2} {a b : E} : evE ft (.op2 o a b) s = bin1 o.sem ft b (evE ft a s) := by
  rw [evE]
  cases evE ft a s with
  | ok v s1 => rw [d_ok, bind_ok]; show _ = bin2 _ _ _; cases evE ft b s1 <;> rfl
  | exc c d s1 => rfl
  | bad => rfl
@[simp] theorem x_cmp {o : C2} {a b : E} : evE ft (.cmp o a b) s = bin1 (semC o) ft b (evE ft a s) := by
  rw [evE]
  cases evE ft a s with
  | ok v s1 => rw [d_ok, bind_ok]; show _ = bin2 _ _ _; cases evE ft b s1 <;> rfl
  | exc c d s1 => rfl
  | bad => rfl
@[simp] theorem x_ix {a b : E} : evE ft (.ix a b) s = bin1 semI ft b (evE ft a s) := by
  rw [evE]
  cases evE ft a s with
  | ok v s1 => rw [d_ok, bind_ok]; show _ = bin2 _ _ _; cases evE ft b s1 <;> rfl
  | exc c d s1 => rfl
  | bad => rfl
@[simp] theorem x_gcd {a b : E} : evE ft (.gcd a b) s = bin1 semG ft b (evE ft a s) := by
  rw [evE]
  cases evE ft a s with
  | ok v s1 =>
    rw [d_ok, bind_ok]
    show _ = bin2 _ _ _
    cases evE ft b s1 with
    | ok w s2 =>
      rw [d_ok, bind_ok]
      show _ = R.ofO (semG v.toD w.toD) s2
      cases v.toD <;> cases w.toD <;> rfl
    | exc c d s2 => rfl
    | bad => rfl
  | exc c d s1 => rfl
  | bad => rfl
@[simp] theorem x_neg {a : E} : evE ft (.neg a) s = un1 semN (evE ft a s) := by
  rw [evE]
  cases evE ft a s with
  | ok v s1 =>
    rw [d_ok, bind_ok]
    show _ = R.ofO (semN v.toD) s1
    cases v.toD <;> rfl
  | exc c d s1 => rfl
  | bad => rfl
@[simp] theorem x_rev {a : E} : evE ft (.rev a) s = un1 semR (evE ft a s) := by
  rw [evE]
  cases evE ft a s with
  | ok v s1 =>
    rw [d_ok, bind_ok]
    show _ = R.ofO (semR v.toD) s1
    cases v.toD <;> rfl
  | exc c d s1 => rfl
  | bad => rfl
@[simp] theorem x_isi {a : E} {ts : List Ty} : evE ft (.isi a ts) s = un1 (semT ts) (evE ft a s) := by
  rw [evE]
  cases evE ft a s with
  | ok v s1 =>
    rw [d_ok, bind_ok]
    show _ = R.ofO (semT ts v.toD) s1
    unfold semT
    cases noDictB v.toD <;> rfl
  | exc c d s1 => rfl
  | bad => rfl
@[simp] theorem x_frz {a : E} : evE ft (.frz a) s = frzK (evE ft a s) := by rw [evE]; cases evE ft a s <;> rfl
@[simp] theorem x_and {a b : E} : evE ft (.and_ a b) s = andK ft b (evE ft a s) := by
  rw [evE]
  cases evE ft a s with
  | ok v s1 =>
    rw [bind_ok]
    cases v with
    | ol xs => rfl
    | imm d =>
      cases d with
      | bool k => cases k <;> rfl
      | _ => rfl
  | exc c d s1 => rfl
  | bad => rfl
@[simp] theorem x_or {a b : E} : evE ft (.or_ a b) s = orK ft b (evE ft a s) := by
  rw [evE]
  cases evE ft a s with
  | ok v s1 =>
    rw [bind_ok]
    cases v with
    | ol xs => rfl
    | imm d =>
      cases d with
      | bool k => cases k <;> rfl
      | _ => rfl
  | exc c d s1 => rfl
  | bad => rfl
@[simp] theorem x_not {a : E} : evE ft (.not_ a) s = notK (evE ft a s) := by
  rw [evE]
  cases evE ft a s with
  | ok v s1 =>
    rw [bind_ok]
    cases v with
    | ol xs => rfl
    | imm d => cases d <;> rfl
  | exc c d s1 => rfl
  | bad => rfl
@[simp] theorem x_ite {c a b : E} : evE ft (.ite c a b) s = iteK ft a b (evE ft c s) := by
  rw [evE]
  cases evE ft c s with
  | ok v s1 =>
    rw [bind_ok]
    cases v with
    | ol xs => rfl
    | imm d =>
      cases d with
      | bool k => cases k <;> rfl
      | _ => rfl
  | exc c d s1 => rfl
  | bad => rfl
@[simp] theorem x_chn {o o' : C2} {a b c : E} : evE ft (.chn o o' a b c) s = chn1 ft o o' b c (evE ft a s) := by
  rw [evE]
  cases evE ft a s with
  | ok v s1 =>
    rw [d_ok, bind_ok]
    show _ = chn2 ft o o' c v.toD (evE ft b s1)
    cases evE ft b s1 with
    | ok w s2 =>
      rw [d_ok, bind_ok]
      show _ = chn3 ft o' c w.toD s2 (o.sem v.toD w.toD)
      cases o.sem v.toD w.toD with
      | none => rfl
      | some k =>
        cases k with
        | false => rfl
        | true =>
          show _ = bin2 _ _ _
          cases evE ft c s2 <;> rfl
    | exc c d s2 => rfl
    | bad => rfl
  | exc c d s1 => rfl
  | bad => rfl
@[simp] theorem x_tup {es : List E} : evE ft (.tup es) s = tupK (evDs ft es s) := by rw [evE]; cases evDs ft es s <;> rfl
@[simp] theorem x_lst {es : List E} : evE ft (.lst es) s = lstK (evEs ft es s) := by rw [evE]; cases evEs ft es s <;> rfl
@[simp] theorem x_blt {b : BI} {es : List E} : evE ft (.blt b es) s = bltK b (evDs ft es s) := by rw [evE]; cases evDs ft es s <;> rfl
@[simp] theorem x_ds0 : evDs ft [] s = .ok [] s := by rw [evDs]
@[simp] theorem x_ds {e : E} {es : List E} : evDs ft (e :: es) s = dsK ft es (evE ft e s) := by
  rw [evDs]
  cases evE ft e s with
  | ok v s1 => rw [bind_ok]; show _ = pushD _ _; cases evDs ft es s1 <;> rfl
  | exc c d s1 => rfl
  | bad => rfl
@[simp] theorem x_es0 : evEs ft [] s = .ok [] s := by rw [evEs]
@[simp] theorem x_es {e : E} {es : List E} : evEs ft (e :: es) s = esK ft es (evE ft e s) := by
  rw [evEs]
  cases evE ft e s with
  | ok v s1 => rw [bind_ok]; show _ = pushV _ _; cases evEs ft es s1 <;> rfl
  | exc c d s1 => rfl
  | bad => rfl
@[simp] theorem x_a0 : evA ft [] s = .ok [] s := by rw [evA]
@[simp] theorem x_a {e : E} {es : List E} : evA ft (e :: es) s = aK ft e es (evE ft e s) := by
  rw [evA]
  cases evE ft e s with
  | ok v s1 => rw [bind_ok]; show _ = pushA _ _; cases evA ft es s1 <;> rfl
  | exc c d s1 => rfl
  | bad => rfl
@[simp] theorem x_call {f : Nat} {es : List E} {pm : List Nat} : evE ft (.call f es pm) s = callK ft f pm (evA ft es s) := by
  rw [evE]
  cases evA ft es s with
  | ok as s1 =>
    rw [bind_ok]
    show _ = callH ft f pm as (takeAll as s1)
    cases takeAll as s1 <;> rfl
  | exc c d s1 => rfl
  | bad => rfl
@[simp] theorem x_i0 : evI ft none s = .ok none s := by rw [evI]
@[simp] theorem x_i {e : E} : evI ft (some e) s = iOf (evE ft e s) := by
  rw [evI]
  cases evE ft e s with
  | ok v s1 =>
    rw [d_ok, bind_ok]
    show _ = (match v.toD with
      | .int i => R.ok (some i) s1
      | _ => .bad)
    cases v.toD <;> rfl
  | exc c d s1 => rfl
  | bad => rfl
@[simp] theorem x_slc {a : E} {lo hi : Option E} : evE ft (.slc a lo hi) s = slc1 ft lo hi (evE ft a s) := by
  rw [evE]
  cases evE ft a s with
  | ok v s1 =>
    rw [d_ok, bind_ok]
    show _ = slc2 ft hi v.toD (evI ft lo s1)
    cases evI ft lo s1 with
    | ok l s2 =>
      rw [bind_ok]
      show _ = slc3 v.toD l (evI ft hi s2)
      cases evI ft hi s2 <;> rfl
    | exc c d s2 => rfl
    | bad => rfl
  | exc c d s1 => rfl
  | bad => rfl
def ixkG (i : Nat) (ft : FT) (b : E) (s : Sl) : Option OV → R OV
  | some _ => ixkK i (evE ft b s)
  | none => .bad
@[simp] theorem ixkG_0 : ixkG i ft b s (some v9) = ixkK i (evE ft b s) := rfl
@[simp] theorem ixkG_1 : ixkG i ft b s (none) = .bad := rfl
@[simp] theorem x_ixk {i : Nat} {b : E} : evE ft (.ixk i b) s = ixkG i ft b s (at_ s i) := by
  rw [evE]
  cases at_ s i with
  | none => rfl
  | some ov =>
    show ((evE ft b s).d.bind _) = ixkK i (evE ft b s)
    cases evE ft b s <;> rfl
@[simp] theorem x_told {g : Nat} {e : E} {fin : HE} {hs : List Cl} {all : List Nat} : evE ft (.told g e fin hs all) s = toldK fin hs all (evE ft e s) := by
  rw [evE]
  cases evE ft e s <;> rfl
@[simp] theorem x_meth {m : ME} {a : E} {es : List E} : evE ft (.meth m a es) s = meth1 ft m es (evE ft a s) := by
  rw [evE]
  cases evE ft a s with
  | ok v s1 =>
    rw [d_ok, bind_ok]
    show _ = (match seqOf v.toD with
      | none => R.bad
      | some _ => methK ft m v.toD (evDs ft es s1))
    cases seqOf v.toD with
    | none => rfl
    | some xs => show (evDs ft es s1).bind _ = methK _ _ _ _; cases evDs ft es s1 <;> rfl
  | exc c d s1 => rfl
  | bad => rfl
/-- a comprehension's walk, kept closed -/
def cmpL (ft : FT) (t : Tgt) (cs : List E) (e : E) (items : List D) (s : Sl) : R (List OV) := loopC t.slots (Tgt.bind t) (fun s => evAll ft cs s) (fun s => evE ft e s) items s []
def cmpJ (ft : FT) (t : Tgt) (cs : List E) (e : E) (s : Sl) : Option (List D) → R OV
  | none => .bad
  | some items => lstK (cmpL ft t cs e items (clear t.slots s))
@[simp] theorem cmpJ_0 {t : Tgt} {cs : List E} {e : E} {items : List D} : cmpJ ft t cs e s (some items) = lstK (cmpL ft t cs e items (clear t.slots s)) := rfl
@[simp] theorem cmpK_0 {t : Tgt} {k : SK} {cs : List E} {e : E} {ds : List D} : cmpK ft t k cs e (.ok ds s) = cmpJ ft t cs e s (srcOf k ds) := by
  show (match srcOf k ds with
    | none => R.bad
    | some items => lstK (loopC t.slots (Tgt.bind t) (fun s => evAll ft cs s) (fun s => evE ft e s) items (clear t.slots s) [])) = _
  cases srcOf k ds <;> rfl
@[simp] theorem cmpK_1 {t : Tgt} {k : SK} {cs : List E} {e : E} {c9 : Nat} {d9 : D} : cmpK ft t k cs e (.exc c9 d9 s) = .exc c9 d9 s := rfl
@[simp] theorem x_comp {t : Tgt} {k : SK} {es cs : List E} {e : E} : evE ft (.comp t k es cs e) s = cmpK ft t k cs e (evDs ft es s) := by
  rw [evE]
  cases evDs ft es s with
  | ok ds s1 =>
    rw [bind_ok]
    show _ = (match srcOf k ds with
      | none => R.bad
      | some items => lstK (loopC t.slots (Tgt.bind t) (fun s => evAll ft cs s) (fun s => evE ft e s) items (clear t.slots s1) []))
    cases srcOf k ds with
    | none => rfl
    | some items =>
      show R.bind _ _ = lstK _
      cases loopC t.slots (Tgt.bind t) (fun s => evAll ft cs s) (fun s => evE ft e s) items (clear t.slots s1) [] <;> rfl
  | exc c d s1 => rfl
  | bad => rfl
/-! ### statements -/
def seqK (wf : Nat) (ft : FT) (ts : List PV.St) : R Fl → R Fl
  | .ok .nx s => evB wf ft ts s
  | .ok f s => .ok f s
  | .exc c d s => .exc c d s
  | .bad => .bad
@[simp] theorem seqK_0 : seqK wf ft ts (.ok .nx s) = evB wf ft ts s := rfl
@[simp] theorem seqK_1 : seqK wf ft ts (.ok (.rt v) s) = .ok (.rt v) s := rfl
@[simp] theorem seqK_2 : seqK wf ft ts (.ok (.br) s) = .ok (.br) s := rfl
@[simp] theorem seqK_3 : seqK wf ft ts (.ok (.ct) s) = .ok (.ct) s := rfl
@[simp] theorem seqK_4 : seqK wf ft ts (.exc c9 d9 s) = .exc c9 d9 s := rfl
@[simp] theorem seqK_5 : seqK wf ft ts (.bad) = .bad := rfl
def setK (i : Nat) : R OV → R Fl
  | .ok v s => .ok .nx (s.set i (some v))
  | .exc c d s => .exc c d s
  | .bad => .bad
@[simp] theorem setK_0 : setK i (.ok v s) = .ok .nx (s.set i (some v)) := rfl
@[simp] theorem setK_1 : setK i (.exc c9 d9 s) = .exc c9 d9 s := rfl
@[simp] theorem setK_2 : setK i (.bad) = .bad := rfl
def retK : R OV → R Fl
  | .ok v s => .ok (.rt v) s
  | .exc c d s => .exc c d s
  | .bad => .bad
@[simp] theorem retK_0 : retK  (.ok v s) = .ok (.rt v) s := rfl
@[simp] theorem retK_1 : retK  (.exc c9 d9 s) = .exc c9 d9 s := rfl
@[simp] theorem retK_2 : retK  (.bad) = .bad := rfl
def exprK : R OV → R Fl
  | .ok _ s => .ok .nx s
  | .exc c d s => .exc c d s
  | .bad => .bad
@[simp] theorem exprK_0 : exprK  (.ok v9 s) = .ok .nx s := rfl
@[simp] theorem exprK_1 : exprK  (.exc c9 d9 s) = .exc c9 d9 s := rfl
@[simp] theorem exprK_2 : exprK  (.bad) = .bad := rfl
def raiseK (c : Nat) : R OV → R Fl
  | .ok v s => .exc c v.toD s
  | .exc c d s => .exc c d s
  | .bad => .bad
@[simp] theorem raiseK_0 : raiseK c (.ok v s) = .exc c v.toD s := rfl
@[simp] theorem raiseK_1 : raiseK c (.exc c9 d9 s) = .exc c9 d9 s := rfl
@[simp] theorem raiseK_2 : raiseK c (.bad) = .bad := rfl
def ifK (wf : Nat) (ft : FT) (a b : List PV.St) : R OV → R Fl
  | .ok (.imm (.bool k)) s => if k = true then evB wf ft a s else evB wf ft b s
  | .ok _ _ => .bad
  | .exc c d s => .exc c d s
  | .bad => .bad
@[simp] theorem ifK_0 : ifK wf ft a b (.ok (.imm (.bool k)) s) = if k = true then evB wf ft a s else evB wf ft b s := rfl
@[simp] theorem ifK_1 : ifK wf ft a b (.exc c9 d9 s) = .exc c9 d9 s := rfl
@[simp] theorem ifK_2 : ifK wf ft a b (.bad) = .bad := rfl
def ofSl (o : Option Sl) : R Fl := match o with
  | some s => .ok .nx s
  | none => .bad
@[simp] theorem ofSl_0 : ofSl (some s) = .ok .nx s := rfl
@[simp] theorem ofSl_1 : ofSl none = .bad := rfl
def setTK (ts : List Tgt) : R OV → R Fl
  | .ok v s => ofSl (Tgt.bind (.tp ts) v.toD s)
  | .exc c d s => .exc c d s
  | .bad => .bad
@[simp] theorem setTK_0 : setTK ts (.ok v s) = ofSl (Tgt.bind (.tp ts) v.toD s) := rfl
@[simp] theorem setTK_1 : setTK ts (.exc c9 d9 s) = .exc c9 d9 s := rfl
@[simp] theorem setTK_2 : setTK ts (.bad) = .bad := rfl
def parK (is : List Nat) : R (List OV) → R Fl
  | .ok vs s => ofSl (setAll is vs s)
  | .exc c d s => .exc c d s
  | .bad => .bad
@[simp] theorem parK_0 : parK is (.ok vs s) = ofSl (setAll is vs s) := rfl
@[simp] theorem parK_1 : parK is (.exc c9 d9 s) = .exc c9 d9 s := rfl
@[simp] theorem parK_2 : parK is (.bad) = .bad := rfl
def forK (wf : Nat) (ft : FT) (t : Tgt) (k : SK) (body : List PV.St) (ks : List Nat) : R (List D) → R Fl
  | .ok ds s => match srcOf k ds with
    | none => .bad
    | some items => loopF ks (Tgt.bind t) (fun s => evB wf ft body s) items s
  | .exc c d s => .exc c d s
  | .bad => .bad
/-- a walk, kept closed -/
def forL (wf : Nat) (ft : FT) (t : Tgt) (body : List PV.St) (ks : List Nat) (items : List D) (s : Sl) : R Fl := loopF ks (Tgt.bind t) (fun s => evB wf ft body s) items s
def forJ (wf : Nat) (ft : FT) (t : Tgt) (body : List PV.St) (ks : List Nat) (s : Sl) : Option (List D) → R Fl
  | none => .bad
  | some items => forL wf ft t body ks items s
@[simp] theorem forJ_0 {t : Tgt} {body : List PV.St} {ks : List Nat} {items : List D} : forJ wf ft t body ks s (some items) = forL wf ft t body ks items s := rfl
@[simp] theorem forK_0 : forK wf ft t k body ks (.ok ds s) = forJ wf ft t body ks s (srcOf k ds) := by
  show (match srcOf k ds with
    | none => R.bad
    | some items => loopF ks (Tgt.bind t) (fun s => evB wf ft body s) items s) = _
  cases srcOf k ds <;> rfl
@[simp] theorem forK_1 : forK wf ft t k body ks (.exc c9 d9 s) = .exc c9 d9 s := rfl
@[simp] theorem forK_2 : forK wf ft t k body ks (.bad) = .bad := rfl
def appK (i : Nat) : R OV → R Fl
  | .ok v s => match at_ s i with
    | some (.ol xs) => if xs.length < lim then .ok .nx (s.set i (some (.ol (xs ++ [v])))) else .bad
    | _ => .bad
  | .exc c d s => .exc c d s
  | .bad => .bad
@[simp] theorem appK_0 : appK i (.ok v s) = match at_ s i with
    | some (.ol xs) => if xs.length < lim then .ok .nx (s.set i (some (.ol (xs ++ [v])))) else .bad
    | _ => .bad := rfl
@[simp] theorem appK_1 : appK i (.exc c9 d9 s) = .exc c9 d9 s := rfl
@[simp] theorem appK_2 : appK i (.bad) = .bad := rfl
def extK (i : Nat) : R OV → R Fl
  | .ok (.ol ys) s => match at_ s i with
    | some (.ol xs) => if xs.length + ys.length ≤ lim then .ok .nx (s.set i (some (.ol (xs ++ ys)))) else .bad
    | _ => .bad
  | .ok _ _ => .bad
  | .exc c d s => .exc c d s
  | .bad => .bad
@[simp] theorem extK_0 : extK i (.ok (.ol ys) s) = match at_ s i with
    | some (.ol xs) => if xs.length + ys.length ≤ lim then .ok .nx (s.set i (some (.ol (xs ++ ys)))) else .bad
    | _ => .bad := rfl
@[simp] theorem extK_1 : extK i (.exc c9 d9 s) = .exc c9 d9 s := rfl
@[simp] theorem extK_2 : extK i (.bad) = .bad := rfl
@[simp] theorem y_nil : evB wf ft [] s = .ok .nx s := by rw [evB]
@[simp] theorem y_cons {t : PV.St} {ts : List PV.St} : evB wf ft (t :: ts) s = seqK wf ft ts (evS wf ft t s) := by
  rw [evB]
  cases evS wf ft t s with
  | ok f s1 => cases f <;> rfl
  | exc c d s1 => rfl
  | bad => rfl
@[simp] theorem y_set {i : Nat} {e : E} : evS wf ft (.set i e) s = setK i (evE ft e s) := by rw [evS]; cases evE ft e s <;> rfl
@[simp] theorem y_ret {e : E} : evS wf ft (.ret e) s = retK (evE ft e s) := by rw [evS]; cases evE ft e s <;> rfl
@[simp] theorem y_retn : evS wf ft .retn s = .ok (.rt (.imm .none)) s := by rw [evS]
@[simp] theorem y_expr {e : E} : evS wf ft (.expr e) s = exprK (evE ft e s) := by rw [evS]; cases evE ft e s <;> rfl
@[simp] theorem y_raise {c : Nat} {e : E} : evS wf ft (.raise c e) s = raiseK c (evE ft e s) := by rw [evS]; cases evE ft e s <;> rfl
@[simp] theorem y_if {c : E} {a b : List PV.St} : evS wf ft (.ifs c a b) s = ifK wf ft a b (evE ft c s) := by
  rw [evS]
  cases evE ft c s with
  | ok v s1 =>
    rw [bind_ok]
    cases v with
    | ol xs => rfl
    | imm d =>
      cases d with
      | bool k => cases k <;> rfl
      | _ => rfl
  | exc c d s1 => rfl
  | bad => rfl
@[simp] theorem y_setT {ts : List Tgt} {e : E} : evS wf ft (.setT ts e) s = setTK ts (evE ft e s) := by
  rw [evS]
  cases evE ft e s with
  | ok v s1 => rw [d_ok, bind_ok]; show _ = ofSl _; cases Tgt.bind (.tp ts) v.toD s1 <;> rfl
  | exc c d s1 => rfl
  | bad => rfl
@[simp] theorem y_par {is : List Nat} {es : List E} : evS wf ft (.par is es) s = parK is (evEs ft es s) := by
  rw [evS]
  cases evEs ft es s with
  | ok vs s1 => rw [bind_ok]; show _ = ofSl _; cases setAll is vs s1 <;> rfl
  | exc c d s1 => rfl
  | bad => rfl
@[simp] theorem y_for {t : Tgt} {k : SK} {es : List E} {body : List PV.St} {ks : List Nat} : evS wf ft (.for_ t k es body ks) s = forK wf ft t k body ks (evDs ft es s) := by
  rw [evS]
  cases evDs ft es s with
  | ok ds s1 => rfl
  | exc c d s1 => rfl
  | bad => rfl
def appG (i : Nat) (ft : FT) (e : E) (s : Sl) : Option OV → R Fl
  | some (.ol _) => appK i (evE ft e s)
  | _ => .bad
@[simp] theorem appG_0 : appG i ft e s (some (.ol v9)) = appK i (evE ft e s) := rfl
def extG (i : Nat) (ft : FT) (e : E) (s : Sl) : Option OV → R Fl
  | some (.ol _) => extK i (evE ft e s)
  | _ => .bad
@[simp] theorem extG_0 : extG i ft e s (some (.ol v9)) = extK i (evE ft e s) := rfl
def augK (i : Nat) (o : O2) (x : Int) : R OV → R Fl
  | .ok v s => match o, v.toD with
    | .add, .int j => .ok .nx (s.set i (some (.imm (.int (x + j)))))
    | .sub, .int j => .ok .nx (s.set i (some (.imm (.int (x - j)))))
    | _, _ => .bad
  | .exc c d s => .exc c d s
  | .bad => .bad
@[simp] theorem augK_0 : augK i o x (.ok v s) = match o, v.toD with
    | .add, .int j => .ok .nx (s.set i (some (.imm (.int (x + j)))))
    | .sub, .int j => .ok .nx (s.set i (some (.imm (.int (x - j)))))
    | _, _ => .bad := rfl
@[simp] theorem augK_1 : augK i o x (.exc c9 d9 s) = .exc c9 d9 s := rfl
@[simp] theorem augK_2 : augK i o x (.bad) = .bad := rfl
def augG (i : Nat) (o : O2) (ft : FT) (e : E) (s : Sl) : Option OV → R Fl
  | some (.imm (.int x)) => augK i o x (evE ft e s)
  | _ => .bad
@[simp] theorem augG_0 : augG i o ft e s (some (.imm (.int x))) = augK i o x (evE ft e s) := rfl
@[simp] theorem y_aug {i : Nat} {o : O2} {e : E} : evS wf ft (.aug i o e) s = augG i o ft e s (at_ s i) := by
  rw [evS]
  cases at_ s i with
  | none => rfl
  | some ov =>
    cases ov with
    | ol xs => rfl
    | imm d =>
      cases d with
      | int x =>
        show ((evE ft e s).d.bind _) = augK i o x (evE ft e s)
        cases evE ft e s with
        | ok v s1 =>
          rw [d_ok, bind_ok]
          show _ = (match o, v.toD with
            | .add, .int j => R.ok Fl.nx (s1.set i (some (.imm (.int (x + j)))))
            | .sub, .int j => R.ok Fl.nx (s1.set i (some (.imm (.int (x - j)))))
            | _, _ => R.bad)
          cases o <;> cases v.toD <;> rfl
        | exc c d s1 => rfl
        | bad => rfl
      | _ => rfl
def sxK (i : Nat) (v : OV) : R OV → R Fl
  | .ok u s => match u.toD, at_ s i with
    | .int j, some (.ol xs) => match L2.ixN xs.length j with
      | some n => .ok .nx (s.set i (some (.ol (xs.set n v))))
      | none => .bad
    | _, _ => .bad
  | .exc c d s => .exc c d s
  | .bad => .bad
@[simp] theorem sxK_0 : sxK i v (.ok u s) = match u.toD, at_ s i with
    | .int j, some (.ol xs) => match L2.ixN xs.length j with
      | some n => .ok .nx (s.set i (some (.ol (xs.set n v))))
      | none => .bad
    | _, _ => .bad := rfl
@[simp] theorem sxK_1 : sxK i v (.exc c9 d9 s) = .exc c9 d9 s := rfl
@[simp] theorem sxK_2 : sxK i v (.bad) = .bad := rfl
def sxH (i : Nat) (ft : FT) (k : E) (v : OV) (s : Sl) : Option OV → R Fl
  | some (.ol _) => sxK i v (evE ft k s)
  | _ => .bad
@[simp] theorem sxH_0 : sxH i ft k v s (some (.ol v9)) = sxK i v (evE ft k s) := rfl
def sxG (i : Nat) (ft : FT) (k : E) : R OV → R Fl
  | .ok v s => sxH i ft k v s (at_ s i)
  | .exc c d s => .exc c d s
  | .bad => .bad
@[simp] theorem sxG_0 : sxG i ft k (.ok v s) = sxH i ft k v s (at_ s i) := rfl
@[simp] theorem sxG_1 : sxG i ft k (.exc c9 d9 s) = .exc c9 d9 s := rfl
@[simp] theorem sxG_2 : sxG i ft k (.bad) = .bad := rfl
@[simp] theorem y_setix {i : Nat} {k e : E} : evS wf ft (.setix i k e) s = sxG i ft k (evE ft e s) := by
  rw [evS]
  cases evE ft e s with
  | exc c d s1 => rfl
  | bad => rfl
  | ok v s1 =>
    rw [bind_ok]
    show _ = sxH i ft k v s1 (at_ s1 i)
    cases at_ s1 i with
    | none => rfl
    | some ov =>
      cases ov with
      | imm d => rfl
      | ol ys =>
        show ((evE ft k s1).d.bind _) = sxK i v (evE ft k s1)
        cases evE ft k s1 with
        | exc c d s2 => rfl
        | bad => rfl
        | ok u s2 =>
          rw [d_ok, bind_ok]
          show _ = (match u.toD, at_ s2 i with
            | .int j, some (.ol xs) => (match L2.ixN xs.length j with
              | some n => R.ok Fl.nx (s2.set i (some (.ol (xs.set n v))))
              | none => .bad)
            | _, _ => .bad)
          cases u.toD <;> first | rfl | (cases at_ s2 i with
            | none => rfl
            | some ov => cases ov <;> rfl)
@[simp] theorem y_app {i : Nat} {e : E} : evS wf ft (.app i e) s = appG i ft e s (at_ s i) := by
  rw [evS]
  cases at_ s i with
  | none => rfl
  | some ov =>
    cases ov with
    | imm d => rfl
    | ol xs =>
      show (evE ft e s).bind _ = appK i (evE ft e s)
      cases evE ft e s <;> rfl
@[simp] theorem y_ext {i : Nat} {e : E} : evS wf ft (.ext i e) s = extG i ft e s (at_ s i) := by
  rw [evS]
  cases at_ s i with
  | none => rfl
  | some ov =>
   cases ov with
   | imm d => rfl
   | ol xs0 =>
   show (evE ft e s).bind _ = extK i (evE ft e s)
   cases evE ft e s with
  | ok v s1 =>
    rw [bind_ok]
    cases v with
    | imm d => rfl
    | ol ys =>
      show _ = (match at_ s1 i with
        | some (.ol xs) => if xs.length + ys.length ≤ lim then R.ok Fl.nx (s1.set i (some (.ol (xs ++ ys)))) else .bad
        | _ => .bad)
      cases at_ s1 i with
      | none => rfl
      | some ov => cases ov <;> rfl
  | exc c d s1 => rfl
  | bad => rfl
/-! ### tests -/
@[simp] theorem ite_and' {c : Prop} [Decidable c] {q : Bool} : (if c then R.ok (OV.imm (.bool q)) s else R.ok (OV.imm (.bool false)) s) = R.ok (OV.imm (.bool (decide c && q))) s := by
  by_cases h : c <;> simp [h]
@[simp] theorem ite_or' {c : Prop} [Decidable c] {q : Bool} : (if c then R.ok (OV.imm (.bool true)) s else R.ok (OV.imm (.bool q)) s) = R.ok (OV.imm (.bool (decide c || q))) s := by
  by_cases h : c <;> simp [h]
theorem seqK_ite {c : Prop} [Decidable c] {ts : List PV.St} {a b : R Fl} : seqK wf ft ts (if c then a else b) = if c then seqK wf ft ts a else seqK wf ft ts b := by by_cases h : c <;> simp [h]
theorem fin_ite {c : Prop} [Decidable c] {is : List Nat} {a b : R Fl} : (if c then a else b : R Fl).fin is = if c then a.fin is else b.fin is := by by_cases h : c <;> simp [h]
/-! ### slots and values -/
@[simp] theorem arg_var : (E.var q0).arg v = .val v := rfl
@[simp] theorem arg_mv : (E.mv q0).arg v = .val v := rfl
@[simp] theorem arg_pk : (E.pk q0).arg v = .val v := rfl
@[simp] theorem arg_lit : (E.lit q0).arg v = .val v := rfl
@[simp] theorem arg_glb : (E.glb q0 q1).arg v = .val v := rfl
@[simp] theorem arg_tup : (E.tup q0).arg v = .val v := rfl
@[simp] theorem arg_lst : (E.lst q0).arg v = .val v := rfl
@[simp] theorem arg_frz : (E.frz q0).arg v = .val v := rfl
@[simp] theorem arg_op2 : (E.op2 q0 q1 q2).arg v = .val v := rfl
@[simp] theorem arg_neg : (E.neg q0).arg v = .val v := rfl
@[simp] theorem arg_cmp : (E.cmp q0 q1 q2).arg v = .val v := rfl
@[simp] theorem arg_chn : (E.chn q0 q1 q2 q3 q4).arg v = .val v := rfl
@[simp] theorem arg_and_ : (E.and_ q0 q1).arg v = .val v := rfl
@[simp] theorem arg_or_ : (E.or_ q0 q1).arg v = .val v := rfl
@[simp] theorem arg_not_ : (E.not_ q0).arg v = .val v := rfl
@[simp] theorem arg_ite : (E.ite q0 q1 q2).arg v = .val v := rfl
@[simp] theorem arg_ix : (E.ix q0 q1).arg v = .val v := rfl
@[simp] theorem arg_ixk : (E.ixk q0 q1).arg v = .val v := rfl
@[simp] theorem arg_slc : (E.slc q0 q1 q2).arg v = .val v := rfl
@[simp] theorem arg_call : (E.call q0 q1 q2).arg v = .val v := rfl
@[simp] theorem arg_blt : (E.blt q0 q1).arg v = .val v := rfl
@[simp] theorem arg_isi : (E.isi q0 q1).arg v = .val v := rfl
@[simp] theorem arg_meth : (E.meth q0 q1 q2).arg v = .val v := rfl
@[simp] theorem arg_pop : (E.pop q0 q1).arg v = .val v := rfl
@[simp] theorem arg_comp : (E.comp q0 q1 q2 q3 q4).arg v = .val v := rfl
@[simp] theorem arg_told : (E.told q0 q1 q2 q3 q4).arg v = .val v := rfl
@[simp] theorem arg_atr : (E.atr q0 q1).arg v = .val v := rfl
@[simp] theorem arg_rev : (E.rev q0).arg v = .val v := rfl
@[simp] theorem arg_gcd : (E.gcd q0 q1).arg v = .val v := rfl
@[simp] theorem arg_popk : (E.popk q0 q1).arg v = .val v := rfl
@[simp] theorem arg_callv : (E.callv q0 q1 q2).arg v = .val v := rfl
@[simp] theorem arg_io : (E.io q0).arg v = .lent q0 := rfl
@[simp] theorem tk_nil : takeAll [] s = some ([], s) := rfl
@[simp] theorem tk_val {v : OV} {r : List AV} : takeAll (.val v :: r) s = (takeAll r s).map fun p => (v :: p.1, p.2) := rfl
def lentK (r : List AV) (s : Sl) (i : Nat) : Option OV → Option (List OV × Sl)
  | some v => (takeAll r (s.set i none)).map fun p => (v :: p.1, p.2)
  | none => none
@[simp] theorem lentK_some {r : List AV} {i : Nat} {v : OV} : lentK r s i (some v) = (takeAll r (s.set i none)).map fun p => (v :: p.1, p.2) := rfl
@[simp] theorem tk_lent {i : Nat} {r : List AV} : takeAll (.lent i :: r) s = lentK r s i (at_ s i) := by rw [takeAll]; cases at_ s i <;> rfl
@[simp] theorem pt_nil {os : List OV} : putAll [] os s = s := by rw [putAll]
@[simp] theorem pt_val {v : OV} {r : List AV} {os : List OV} : putAll (.val v :: r) os s = putAll r os s := rfl
@[simp] theorem pt_lent {i : Nat} {r : List AV} {o : OV} {os : List OV} : putAll (.lent i :: r) (o :: os) s = putAll r os (s.set i (some o)) := rfl
@[simp] theorem back_ok {v : OV} {os : List OV} {as : List AV} : (FR.ok v os).back as s = .ok v (putAll as os s) := rfl
@[simp] theorem back_exc {c : Nat} {d : D} {os : List OV} {as : List AV} : (FR.exc c d os).back as s = .exc c d (putAll as os s) := rfl
@[simp] theorem reo_nil {xs : List OV} : reo [] xs = [] := rfl
@[simp] theorem reo_cons {i : Nat} {pm : List Nat} {xs : List OV} : reo (i :: pm) xs = xs.getD i default :: reo pm xs := rfl
@[simp] theorem outs_nil : outsOf [] s = some [] := rfl
def outK (is : List Nat) (s : Sl) : Option OV → Option (List OV)
  | some v => (outsOf is s).map (v :: ·)
  | none => none
@[simp] theorem outK_some {is : List Nat} {v : OV} : outK is s (some v) = (outsOf is s).map (v :: ·) := rfl
@[simp] theorem outs_cons {i : Nat} {is : List Nat} : outsOf (i :: is) s = outK is s (at_ s i) := by rw [outsOf]; cases at_ s i <;> rfl
def finK (v : OV) : Option (List OV) → FR
  | some os => .ok v os
  | none => .bad
def finX (c : Nat) (d : D) : Option (List OV) → FR
  | some os => .exc c d os
  | none => .bad
@[simp] theorem finK_some {v : OV} {os : List OV} : finK v (some os) = .ok v os := rfl
@[simp] theorem finX_some {c : Nat} {d : D} {os : List OV} : finX c d (some os) = .exc c d os := rfl
@[simp] theorem fin_nx {is : List Nat} : (R.ok Fl.nx s).fin is = finK (.imm .none) (outsOf is s) := by
  show (match outsOf is s with
    | some os => FR.ok (.imm .none) os
    | none => .bad) = _
  cases outsOf is s <;> rfl
@[simp] theorem fin_rt {is : List Nat} {v : OV} : (R.ok (Fl.rt v) s).fin is = finK v (outsOf is s) := by
  show (match outsOf is s with
    | some os => FR.ok v os
    | none => .bad) = _
  cases outsOf is s <;> rfl
@[simp] theorem fin_exc {is : List Nat} {c : Nat} {d : D} : (R.exc c d s).fin is = finX c d (outsOf is s) := by
  show (match outsOf is s with
    | some os => FR.exc c d os
    | none => .bad) = _
  cases outsOf is s <;> rfl
@[simp] theorem sl_nm {i : Nat} : Tgt.slots (.nm i) = [i] := rfl
@[simp] theorem clear_nil : clear [] s = s := rfl
@[simp] theorem clear_cons {i : Nat} {is : List Nat} : clear (i :: is) s = clear is (s.set i none) := rfl
@[simp] theorem sa_nil : setAll [] [] s = some s := rfl
@[simp] theorem sa_cons {i : Nat} {is : List Nat} {v : OV} {vs : List OV} : setAll (i :: is) (v :: vs) s = setAll is vs (s.set i (some v)) := rfl
@[simp] theorem eq_ints {i j : Int} : semC .eq (.int i) (.int j) = some (.imm (.bool (decide (i = j)))) := by
  have e : eqOk (.int i) (.int j) = true := by simp [eqOk, SeqAt.shaped, PyData.canLay0, PyData.depth]
  unfold semC
  rw [c_eq, if_pos e]
  simp [PyData.eqv]
  rfl
@[simp] theorem ne_ints {i j : Int} : semC .ne (.int i) (.int j) = some (.imm (.bool (!decide (i = j)))) := by
  have e : eqOk (.int i) (.int j) = true := by simp [eqOk, SeqAt.shaped, PyData.canLay0, PyData.depth]
  unfold semC
  rw [c_ne, if_pos e]
  simp [PyData.eqv]
  rfl
@[simp] theorem lt_ints {i j : Int} : semC .lt (.int i) (.int j) = some (.imm (.bool (decide (i < j)))) := rfl
@[simp] theorem le_ints {i j : Int} : semC .le (.int i) (.int j) = some (.imm (.bool (decide (i ≤ j)))) := rfl
@[simp] theorem gt_ints {i j : Int} : semC .gt (.int i) (.int j) = some (.imm (.bool (decide (j < i)))) := rfl
@[simp] theorem ge_ints {i j : Int} : semC .ge (.int i) (.int j) = some (.imm (.bool (decide (j ≤ i)))) := rfl
end
end PX
end
section
set_option Elab.async false
set_option linter.all false
set_option maxRecDepth 100000
set_option maxHeartbeats 1000000
/-! PxT: more rules of the machine: tests of comprehensions, nested pop and append, while; rows of numbers. No program in sight. -/
namespace PX
open PySem PV
section
variable {ft : FT} {wf : Nat} {s : Sl} {α β : Type}
def allK (ft : FT) (es : List E) : R OV → R Bool
  | .ok (.imm (.bool k)) s => if k = true then evAll ft es s else .ok false s
  | .ok _ _ => .bad
  | .exc c d s => .exc c d s
  | .bad => .bad
@[simp] theorem allK_0 {es : List E} {k : Bool} : allK ft es (.ok (.imm (.bool k)) s) = if k = true then evAll ft es s else .ok false s := rfl
@[simp] theorem x_all0 : evAll ft [] s = .ok true s := by rw [evAll]
@[simp] theorem x_all {e : E} {es : List E} : evAll ft (e :: es) s = allK ft es (evE ft e s) := by
  rw [evAll]
  cases evE ft e s with
  | ok v s1 =>
    rw [bind_ok]
    cases v with
    | ol xs => rfl
    | imm d =>
      cases d with
      | bool k => cases k <;> rfl
      | _ => rfl
  | exc c d s1 => rfl
  | bad => rfl
@[simp] theorem ite_okB {c : Prop} [Decidable c] : (if c then R.ok true s else R.ok false s) = R.ok (decide c) s := by by_cases h : c <;> simp [h]
def popJ (i : Nat) (s : Sl) (xs : List OV) (n : Nat) : Option OV → R OV
  | some (.ol ys) => match ys.getLast? with
    | some v => .ok v (s.set i (some (.ol (xs.set n (.ol ys.dropLast)))))
    | none => .bad
  | _ => .bad
def popH (i : Nat) (s : Sl) : D → Option OV → R OV
  | .int j, some (.ol xs) => match L2.ixN xs.length j with
    | some n => popJ i s xs n xs[n]?
    | none => .bad
  | _, _ => .bad
def popK (i : Nat) : R OV → R OV
  | .ok v s => popH i s v.toD (at_ s i)
  | .exc c d s => .exc c d s
  | .bad => .bad
@[simp] theorem popK_0 {i : Nat} {v : OV} : popK i (.ok v s) = popH i s v.toD (at_ s i) := rfl
def popG (i : Nat) (ft : FT) (k : E) (s : Sl) : Option OV → R OV
  | some (.ol _) => popK i (evE ft k s)
  | _ => .bad
@[simp] theorem popG_0 {i : Nat} {k : E} {xs : List OV} : popG i ft k s (some (.ol xs)) = popK i (evE ft k s) := rfl
@[simp] theorem popH_0 {i : Nat} {x : OV} {r : List OV} : popH i s (.int 0) (some (.ol (x :: r))) = popJ i s (x :: r) 0 (some x) := by
  show (match L2.ixN (x :: r).length 0 with
    | some n => popJ i s (x :: r) n (x :: r)[n]?
    | none => .bad) = _
  have : L2.ixN (x :: r).length 0 = some 0 := by unfold L2.ixN; rw [if_pos (by omega), if_pos (by rw [List.length_cons]; omega)]; rfl
  rw [this]
  rfl
@[simp] theorem x_popk {i : Nat} {k : E} : evE ft (.popk i k) s = popG i ft k s (at_ s i) := by
  rw [evE]
  cases at_ s i with
  | none => rfl
  | some ov =>
    cases ov with
    | imm d => rfl
    | ol ys =>
      show ((evE ft k s).d.bind _) = popK i (evE ft k s)
      cases evE ft k s with
      | exc c d s1 => rfl
      | bad => rfl
      | ok v s1 =>
        rw [d_ok, bind_ok, popK_0]
        cases v.toD with
        | int j =>
          cases at_ s1 i with
          | none => rfl
          | some ov =>
            cases ov with
            | imm d => rfl
            | ol xs =>
              show _ = (match L2.ixN xs.length j with
                | some n => popJ i s1 xs n xs[n]?
                | none => .bad)
              simp only []
              cases L2.ixN xs.length j with
              | none => rfl
              | some n =>
                show _ = popJ i s1 xs n xs[n]?
                simp only []
                cases xs[n]? with
                | none => rfl
                | some ov => cases ov <;> rfl
        | _ => rfl
def apkJ (i : Nat) (xs : List OV) (n : Nat) (ys : List OV) : R OV → R Fl
  | .ok v s => if ys.length < lim then .ok .nx (s.set i (some (.ol (xs.set n (.ol (ys ++ [v])))))) else .bad
  | .exc c d s => .exc c d s
  | .bad => .bad
@[simp] theorem apkJ_0 {i n : Nat} {xs ys : List OV} {v : OV} : apkJ i xs n ys (.ok v s) = if ys.length < lim then .ok .nx (s.set i (some (.ol (xs.set n (.ol (ys ++ [v])))))) else .bad := rfl
theorem y_appk0 {i : Nat} {e : E} {ys r : List OV} (h : at_ s i = some (.ol (.ol ys :: r))) : evS wf ft (.appk i (.lit (.int 0)) e) s = apkJ i (.ol ys :: r) 0 ys (evE ft e (s.set i none)) := by
  rw [evS, h]
  show ((evE ft (.lit (.int 0)) s).d.bind _) = _
  rw [x_lit, d_ok, bind_ok, toD_imm, h]
  have : L2.ixN (OV.ol ys :: r).length 0 = some 0 := by unfold L2.ixN; rw [if_pos (by omega), if_pos (by rw [List.length_cons]; omega)]; rfl
  show (match L2.ixN (OV.ol ys :: r).length 0 with
    | some n => _
    | none => _) = _
  rw [this]
  show ((evE ft e (s.set i none)).bind _) = _
  cases evE ft e (s.set i none) <;> rfl
def whC (ft : FT) (c : E) (s : Sl) : R Bool := match evE ft c s with
  | .ok (.imm (.bool b)) s => .ok b s
  | .ok _ _ => .bad
  | .exc c d s => .exc c d s
  | .bad => .bad
theorem whC_of {c : E} {b : Bool} {s s1 : Sl} (h : evE ft c s = .ok (.imm (.bool b)) s1) : whC ft c s = .ok b s1 := by unfold whC; rw [h]
/-- a while, kept closed -/
def whL (wf : Nat) (ft : FT) (c : E) (body : List PV.St) (ks : List Nat) (n : Nat) (s : Sl) : R Fl := loopW ks (whC ft c) (fun s => evB wf ft body s) n s
@[simp] theorem y_while {c : E} {body : List PV.St} {ks : List Nat} : evS wf ft (.while_ c body ks) s = whL wf ft c body ks wf s := by
  rw [evS]
  unfold whL
  congr 1
  funext s
  unfold whC
  cases evE ft c s with
  | ok v s1 => rw [bind_ok]; cases v with
    | ol xs => rfl
    | imm d => cases d with
      | bool b => cases b <;> rfl
      | _ => rfl
  | exc c d s1 => rfl
  | bad => rfl
theorem loopW_T {ks : List Nat} {cond : Sl → R Bool} {body : Sl → R Fl} {n : Nat} {s1 s2 : Sl} (h : cond s = .ok true s1) (k : body s1 = .ok .nx s2) : loopW ks cond body (n + 1) s = loopW ks cond body n (clear ks s2) := by
  rw [loopW, h, bind_ok, if_pos rfl, k, bind_ok]
theorem loopW_F {ks : List Nat} {cond : Sl → R Bool} {body : Sl → R Fl} {n : Nat} {s1 : Sl} (h : cond s = .ok false s1) : loopW ks cond body (n + 1) s = .ok .nx s1 := by
  rw [loopW, h, bind_ok]; rfl
end
/-! ### rows of numbers -/
/-- whole numbers as a row of our own -/
def oI (l : List Int) : List OV := l.map fun i => .imm (.int i)
def dI (l : List Int) : List D := l.map .int
@[simp] theorem oI_nil : oI [] = [] := rfl
@[simp] theorem dI_nil : dI [] = [] := rfl
@[simp] theorem oI_cons {x : Int} {l : List Int} : oI (x :: l) = .imm (.int x) :: oI l := rfl
@[simp] theorem dI_cons {x : Int} {l : List Int} : dI (x :: l) = .int x :: dI l := rfl
@[simp] theorem oI_len {l : List Int} : (oI l).length = l.length := List.length_map ..
@[simp] theorem dI_len {l : List Int} : (dI l).length = l.length := List.length_map ..
theorem oI_app {l m : List Int} : oI (l ++ m) = oI l ++ oI m := List.map_append
theorem dI_app {l m : List Int} : dI (l ++ m) = dI l ++ dI m := List.map_append
theorem dI_take {l : List Int} {k : Nat} : (dI l).take k = dI (l.take k) := List.map_take.symm
theorem dI_drop {l : List Int} {k : Nat} : (dI l).drop k = dI (l.drop k) := List.map_drop.symm
theorem dI_rev {l : List Int} : (dI l).reverse = dI l.reverse := List.map_reverse.symm
@[simp] theorem immAll_oI : ∀ l : List Int, OV.immAll (oI l) = some (dI l) := immAll_oT (α := Int)
@[simp] theorem toDs_oI : ∀ l : List Int, OV.toDs (oI l) = dI l := toDs_oT (α := Int)
@[simp] theorem nl_dI (l : List Int) : nl (dI l) = .ol (oI l) := by
  unfold nl dI
  rw [List.map_map]; rfl
@[simp] theorem intsOf_dI : ∀ l : List Int, intsOf (dI l) = some l
  | [] => rfl
  | x :: l => by show (intsOf (dI l)).map (x :: ·) = _; rw [intsOf_dI l]; rfl
theorem shaped_ints (l : List Int) : SeqAt.shaped (.list (dI l)) = true := shaped_dt (α := List Int) l (by decide)
theorem shaped_intsT (l : List Int) : SeqAt.shaped (.tuple (dI l)) = true := shaped_dt (α := PySem.W.Tup Int) ⟨l⟩ (by decide)
theorem ne_nilI (l : List Int) : semC .ne (.list (dI l)) (.list []) = some (.imm (.bool (decide (l ≠ [])))) := by
  unfold semC
  rw [c_ne]
  have e : eqOk (.list (dI l)) (.list []) = true := by unfold eqOk; rw [shaped_ints l, show SeqAt.shaped (.list []) = true from shaped_ints []]; rfl
  rw [if_pos e]
  cases l with
  | nil => rfl
  | cons x l => rfl
theorem cut_to {α : Type} (xs : List α) (k : Nat) : cut xs none (some (k : Int)) = xs.take k := by
  unfold cut
  rw [HT.sIx_none, HT.sIx_nat, List.drop_zero, Nat.sub_zero]
  rcases Nat.le_total k xs.length with h | h
  · rw [Nat.min_eq_left h]
  · rw [Nat.min_eq_right h, List.take_of_length_le (Nat.le_refl _), List.take_of_length_le h]
theorem cut_from {α : Type} (xs : List α) (k : Nat) : cut xs (some (k : Int)) none = xs.drop k := by
  unfold cut
  rw [HT.sIx_none, HT.sIx_nat]
  rcases Nat.le_total k xs.length with h | h
  · rw [Nat.min_eq_left h, List.take_of_length_le (by rw [List.length_drop]; exact Nat.le_refl _)]
  · rw [Nat.min_eq_right h, List.drop_of_length_le (Nat.le_refl _), List.drop_of_length_le h, List.take_nil]
theorem atI_lastI (x : Int) (r : List Int) : L2.atI (dI (x :: r).reverse) (-1) = some (.int x) := by
  rw [atI_last (by unfold dI; simp)]
  unfold dI
  rw [List.reverse_cons, List.map_append, List.map_cons, List.map_nil, List.getLast?_append]
  rfl
/-! ### walks -/
section
variable {ft : FT} {wf : Nat} {s : Sl} {α β : Type}
theorem cmpL_nm {i : Nat} {cs : List E} {e : E} {α : Type} (g : α → D) (c : α → Bool) (e' : α → OV) {s : Sl} (xs : List α) (hs : s.set i none = s)
    (hc : ∀ x ∈ xs, evAll ft cs (s.set i (some (.imm (g x)))) = .ok (c x) (s.set i (some (.imm (g x)))))
    (he : ∀ x ∈ xs, c x = true → ∃ s3, evE ft e (s.set i (some (.imm (g x)))) = .ok (e' x) s3 ∧ s3.set i none = s) (hl : xs.length ≤ lim) :
    cmpL ft (.nm i) cs e (xs.map g) s = .ok ((xs.filter c).map e') s := by
  unfold cmpL
  have := loopC_map (ks := [i]) (bd := Tgt.bind (.nm i)) (cond := fun s => evAll ft cs s) (elt := fun s => evE ft e s) g c e' s xs [] (by
    intro x hx
    refine ⟨_, tb_nm, fun h => ?_, fun h => ⟨_, (hc x hx).trans (by rw [h]), ?_⟩⟩
    · obtain ⟨s3, h1, h2⟩ := he x hx h
      exact ⟨_, s3, (hc x hx).trans (by rw [h]), h1, h2⟩
    · show (s.set i _).set i none = s
      rw [List.set_set, hs]) (by rw [List.length_nil, Nat.zero_add]; exact hl)
  exact this
@[simp] theorem forL_nil {t : Tgt} {body : List PV.St} {ks : List Nat} : forL wf ft t body ks [] s = .ok .nx s := rfl
theorem forL_cons {t : Tgt} {body : List PV.St} {ks : List Nat} {d : D} {ds : List D} {s1 s2 : Sl} (h1 : Tgt.bind t d s = some s1) (h2 : evB wf ft body s1 = .ok .nx s2) : forL wf ft t body ks (d :: ds) s = forL wf ft t body ks ds (clear ks s2) := loopF_step h1 h2
end
/-! ### ranges -/
def intsL (lo : Int) : Nat → List Int
  | 0 => []
  | n + 1 => lo :: intsL (lo + 1) n
theorem intsD_dI : ∀ (n : Nat) (lo : Int), intsD lo n = dI (intsL lo n)
  | 0, _ => rfl
  | n + 1, lo => by rw [intsD, intsD_dI n]; rfl
@[simp] theorem intsL_len : ∀ (n : Nat) (lo : Int), (intsL lo n).length = n
  | 0, _ => rfl
  | n + 1, lo => by rw [intsL, List.length_cons, intsL_len n]
theorem intsL_mem : ∀ (n : Nat) (lo x : Int), x ∈ intsL lo n ↔ lo ≤ x ∧ x < lo + n
  | 0, lo, x => by simp [intsL] <;> omega
  | n + 1, lo, x => by rw [intsL, List.mem_cons, intsL_mem n]; omega
theorem range_of {a b : Int} (ha : 0 ≤ a) (ha' : a < 1000000000) (hb : 0 ≤ b + 1) (hb' : b < 1000000000) : rangeD [.int a, .int b] = some (dI (intsL a (b - a).toNat)) := by
  have e : rangeD [.int a, .int b] = if (small62 a && small62 b) = true then some (intsD a (b - a).toNat) else none := rfl
  have q : (small62 a && small62 b) = true := by unfold small62; simp; omega
  rw [e, if_pos q, intsD_dI]
theorem range_one {b : Int} (hb : 0 ≤ b + 1) (hb' : b < 1000000000) : rangeD [.int b] = some (dI (intsL 0 b.toNat)) := by
  have e : rangeD [.int b] = if small62 b = true then some (intsD 0 b.toNat) else none := rfl
  have q : small62 b = true := by unfold small62; simp; omega
  rw [e, if_pos q, intsD_dI]
/-! ### rows of rows of numbers -/
def dT (l : List Int) : D := .tuple (dI l)
def oR (l : List (List Int)) : List OV := l.map fun r => .imm (dT r)
def dR (l : List (List Int)) : List D := l.map dT
@[simp] theorem oR_nil : oR [] = [] := rfl
@[simp] theorem dR_nil : dR [] = [] := rfl
@[simp] theorem dR_cons {x : List Int} {l : List (List Int)} : dR (x :: l) = dT x :: dR l := rfl
@[simp] theorem oR_len {l : List (List Int)} : (oR l).length = l.length := List.length_map ..
@[simp] theorem dR_len {l : List (List Int)} : (dR l).length = l.length := List.length_map ..
theorem oR_app {l m : List (List Int)} : oR (l ++ m) = oR l ++ oR m := List.map_append
@[simp] theorem immAll_oR : ∀ l : List (List Int), OV.immAll (oR l) = some (dR l)
  | [] => rfl
  | x :: l => by show (OV.immAll (oR l)).map _ = _; rw [immAll_oR l]; rfl
@[simp] theorem toDs_oR : ∀ l : List (List Int), OV.toDs (oR l) = dR l
  | [] => by simp
  | x :: l => by show OV.toDs (.imm (dT x) :: oR l) = _; rw [toDs_cons, toDs_oR l]; simp
@[simp] theorem nl_dR (l : List (List Int)) : nl (dR l) = .ol (oR l) := by
  unfold nl dR
  rw [List.map_map]; rfl
end PX
end
section
set_option Elab.async false
set_option linter.all false
set_option maxRecDepth 100000
set_option maxHeartbeats 1000000
/-! PxU: the laws' source of draws (_law_source, _law_any, _law_of), as it stands in many laws. -/
namespace PX
open PySem PV
def srcB : List PV.St := [(.set 2 (.op2 .mod (.blt .int [(.op2 .add (.op2 .add (.op2 .mul (.pk 2) (.lit (.int 16807))) (.op2 .mod (.pk 3) (.lit (.int 2147483543)))) (.lit (.int 37)))]) (.lit (.int 2147483629))))]
def srcF (seed : Int) : Fn := ⟨1, 4, [], [
  (.set 1 (.comp (.nm 3) .seq [(.slc (.pk 0) none (some (.lit (.int 48))))] [] (.blt .abs [(.blt .int [(.pk 3)])]))),
  (.set 2 (.lit (.int seed))),
  (.for_ (.nm 3) .seq [(.var 1)] srcB []),
  (.ret (.lst [(.rev (.comp (.nm 3) .seq [(.var 1)] [(.cmp .ge (.pk 3) (.op2 .pow (.lit (.int 10)) (.lit (.int 18))))] (.var 3))), (.var 2)]))]⟩
def anyB : List PV.St := [(.expr (.popk 0 (.lit (.int 0))))]
def anyF : Fn := ⟨2, 3, [0], [
  (.while_ (.and_ (.cmp .ne (.ixk 0 (.lit (.int 0))) (.lst [])) (.cmp .eq (.ix (.ixk 0 (.lit (.int 0))) (.neg (.lit (.int 1)))) (.lit (.int 0)))) anyB []),
  (.ifs (.cmp .ne (.ixk 0 (.lit (.int 0))) (.lst [])) [(.set 2 (.blt .int [(.popk 0 (.lit (.int 0)))])), (.appk 0 (.lit (.int 0)) (.op2 .fdiv (.pk 2) (.pk 1))), (.ret (.op2 .mod (.pk 2) (.pk 1)))] []),
  (.setix 0 (.lit (.int 1)) (.op2 .mod (.blt .int [(.op2 .add (.op2 .mul (.ixk 0 (.lit (.int 1))) (.lit (.int 69621))) (.lit (.int 311)))]) (.lit (.int 2147483629)))),
  (.ret (.op2 .mod (.blt .int [(.op2 .fdiv (.ixk 0 (.lit (.int 1))) (.lit (.int 64)))]) (.pk 1)))]⟩
def ofF (k : Nat) : Fn := ⟨2, 2, [0], [
  (.ret (.ix (.var 1) (.call k [(.io 0), (.blt .len [(.pk 1)])] [0, 1])))]⟩
/-- a source: the great cells left (the next first), the mixed number -/
def srcV (r : List Int) (m : Int) : OV := .ol [.ol (oI r.reverse), .imm (.int m)]
def SrcOk (v : OV) : Prop := ∃ r m, v = srcV r m ∧ r.length ≤ 48 ∧ 0 ≤ m ∧ m < 2147483648
theorem okM {i j : Int} (h : i.natAbs < 2 ^ 63) (k : j.natAbs < 2 ^ 63) : okMul i j = true := by
  have q : ∀ n : Nat, n < 2 ^ 63 → n.log2 < 400000 := by
    intro n hn
    by_cases hz : n = 0
    · rw [hz]; decide
    · exact Nat.lt_trans ((Nat.log2_lt (k := 63) hz).mpr hn) (by decide)
  unfold okMul
  rw [decide_eq_true (q _ h), decide_eq_true (q _ k)]
  rfl
section
variable {ft : FT} {wf : Nat} {s : Sl} {α β : Type}
def mixA (m c : Int) : Int := (m * 16807 + c % 2147483543 + 37) % 2147483629
theorem mixA_b (m c : Int) : 0 ≤ mixA m c ∧ mixA m c < 2147483648 := ⟨Int.emod_nonneg _ (by decide), Int.lt_trans (Int.emod_lt_of_pos _ (by decide)) (by decide)⟩
theorem src_step (a b x : Option OV) (m c : Int) (h : 0 ≤ m ∧ m < 2147483648) : evB wf ft srcB [a, b, some (.imm (.int m)), some (.imm (.int c))] = .ok .nx [a, b, some (.imm (.int (mixA m c))), some (.imm (.int c))] := by
  have e : okMul m 16807 = true := okM (by omega) (by decide)
  simp [srcB, e, mixA]
theorem src_loop (a b : Option OV) : ∀ (cs : List Int) (m : Int) (x : Option OV), 0 ≤ m ∧ m < 2147483648 → ∃ m' x', 0 ≤ m' ∧ m' < 2147483648 ∧ loopF [] (Tgt.bind (.nm 3)) (fun s => evB wf ft srcB s) (dI cs) [a, b, some (.imm (.int m)), x] = .ok .nx [a, b, some (.imm (.int m')), x']
  | [], m, x, h => ⟨m, x, h.1, h.2, rfl⟩
  | c :: cs, m, x, h => by
    obtain ⟨m', x', h1, h2, h3⟩ := src_loop a b cs (mixA m c) (some (.imm (.int c))) (mixA_b m c)
    refine ⟨m', x', h1, h2, ?_⟩
    rw [← h3, dI, List.map_cons, loopF_step (s1 := [a, b, some (.imm (.int m)), some (.imm (.int c))]) (tb_nm.trans rfl) (src_step a b x m c h)]
    rfl
theorem src_fin (seed : Int) (hs : 0 ≤ seed ∧ seed < 2147483648) (ns : List Int) (hn : ns.length ≤ 63) : ∃ v, SrcOk v ∧ (evB wf ft (srcF seed).body [some (.imm (.list (dI ns))), none, none, none]).fin [] = .ok v [] := by
  let ab (i : Int) : Int := if i < 0 then -i else i
  have hts : (ns.take 48).length ≤ 48 := by rw [List.length_take]; omega
  have e1 : loopC [3] (Tgt.bind (.nm 3)) (fun s => evAll ft [] s) (fun s => evE ft (.blt .abs [(.blt .int [(.pk 3)])]) s) (dI (ns.take 48)) [some (.imm (.list (dI ns))), none, none, none] [] = .ok (oI ((ns.take 48).map ab)) [some (.imm (.list (dI ns))), none, none, none] := by
    generalize ns.take 48 = ts at hts ⊢
    have := loopC_map (ks := [3]) (bd := Tgt.bind (.nm 3)) (cond := fun s => evAll ft [] s) (elt := fun s => evE ft (.blt .abs [(.blt .int [(.pk 3)])]) s) (fun i : Int => PyData.int i) (fun _ => true) (fun i => .imm (.int (ab i))) [some (.imm (.list (dI ns))), none, none, none] ts [] (by
      intro x _
      refine ⟨[some (.imm (.list (dI ns))), none, none, some (.imm (.int x))], tb_nm.trans rfl, fun _ => ⟨_, [some (.imm (.list (dI ns))), none, none, some (.imm (.int x))], x_all0, ?_, rfl⟩, fun h => nomatch h⟩
      simp [ab]) (by rw [List.length_nil, Nat.zero_add]; exact Nat.le_trans hts (by decide))
    rw [show dI ts = ts.map (fun i => PyData.int i) from rfl, this, List.filter_eq_self.mpr (fun _ _ => rfl), List.nil_append]
    unfold oI
    rw [List.map_map]; rfl
  obtain ⟨m', x', h1, h2, h3⟩ := src_loop (wf := wf) (ft := ft) (some (.imm (.list (dI ns)))) (some (.imm (.list (dI ((ns.take 48).map ab))))) ((ns.take 48).map ab) seed none hs
  have e2 : loopC [3] (Tgt.bind (.nm 3)) (fun s => evAll ft [(.cmp .ge (.pk 3) (.op2 .pow (.lit (.int 10)) (.lit (.int 18))))] s) (fun s => evE ft (.var 3) s) (dI ((ns.take 48).map ab)) [some (.imm (.list (dI ns))), some (.imm (.list (dI ((ns.take 48).map ab)))), some (.imm (.int m')), none] [] = .ok (oI (((ns.take 48).map ab).filter fun i => decide (10 ^ 18 ≤ i))) [some (.imm (.list (dI ns))), some (.imm (.list (dI ((ns.take 48).map ab)))), some (.imm (.int m')), none] := by
    have := loopC_map (ks := [3]) (bd := Tgt.bind (.nm 3)) (cond := fun s => evAll ft [(.cmp .ge (.pk 3) (.op2 .pow (.lit (.int 10)) (.lit (.int 18))))] s) (elt := fun s => evE ft (.var 3) s) (fun i : Int => PyData.int i) (fun i => decide (10 ^ 18 ≤ i)) (fun i => .imm (.int i)) [some (.imm (.list (dI ns))), some (.imm (.list (dI ((ns.take 48).map ab)))), some (.imm (.int m')), none] ((ns.take 48).map ab) [] (by
      intro x _
      have z : ∀ d : Bool, decide (10 ^ 18 ≤ x) = d → evAll ft [(.cmp .ge (.pk 3) (.op2 .pow (.lit (.int 10)) (.lit (.int 18))))] [some (.imm (.list (dI ns))), some (.imm (.list (dI ((ns.take 48).map ab)))), some (.imm (.int m')), some (.imm (.int x))] = .ok d [some (.imm (.list (dI ns))), some (.imm (.list (dI ((ns.take 48).map ab)))), some (.imm (.int m')), some (.imm (.int x))] := by
        intro d h
        simp only [x_all, x_cmp, x_pk, at_zero, at_succ, pkK_0, shal_imm, Option.map_some, ofO_some, bin1_0, x_op2, x_lit, bin2_0, toD_imm, o_pow]
        rw [if_pos (by decide), ofO_some, bin2_0, toD_imm, ge_ints, ofO_some, allK_0, show ((10 : Int) ^ (18 : Int).toNat) = 10 ^ 18 from rfl, h]
        cases d <;> simp
      refine ⟨[some (.imm (.list (dI ns))), some (.imm (.list (dI ((ns.take 48).map ab)))), some (.imm (.int m')), some (.imm (.int x))], tb_nm.trans rfl, fun h => ⟨_, [some (.imm (.list (dI ns))), some (.imm (.list (dI ((ns.take 48).map ab)))), some (.imm (.int m')), some (.imm (.int x))], z _ h, ?_, rfl⟩, fun h => ⟨_, z _ h, rfl⟩⟩
      simp) (by rw [List.length_nil, Nat.zero_add, List.length_map]; exact Nat.le_trans hts (by decide))
    exact this
  refine ⟨srcV (((ns.take 48).map ab).filter fun i => decide (10 ^ 18 ≤ i)) m', ⟨_, m', rfl, ?_, h1, h2⟩, ?_⟩
  · exact Nat.le_trans (List.length_filter_le _ _) (by simp; omega)
  · have e1' := e1; have e2' := e2; have h3' := h3
    change cmpL ft (.nm 3) [] (.blt .abs [(.blt .int [(.pk 3)])]) _ _ = _ at e1'
    change cmpL ft (.nm 3) [(.cmp .ge (.pk 3) (.op2 .pow (.lit (.int 10)) (.lit (.int 18))))] (.var 3) _ _ = _ at e2'
    change forL wf ft (.nm 3) srcB [] _ _ = _ at h3'
    have ec : cut (dI ns) none (some 48) = dI (ns.take 48) := by
      rw [show (48 : Int) = ((48 : Nat) : Int) from rfl, cut_to]
      exact dI_take
    clear e1 e2 h3
    generalize (ns.take 48).map ab = us at *
    generalize ns.take 48 = ts at *
    simp [srcF, slcD, ec, e1', h3', e2', semR]
    rw [dI_rev, nl_dI]
    rfl
theorem ne_nilR (x : Int) (r : List Int) : semC .ne (.list (dI (r.reverse ++ [x]))) (.list []) = some (.imm (.bool true)) := by
  rw [ne_nilI]; simp
theorem eq_lastI (x : Int) (r : List Int) : semI (.list (dI (r.reverse ++ [x]))) (.int (-1)) = some (.imm (.int x)) := by
  unfold semI
  rw [ix_l]
  have := atI_lastI x r
  rw [List.reverse_cons] at this
  rw [this]; rfl
theorem popJ_R {i : Nat} {s : Sl} {x : Int} {r : List Int} {y : OV} : popJ i s [.ol (oI (r.reverse ++ [x])), y] 0 (some (.ol (oI (r.reverse ++ [x])))) = .ok (.imm (.int x)) (s.set i (some (.ol [.ol (oI r.reverse), y]))) := by
  rw [oI_app]
  show (match (oI r.reverse ++ [OV.imm (.int x)]).getLast? with
    | some v => R.ok v (s.set i (some (OV.ol ([OV.ol (oI r.reverse ++ [OV.imm (.int x)]), y].set 0 (OV.ol (oI r.reverse ++ [OV.imm (.int x)]).dropLast)))))
    | none => .bad) = _
  rw [List.getLast?_append, List.dropLast_concat]
  rfl
theorem any_while (b : OV) : ∀ (r : List Int) (m : Int) (n : Nat), r.length < n → ∃ r', r'.length ≤ r.length ∧ (∀ x t, r' = x :: t → x ≠ 0) ∧ whL wf ft (.and_ (.cmp .ne (.ixk 0 (.lit (.int 0))) (.lst [])) (.cmp .eq (.ix (.ixk 0 (.lit (.int 0))) (.neg (.lit (.int 1)))) (.lit (.int 0)))) anyB [] n [some (srcV r m), some b, none] = .ok .nx [some (srcV r' m), some b, none]
  | [], m, 0, h => absurd h (Nat.not_lt_zero _)
  | [], m, n + 1, h => by
    refine ⟨[], Nat.le_refl _, (fun _ _ h => nomatch h), ?_⟩
    unfold whL
    refine loopW_F (whC_of ?_)
    have := ne_nilI []
    simp at this
    simp [srcV, L2.atI, L2.ixN, this]
  | x :: r, m, 0, h => absurd h (Nat.not_lt_zero _)
  | x :: r, m, n + 1, h => by
    by_cases hx : x = 0
    · obtain ⟨r', h1, h2, h3⟩ := any_while b r m n (by rw [List.length_cons] at h; omega)
      refine ⟨r', by rw [List.length_cons]; omega, h2, ?_⟩
      rw [← h3]
      unfold whL
      refine loopW_T (s1 := [some (srcV (x :: r) m), some b, none]) (whC_of ?_) ?_
      · simp [srcV, L2.atI, L2.ixN, ne_nilR, eq_lastI, semN, hx]
      · simp [srcV, anyB, popJ_R]
    · refine ⟨x :: r, Nat.le_refl _, fun y t e => by cases e; exact hx, ?_⟩
      unfold whL
      refine loopW_F (whC_of ?_)
      simp [srcV, L2.atI, L2.ixN, ne_nilR, eq_lastI, semN, hx]
theorem any_fin (v : OV) (hv : SrcOk v) (b : Int) (hb : 0 < b ∧ b < 1073741824) (hw : 64 ≤ wf) : ∃ v' i, SrcOk v' ∧ 0 ≤ i ∧ i < b ∧ (evB wf ft anyF.body [some v, some (.imm (.int b)), none]).fin [0] = .ok (.imm (.int i)) [v'] := by
  obtain ⟨r, m, rfl, hr, m0, m1⟩ := hv
  obtain ⟨r', h1, h2, h3⟩ := any_while (ft := ft) (wf := wf) (.imm (.int b)) r m wf (by omega)
  cases r' with
  | nil =>
    have e : okMul m 69621 = true := okM (by omega) (by decide)
    have hm : 0 ≤ (m * 69621 + 311) % 2147483629 ∧ (m * 69621 + 311) % 2147483629 < 2147483648 := ⟨Int.emod_nonneg _ (by decide), Int.lt_trans (Int.emod_lt_of_pos _ (by decide)) (by decide)⟩
    refine ⟨srcV [] ((m * 69621 + 311) % 2147483629), (m * 69621 + 311) % 2147483629 / 64 % b, ⟨[], _, rfl, by decide, hm.1, hm.2⟩, Int.emod_nonneg _ (by omega), Int.emod_lt_of_pos _ hb.1, ?_⟩
    have q := ne_nilI []
    simp at q
    simp [anyF, h3]
    simp [srcV, L2.atI, L2.ixN, q, e, hb.1]
  | cons x t =>
    refine ⟨srcV ((x / b) :: t) m, x % b, ⟨_, _, rfl, by rw [List.length_cons] at h1 ⊢; omega, m0, m1⟩, Int.emod_nonneg _ (by omega), Int.emod_lt_of_pos _ hb.1, ?_⟩
    have hl : t.length < lim := by rw [List.length_cons] at h1; unfold lim; omega
    simp [anyF, h3]
    simp [srcV, L2.atI, L2.ixN, ne_nilR, popJ_R, hb.1, hb.2]
    rw [y_appk0 (ys := oI t.reverse) (r := [.imm (.int m)]) rfl]
    simp [hb.1, hb.2, hl, oI_app]
theorem of_fin {k : Nat} (v v' : OV) (ds : List D) (i : Nat) (hi : i < ds.length) (h : ft k [v, .imm (.int ds.length)] = .ok (.imm (.int i)) [v']) : (evB wf ft (ofF k).body [some v, some (.ol (ds.map .imm))]).fin [0] = .ok (.imm (ds[i]?.getD .none)) [v'] := by
  have e : semI (.list ds) (.int i) = some (.imm (ds[i]?.getD .none)) := by
    unfold semI
    rw [ix_l]
    unfold L2.atI L2.ixN
    rw [if_pos (by omega), if_pos (by omega), Int.toNat_natCast]
    show (ds[i]?).map OV.imm = _
    rw [List.getElem?_eq_getElem hi]; rfl
  simp [ofF, h, e]
end
end PX
end
section
set_option Elab.async false
set_option linter.all false
set_option maxRecDepth 100000
set_option maxHeartbeats 1000000
/-! k47, plain part 1: numbers asked for, the law's source of draws. -/
namespace Qk47
open PySem PV PX
abbrev rn (wf n : Nat) : FT := PV.run C.prog wf n
theorem F0 (wf n : Nat) (a : OV) : rn wf (n + 1) 0 [a] = (evB wf (rn wf n) f0.body [some a]).fin [] := rfl
theorem F1 (wf n : Nat) (a : OV) : rn wf (n + 1) 1 [a] = (evB wf (rn wf n) f1.body [some a]).fin [] := rfl
theorem F2 (wf n : Nat) (a : OV) : rn wf (n + 1) 2 [a] = (evB wf (rn wf n) f2.body [some a]).fin [] := rfl
theorem F3 (wf n : Nat) (a : OV) : rn wf (n + 1) 3 [a] = (evB wf (rn wf n) f3.body [some a]).fin [] := rfl
theorem F4 (wf n : Nat) (a b : OV) : rn wf (n + 1) 4 [a, b] = (evB wf (rn wf n) f4.body [some a, some b, none]).fin [] := rfl
theorem F5 (wf n : Nat) (a b c : OV) : rn wf (n + 1) 5 [a, b, c] = (evB wf (rn wf n) f5.body [some a, some b, some c]).fin [] := rfl
theorem F8 (wf n : Nat) (a : OV) : rn wf (n + 1) 8 [a] = (evB wf (rn wf n) f8.body [some a, none, none, none]).fin [] := rfl
theorem F9 (wf n : Nat) (a b : OV) : rn wf (n + 1) 9 [a, b] = (evB wf (rn wf n) f9.body [some a, some b, none]).fin [0] := rfl
theorem F10 (wf n : Nat) (a b : OV) : rn wf (n + 1) 10 [a, b] = (evB wf (rn wf n) f10.body [some a, some b]).fin [0] := rfl
@[simp] theorem r0 (wf n : Nat) (i : Int) : rn wf (n + 1) 0 [.imm (.int i)] = .ok (.imm (.bool true)) [] := by
  rw [F0]
  simp [f0, semT, noDictB, Ty.has]
@[simp] theorem r0n (wf n : Nat) : rn wf (n + 1) 0 [.imm .none] = .ok (.imm (.bool false)) [] := by
  rw [F0]
  simp [f0, semT, noDictB, Ty.has]
@[simp] theorem r0b (wf n : Nat) (b : Bool) : rn wf (n + 1) 0 [.imm (.bool b)] = .ok (.imm (.bool false)) [] := by
  rw [F0]
  simp [f0, semT, noDictB, Ty.has]
@[simp] theorem r0s (wf n : Nat) (b : Str) : rn wf (n + 1) 0 [.imm (.str b)] = .ok (.imm (.bool false)) [] := by
  rw [F0]
  simp [f0, semT, noDictB, Ty.has]
@[simp] theorem r1 (wf n : Nat) (i : Int) : rn wf (n + 2) 1 [.imm (.int i)] = .ok (.imm (.bool (decide (0 ≤ i)))) [] := by
  rw [F1]
  simp [f1]
@[simp] theorem r1n (wf n : Nat) : rn wf (n + 2) 1 [.imm .none] = .ok (.imm (.bool false)) [] := by
  rw [F1]
  simp [f1]
@[simp] theorem r1b (wf n : Nat) (b : Bool) : rn wf (n + 2) 1 [.imm (.bool b)] = .ok (.imm (.bool false)) [] := by
  rw [F1]
  simp [f1]
@[simp] theorem r1s (wf n : Nat) (b : Str) : rn wf (n + 2) 1 [.imm (.str b)] = .ok (.imm (.bool false)) [] := by
  rw [F1]
  simp [f1]
@[simp] theorem r5 (wf n : Nat) (i j k : Int) : rn wf (n + 3) 5 [.imm (.int i), .imm (.int j), .imm (.int k)] = if i < 0 ∨ i < j ∨ k < i then .exc 3 (.str "cells") [] else .ok (.imm (.int i)) [] := by
  rw [F5]
  simp [f5, seqK_ite, fin_ite]
@[simp] theorem r5n (wf n : Nat) (j k : Int) : rn wf (n + 3) 5 [.imm .none, .imm (.int j), .imm (.int k)] = .exc 3 (.str "cells") [] := by
  rw [F5]
  simp [f5, seqK_ite, fin_ite]
@[simp] theorem r5b (wf n : Nat) (b : Bool) (j k : Int) : rn wf (n + 3) 5 [.imm (.bool b), .imm (.int j), .imm (.int k)] = .exc 3 (.str "cells") [] := by
  rw [F5]
  simp [f5, seqK_ite, fin_ite]
@[simp] theorem r5s (wf n : Nat) (b : Str) (j k : Int) : rn wf (n + 3) 5 [.imm (.str b), .imm (.int j), .imm (.int k)] = .exc 3 (.str "cells") [] := by
  rw [F5]
  simp [f5, seqK_ite, fin_ite]
@[simp] theorem r3 (wf n : Nat) (i : Int) : rn wf (n + 3) 3 [.imm (.int i)] = if i < 0 ∨ i < 1 ∨ 8 < i then .exc 1 (.int (-1)) [] else .ok (.imm (.int i)) [] := by
  rw [F3]
  simp [f3, seqK_ite, fin_ite, semN]
@[simp] theorem r3n (wf n : Nat) : rn wf (n + 3) 3 [.imm .none] = .exc 1 (.int (-1)) [] := by
  rw [F3]
  simp [f3, seqK_ite, fin_ite, semN]
@[simp] theorem r3b (wf n : Nat) (b : Bool) : rn wf (n + 3) 3 [.imm (.bool b)] = .exc 1 (.int (-1)) [] := by
  rw [F3]
  simp [f3, seqK_ite, fin_ite, semN]
@[simp] theorem r2 (wf n : Nat) (i : Int) : rn wf (n + 3) 2 [.imm (.int i)] = if i < 0 ∨ i < 1 ∨ 5 < i then .exc 2 (.int (-1)) [] else .ok (.imm (.int i)) [] := by
  rw [F2]
  simp [f2, seqK_ite, fin_ite, semN]
@[simp] theorem r2n (wf n : Nat) : rn wf (n + 3) 2 [.imm .none] = .exc 2 (.int (-1)) [] := by
  rw [F2]
  simp [f2, seqK_ite, fin_ite, semN]
@[simp] theorem r2b (wf n : Nat) (b : Bool) : rn wf (n + 3) 2 [.imm (.bool b)] = .exc 2 (.int (-1)) [] := by
  rw [F2]
  simp [f2, seqK_ite, fin_ite, semN]
theorem r4 (wf n : Nat) (a b : Int) (g : Nat) (hg : Nat.gcd a.natAbs b.natAbs = g) (h : 0 < g) (k : g < 1073741824) : rn wf (n + 1) 4 [.imm (.int a), .imm (.int b)] = .ok (.imm (.tuple [.int (a / (g : Nat)), .int (b / (g : Nat))])) [] := by
  rw [F4]
  have h1 : (0 : Int) < (g : Nat) ∧ ((g : Nat) : Int) < 1073741824 := ⟨by omega, by omega⟩
  have e : semG (.int a) (.int b) = some (.imm (.int (g : Nat))) := by rw [← hg]; rfl
  simp [f4, e, h1, h]
/-! the source -/
theorem src_ok {wf n : Nat} (ns : List Int) (hn : ns.length ≤ 63) : ∃ v, SrcOk v ∧ rn wf (n + 1) 8 [.imm (.list (dI ns))] = .ok v [] := by
  obtain ⟨v, h1, h2⟩ := src_fin (ft := rn wf n) (wf := wf) 410047 (by decide) ns hn
  exact ⟨v, h1, by rw [F8]; exact h2⟩
theorem any_ok {wf n : Nat} (hw : 64 ≤ wf) {v : OV} (hv : SrcOk v) (b : Int) (hb : 0 < b ∧ b < 1073741824) : ∃ v' i, SrcOk v' ∧ 0 ≤ i ∧ i < b ∧ rn wf (n + 1) 9 [v, .imm (.int b)] = .ok (.imm (.int i)) [v'] := by
  obtain ⟨v', i, h1, h2, h3, h4⟩ := any_fin (ft := rn wf n) (wf := wf) v hv b hb hw
  exact ⟨v', i, h1, h2, h3, by rw [F9]; exact h4⟩
theorem of_ok {wf n : Nat} (hw : 64 ≤ wf) {v : OV} (hv : SrcOk v) (ds : List D) (hb : 0 < ds.length ∧ ds.length < 1073741824) : ∃ v' i, SrcOk v' ∧ i < ds.length ∧ rn wf (n + 2) 10 [v, .ol (ds.map .imm)] = .ok (.imm (ds[i]?.getD .none)) [v'] := by
  obtain ⟨v', i, h1, h2, h3, h4⟩ := any_ok (n := n) hw hv (ds.length : Int) (by omega)
  have e : i = (i.toNat : Int) := by omega
  rw [e] at h4
  refine ⟨v', i.toNat, h1, by omega, ?_⟩
  rw [F10]
  exact of_fin (wf := wf) v v' ds i.toNat (by omega) h4
end Qk47
end
section
set_option Elab.async false
set_option linter.all false
set_option maxRecDepth 100000
set_option maxHeartbeats 1000000
/-! k47, plain part 2: run_rows. -/
namespace Qk47
open PySem PV PX
theorem F6 (wf n : Nat) (a b c : OV) : rn wf (n + 1) 6 [a, b, c] = (evB wf (rn wf n) f6.body [some a, some b, some c, none, none, none, none, none, none]).fin [] := rfl
def fits (cells room left : Int) (row : List Int) (l : Int) : Bool := decide (left ≤ cells - row.sum - l) && decide (cells - row.sum - l ≤ left * room)
def grow (cells : Int) (room : Nat) (left : Int) (row : List Int) : List (List Int) := ((intsL 1 room).filter (fits cells room left row)).map fun l => row ++ [l]
theorem grow_len (cells : Int) (room : Nat) (left : Int) (row : List Int) : (grow cells room left row).length ≤ room := by
  unfold grow
  rw [List.length_map]
  exact Nat.le_trans (List.length_filter_le _ _) (by rw [intsL_len]; exact Nat.le_refl _)
theorem sum_dT (row : List Int) : BI.sem .sum [dT row] = some (.imm (.int row.sum)) := by
  show (intsOf (dI row)).map _ = _
  rw [intsOf_dI]; rfl
theorem row_step {ft : FT} {wf : Nat} (c m : OV) (cells : Int) (room : Nat) (hr : room ≤ 1000) (left : Int) (hl : left.natAbs < 1000) (v3 : Option OV) (acc : List (List Int)) (row : List Int) (hrow : row.length < 1000) (ha : acc.length + room ≤ lim) :
    evB wf ft f6b0 [some (.imm (.int cells)), some m, some (.imm (.int room)), v3, some (.imm (.int left)), some (.ol (oR acc)), some (.imm (dT row)), none, none]
      = .ok .nx [some (.imm (.int cells)), some m, some (.imm (.int room)), v3, some (.imm (.int left)), some (.ol (oR (acc ++ grow cells room left row))), some (.imm (dT row)), some (.imm (.int (cells - row.sum))), none] := by
  have e1 := range_of (a := 1) (b := (room : Int) + 1) (by omega) (by omega) (by omega) (by omega)
  rw [show ((room : Int) + 1 - 1).toNat = room by omega] at e1
  have e2 : okMul left (room : Int) = true := okM (by omega) (by omega)
  have e3 := cmpL_nm (ft := ft) (i := 8) (cs := [(.chn .le .le (.pk 4) (.op2 .sub (.pk 7) (.pk 8)) (.op2 .mul (.pk 4) (.pk 2)))]) (e := (.op2 .add (.pk 6) (.tup [(.var 8)]))) (fun l : Int => PyData.int l) (fits cells room left row) (fun l => .imm (dT (row ++ [l])))
    (s := [some (.imm (.int cells)), some m, some (.imm (.int room)), v3, some (.imm (.int left)), some (.ol (oR acc)), some (.imm (dT row)), some (.imm (.int (cells - row.sum))), none]) (intsL 1 room) rfl
    (fun l _ => by
      simp [e2, fits])
    (fun l _ _ => by
      have : row.length + 1 ≤ lim := by unfold lim; omega
      simp [dT, this, dI_app]) (by rw [intsL_len]; unfold lim; omega)
  have e4 : (((intsL 1 room).filter (fits cells room left row)).map fun l => OV.imm (dT (row ++ [l]))) = oR (grow cells room left row) := by
    unfold oR grow
    rw [List.map_map]; rfl
  rw [e4] at e3
  have e5 : acc.length + (grow cells room left row).length ≤ lim := Nat.le_trans (Nat.add_le_add_left (grow_len ..) _) ha
  change cmpL ft _ _ _ (dI (intsL 1 room)) _ = _ at e3
  simp [f6b0, sum_dT, e1, e3, e5, oR_app]
theorem rows_inner {ft : FT} {wf : Nat} (c m : OV) (cells : Int) (room : Nat) (hr : room ≤ 1000) (left : Int) (hl : left.natAbs < 1000) (v3 : Option OV) : ∀ (rows acc : List (List Int)), (∀ r ∈ rows, r.length < 1000) → acc.length + rows.length * room ≤ lim →
    forL wf ft (.nm 6) f6b0 [6, 7] (dR rows) [some (.imm (.int cells)), some m, some (.imm (.int room)), v3, some (.imm (.int left)), some (.ol (oR acc)), none, none, none]
      = .ok .nx [some (.imm (.int cells)), some m, some (.imm (.int room)), v3, some (.imm (.int left)), some (.ol (oR (acc ++ rows.flatMap (grow cells room left)))), none, none, none]
  | [], acc, _, _ => by simp
  | r :: rows, acc, h, hl' => by
    rw [List.length_cons, Nat.add_mul, Nat.one_mul] at hl'
    rw [dR_cons, forL_cons (tb_nm.trans rfl) (row_step c m cells room hr left hl v3 acc r (h r (by simp)) (by omega))]
    have := rows_inner (ft := ft) (wf := wf) c m cells room hr left hl v3 rows (acc ++ grow cells room left r) (fun x hx => h x (by simp [hx])) (by
      rw [List.length_append]
      have := grow_len cells room left r
      omega)
    rw [List.flatMap_cons, ← List.append_assoc]
    exact this
theorem rows_step {ft : FT} {wf : Nat} (m : OV) (cells : Int) (room : Nat) (hr : room ≤ 1000) (left : Int) (hl : left.natAbs < 1000) (v3 : OV) (rows : List (List Int)) (h3 : v3.toD = .list (dR rows)) (h : ∀ r ∈ rows, r.length < 1000) (hl' : rows.length * room ≤ lim) :
    evB wf ft f6b1 [some (.imm (.int cells)), some m, some (.imm (.int room)), some v3, some (.imm (.int left)), none, none, none, none]
      = .ok .nx [some (.imm (.int cells)), some m, some (.imm (.int room)), some (.imm (.list (dR (rows.flatMap (grow cells room left))))), some (.imm (.int left)), some (.imm (.list (dR (rows.flatMap (grow cells room left))))), none, none, none] := by
  have e := rows_inner (ft := ft) (wf := wf) m m cells room hr left hl (some (.imm (.list (dR rows)))) rows [] h (by simpa using hl')
  simp at e
  simp [f6b1, h3, e]
def rowsN (cells : Int) (room : Nat) : Nat → List (List Int) → List (List Int)
  | 0, rows => rows
  | k + 1, rows => rowsN cells room k (rows.flatMap (grow cells room k))
theorem flat_len {α β : Type} (f : α → List β) (n : Nat) (h : ∀ x, (f x).length ≤ n) : ∀ l : List α, (l.flatMap f).length ≤ l.length * n
  | [] => by simp
  | x :: l => by
    rw [List.flatMap_cons, List.length_append, List.length_cons, Nat.add_mul, Nat.one_mul]
    have := h x
    have := flat_len f n h l
    omega
theorem rows_outer {ft : FT} {wf : Nat} (m : OV) (cells : Int) (room : Nat) (hr : room ≤ 1000) : ∀ (k : Nat) (v3 : OV) (rows : List (List Int)), v3.toD = .list (dR rows) → (∀ r ∈ rows, r.length + k < 1000) → rows.length * room ^ k ≤ lim → 0 < room → k < 1000 →
    ∃ v', (k ≠ 0 → v' = .imm (.list (dR (rowsN cells room k rows)))) ∧ forL wf ft (.nm 4) f6b1 [4, 5, 6, 7] (downD ((k : Int) - 1) k) [some (.imm (.int cells)), some m, some (.imm (.int room)), some v3, none, none, none, none, none]
      = .ok .nx [some (.imm (.int cells)), some m, some (.imm (.int room)), some v', none, none, none, none, none]
  | 0, v3, rows, _, _, _, _, _ => ⟨v3, fun h => absurd rfl h, rfl⟩
  | k + 1, v3, rows, h3, h, hl, h0, hk => by
    have hp : 0 < room ^ k := Nat.pow_pos h0
    rw [Nat.pow_succ, ← Nat.mul_assoc] at hl
    have q1 : rows.length * room ≤ lim := Nat.le_trans (by
      rw [Nat.mul_assoc, Nat.mul_comm (room ^ k) room, ← Nat.mul_assoc]
      exact Nat.le_mul_of_pos_right _ hp) hl
    rw [show ((k + 1 : Nat) : Int) - 1 = (k : Int) by omega, downD]
    have e := rows_step (ft := ft) (wf := wf) m cells room hr (k : Int) (by omega) v3 rows h3 (fun r hr => by have := h r hr; omega) q1
    obtain ⟨v', h1, h2⟩ := rows_outer (ft := ft) (wf := wf) m cells room hr k (.imm (.list (dR (rows.flatMap (grow cells room k))))) (rows.flatMap (grow cells room k)) (by simp) (fun r hr => by
      obtain ⟨x, hx, hr⟩ := List.mem_flatMap.mp hr
      obtain ⟨l, _, rfl⟩ := List.mem_map.mp hr
      have := h x hx
      rw [List.length_append, List.length_singleton]
      omega) (Nat.le_trans (Nat.mul_le_mul_right _ (flat_len _ room (grow_len cells room k) rows)) (by rw [Nat.mul_assoc, Nat.mul_comm room, ← Nat.mul_assoc]; exact hl)) h0 (by omega)
    by_cases hz : k = 0
    · subst hz
      refine ⟨_, fun _ => rfl, ?_⟩
      rw [forL_cons (tb_nm.trans rfl) e]
      rfl
    · refine ⟨v', fun _ => h1 hz, ?_⟩
      rw [forL_cons (tb_nm.trans rfl) e]
      exact h2
theorem r6 (wf n : Nat) (cells : Int) (room many : Nat) (hr : room ≤ 1000) (h0 : 0 < room) (hm : 0 < many ∧ many < 1000) (hl : room ^ many ≤ lim) : rn wf (n + 1) 6 [.imm (.int cells), .imm (.int many), .imm (.int room)] = .ok (.imm (.list (dR (rowsN cells room many [[]])))) [] := by
  obtain ⟨v', h1, h2⟩ := rows_outer (ft := rn wf n) (wf := wf) (.imm (.int many)) cells room hr many (.ol [.imm (.tuple [])]) [[]] (by simp; rfl) (by simp; omega) (by simpa using hl) h0 hm.2
  have h1 := h1 (by omega)
  subst h1
  have e : rangeD [.int ((many : Int) - 1), .int (-1), .int (-1)] = some (downD ((many : Int) - 1) many) := by
    have e : rangeD [.int ((many : Int) - 1), .int (-1), .int (-1)] = if (small62 ((many : Int) - 1) && small62 (-1)) = true then some (downD ((many : Int) - 1) (((many : Int) - 1) - (-1)).toNat) else none := rfl
    rw [e, if_pos (by unfold small62; simp; omega), show (((many : Int) - 1) - (-1)).toNat = many by omega]
  rw [F6]
  simp [f6, semN, e, h2]
end Qk47
end
section
set_option Elab.async false
set_option linter.all false
set_option maxRecDepth 100000
set_option maxHeartbeats 1000000
/-! k47, plain part 3: best_runs. -/
namespace Qk47
open PySem PV PX
theorem F7 (wf n : Nat) (a b c : OV) : rn wf (n + 1) 7 [a, b, c] = (evB wf (rn wf n) f7.body [some a, some b, some c, none, none, none, none]).fin [] := rfl
def mid (row : List Int) : List Int := (row.drop 1).dropLast
theorem cut_mid {α : Type} (xs : List α) : cut xs (some 1) (some (-1)) = (xs.drop 1).dropLast := by
  unfold cut
  rw [show (some (1 : Int)) = some ((1 : Nat) : Int) from rfl, HT.sIx_nat]
  cases xs with
  | nil => rfl
  | cons x r =>
    have e : HT.sIx (x :: r).length (x :: r).length (some (-1)) = r.length := by
      show (if (-1 : Int) < 0 then ((-1 : Int) + ((x :: r).length : Int)).toNat else min (-1 : Int).toNat (x :: r).length) = _
      rw [if_pos (by decide), List.length_cons]
      omega
    rw [e, List.length_cons, Nat.min_eq_left (by omega)]
    show r.take (r.length - 1) = r.dropLast
    rw [List.dropLast_eq_take]
theorem dI_mid (l : List Int) : (dI l).tail.dropLast = dI (mid l) := by
  unfold dI mid
  rw [← List.map_tail, ← List.map_dropLast, List.drop_one]
theorem sum_dI (row : List Int) : BI.sem .sum [.tuple (dI row)] = some (.imm (.int row.sum)) := sum_dT row
theorem rowsN_len (cells : Int) (room : Nat) : ∀ (k : Nat) (rows : List (List Int)), (rowsN cells room k rows).length ≤ rows.length * room ^ k
  | 0, rows => by rw [rowsN]; simp
  | k + 1, rows => by
    rw [rowsN]
    refine Nat.le_trans (rowsN_len cells room k _) ?_
    refine Nat.le_trans (Nat.mul_le_mul_right _ (flat_len _ room (grow_len cells room k) rows)) ?_
    rw [Nat.pow_succ, Nat.mul_assoc, Nat.mul_comm room]
    exact Nat.le_refl _
/-- what best_runs tells -/
def manyN (cells room : Nat) : Nat := (cells + room - 1) / room
def fullB (room many : Nat) (row : List Int) : Bool := decide ((mid row).sum = ((many : Int) - 2) * room)
def bestD (cells room rooms : Nat) : D :=
  let many := manyN cells room
  let rows := rowsN cells room many [[]]
  if rooms = 1 ∨ many ≤ rooms then .tuple [.int (if rooms < many then 1 else 0), .int 1, .tuple (dR rows)]
  else
    let g := Nat.gcd (many - rooms) ((many - 2) * room + 1)
    .tuple [.int (((many - rooms) / g : Nat)), .int ((((many - 2) * room + 1) / g : Nat)), .tuple (dR (rows.filter (fullB room many)))]
theorem r7 (wf n : Nat) (cells room rooms : Nat) (hc : 1 ≤ cells ∧ cells ≤ 40) (hr : 1 ≤ room ∧ room ≤ 8) (hs : 1 ≤ rooms ∧ rooms ≤ 5) (hl : room ^ manyN cells room ≤ lim) :
    rn wf (n + 4) 7 [.imm (.int cells), .imm (.int room), .imm (.int rooms)] = .ok (.imm (bestD cells room rooms)) [] := by
  generalize hm : manyN cells room = many at *
  have hmd : many = (cells + room - 1) / room := hm.symm
  have hm1 : 1 ≤ many := by rw [hmd]; exact (Nat.le_div_iff_mul_le (by omega)).mpr (by omega)
  have hm2 : many ≤ 40 := by
    rw [hmd]
    exact Nat.le_trans (Nat.div_le_div_right (by omega : cells + room - 1 ≤ 39 + room)) (by
      rw [Nat.add_div_right _ (by omega)]
      have := Nat.div_le_self 39 room
      omega)
  have q5 : ¬ ((cells : Int) < 0 ∨ (cells : Int) < 1 ∨ (40 : Int) < cells) := by omega
  have q3 : ¬ ((room : Int) < 0 ∨ (room : Int) < 1 ∨ (8 : Int) < room) := by omega
  have q2 : ¬ ((rooms : Int) < 0 ∨ (rooms : Int) < 1 ∨ (5 : Int) < rooms) := by omega
  have qm : -(-(cells : Int) / (room : Int)) = (many : Int) := by
    have : ∀ c : Nat, c < 41 → ∀ r : Nat, r < 9 → 1 ≤ r → -(-((c : Nat) : Int) / ((r : Nat) : Int)) = ((((c + r - 1) / r) : Nat) : Int) := by decide +kernel
    rw [hmd]
    exact this cells (by omega) room (by omega) hr.1
  have q0 : (0 : Int) < room ∧ (room : Int) < 1073741824 := by omega
  have e6 := r6 wf (n + 2) (cells : Int) room many (by omega) (by omega) (by omega) hl
  rw [F7]
  simp only [f7]
  have h0 : 0 < room := by omega
  have hlen : (rowsN cells room many [[]]).length ≤ lim := Nat.le_trans (rowsN_len ..) (by simpa using hl)
  simp [r5, q5, r3, q3, r2, q2, semN, q0, qm, e6, h0]
  unfold bestD
  rw [hm]
  by_cases hb : rooms = 1 ∨ many ≤ rooms
  · have kb : (rooms : Int) = 1 ∨ many ≤ rooms := by omega
    rw [if_pos hb, if_pos kb]
    by_cases hc : rooms < many
    · simp [hc, lim]
    · simp [hc, lim]
  · have kb : ¬ ((rooms : Int) = 1 ∨ many ≤ rooms) := by omega
    rw [if_neg hb, if_neg kb]
    have e9 := cmpL_nm (ft := rn wf (n + 3)) (i := 6) (cs := [(.cmp .eq (.blt .sum [(.slc (.pk 6) (some (.lit (.int 1))) (some (.neg (.lit (.int 1)))))]) (.op2 .mul (.op2 .sub (.pk 3) (.lit (.int 2))) (.pk 1)))]) (e := .var 6) dT (fullB room many) (fun l => .imm (dT l))
      (s := [some (.imm (.int cells)), some (.imm (.int room)), some (.imm (.int rooms)), some (.imm (.int many)), some (.imm (.list (dR (rowsN cells room many [[]])))), none, none]) (rowsN cells room many [[]]) rfl
      (fun l _ => by
        have e : okMul ((many : Int) - 2) room = true := okM (by omega) (by omega)
        simp [dT, slcD, semN, cut_mid, dI_mid, sum_dI, e, fullB])
      (fun l _ _ => by simp) hlen
    change cmpL (rn wf (n + 3)) _ _ _ (dR (rowsN cells room many [[]])) _ = .ok (oR ((rowsN cells room many [[]]).filter (fullB room many))) _ at e9
    obtain ⟨t, ht⟩ : ∃ t, many = t + 2 := ⟨many - 2, by omega⟩
    have ht1 : (many : Int) - 2 = (t : Int) := by omega
    have ht2 : many - 2 = t := by omega
    obtain ⟨u, hu⟩ : ∃ u, many = u + rooms := ⟨many - rooms, by omega⟩
    have hu1 : (many : Int) - rooms = (u : Int) := by omega
    have hu2 : many - rooms = u := by omega
    have htr : t * room ≤ 40 * 8 := Nat.mul_le_mul (by omega) hr.2
    have eo : okMul (t : Int) (room : Int) = true := okM (by omega) (by omega)
    have g0 : 0 < Nat.gcd u (t * room + 1) := Nat.gcd_pos_of_pos_right _ (by omega)
    have g1 : Nat.gcd u (t * room + 1) ≤ t * room + 1 := Nat.le_of_dvd (by omega) (Nat.gcd_dvd_right _ _)
    have e4 := r4 wf (n + 2) (u : Int) ((t * room + 1 : Nat) : Int) (Nat.gcd u (t * room + 1)) rfl g0 (by omega)
    have q : ((t : Int) * room + 1) = ((t * room + 1 : Nat) : Int) := by omega
    rw [ht2, hu2]
    rw [← q] at e4
    simp [e9, ht1, hu1, eo, e4, lim]
end Qk47
end
section
set_option Elab.async false
set_option linter.all false
set_option maxRecDepth 100000
set_option maxHeartbeats 1000000
/-! k47, plain part 4: _law_runs. -/
namespace Qk47
open PySem PV PX
theorem F12 (wf n : Nat) (a b : OV) : rn wf (n + 1) 12 [a, b] = (evB wf (rn wf n) f12.body [some a, some b, none, none, none, none, none, none]).fin [] := rfl
def fits2 (cells : Int) (row : List Int) (l : Int) : Bool := decide (row.sum + l ≤ cells)
def grow2 (cells : Int) (room : Nat) (row : List Int) : List (List Int) := ((intsL 1 room).filter (fits2 cells row)).map fun l => row ++ [l]
theorem grow2_len (cells : Int) (room : Nat) (row : List Int) : (grow2 cells room row).length ≤ room := by
  unfold grow2
  rw [List.length_map]
  exact Nat.le_trans (List.length_filter_le _ _) (by rw [intsL_len]; exact Nat.le_refl _)
theorem g_step {ft : FT} {wf : Nat} (cells : Int) (room : Nat) (hr : room ≤ 1000) (v2 v3 v4 : Option OV) (acc : List (List Int)) (row : List Int) (hrow : row.length < 1000) (ha : acc.length + room ≤ lim) :
    evB wf ft f12b0 [some (.imm (.int cells)), some (.imm (.int room)), v2, v3, v4, some (.ol (oR acc)), some (.imm (dT row)), none]
      = .ok .nx [some (.imm (.int cells)), some (.imm (.int room)), v2, v3, v4, some (.ol (oR (acc ++ grow2 cells room row))), some (.imm (dT row)), none] := by
  have e1 := range_of (a := 1) (b := (room : Int) + 1) (by omega) (by omega) (by omega) (by omega)
  rw [show ((room : Int) + 1 - 1).toNat = room by omega] at e1
  have e3 := cmpL_nm (ft := ft) (i := 7) (cs := [(.cmp .le (.op2 .add (.blt .sum [(.pk 6)]) (.pk 7)) (.pk 0))]) (e := (.op2 .add (.pk 6) (.tup [(.var 7)]))) (fun l : Int => PyData.int l) (fits2 cells row) (fun l => .imm (dT (row ++ [l])))
    (s := [some (.imm (.int cells)), some (.imm (.int room)), v2, v3, v4, some (.ol (oR acc)), some (.imm (dT row)), none]) (intsL 1 room) rfl
    (fun l _ => by
      simp [fits2, sum_dT])
    (fun l _ _ => by
      have : row.length + 1 ≤ lim := by unfold lim; omega
      simp [dT, this, dI_app]) (by rw [intsL_len]; unfold lim; omega)
  have e4 : (((intsL 1 room).filter (fits2 cells row)).map fun l => OV.imm (dT (row ++ [l]))) = oR (grow2 cells room row) := by
    unfold oR grow2
    rw [List.map_map]; rfl
  rw [e4] at e3
  have e5 : acc.length + (grow2 cells room row).length ≤ lim := Nat.le_trans (Nat.add_le_add_left (grow2_len ..) _) ha
  change cmpL ft _ _ _ (dI (intsL 1 room)) _ = _ at e3
  simp [f12b0, e1, e3, e5, oR_app]
theorem g_inner {ft : FT} {wf : Nat} (cells : Int) (room : Nat) (hr : room ≤ 1000) (v2 v3 v4 : Option OV) : ∀ (rows acc : List (List Int)) (x : Option OV), (∀ r ∈ rows, r.length < 1000) → acc.length + rows.length * room ≤ lim →
    ∃ x', forL wf ft (.nm 6) f12b0 [] (dR rows) [some (.imm (.int cells)), some (.imm (.int room)), v2, v3, v4, some (.ol (oR acc)), x, none]
      = .ok .nx [some (.imm (.int cells)), some (.imm (.int room)), v2, v3, v4, some (.ol (oR (acc ++ rows.flatMap (grow2 cells room)))), x', none]
  | [], acc, x, _, _ => ⟨x, by simp⟩
  | r :: rows, acc, x, h, hl' => by
    rw [List.length_cons, Nat.add_mul, Nat.one_mul] at hl'
    have := g_inner (ft := ft) (wf := wf) cells room hr v2 v3 v4 rows (acc ++ grow2 cells room r) (some (.imm (dT r))) (fun x hx => h x (by simp [hx])) (by
      rw [List.length_append]
      have := grow2_len cells room r
      omega)
    obtain ⟨x', h'⟩ := this
    refine ⟨x', ?_⟩
    rw [dR_cons, List.flatMap_cons, ← List.append_assoc]
    refine Eq.trans (forL_cons (s1 := [some (.imm (.int cells)), some (.imm (.int room)), v2, v3, v4, some (.ol (oR acc)), some (.imm (dT r)), none]) (tb_nm.trans rfl) (g_step cells room hr v2 v3 v4 acc r (h r (by simp)) (by omega))) h'
def isSum (cells : Int) (row : List Int) : Bool := decide (row.sum = cells)
def ltSum (cells : Int) (row : List Int) : Bool := decide (row.sum < cells)
theorem t_step {ft : FT} {wf : Nat} (cells : Int) (room : Nat) (hr : room ≤ 1000) (done op : List (List Int)) (v3 v4 : OV) (h3 : v3.toD = .list (dR op)) (h : ∀ r ∈ op, r.length < 1000) (hl : done.length + op.length * room ≤ lim) :
    evB wf ft f12b1 [some (.imm (.int cells)), some (.imm (.int room)), some (.ol (oR done)), some v3, some v4, none, none, none]
      = .ok .nx [some (.imm (.int cells)), some (.imm (.int room)), some (.ol (oR (done ++ (op.flatMap (grow2 cells room)).filter (isSum cells)))), some (.ol (oR ((op.flatMap (grow2 cells room)).filter (ltSum cells)))), some v4, some (.imm (.list (dR (op.flatMap (grow2 cells room))))), none, none] := by
  obtain ⟨x', e⟩ := g_inner (ft := ft) (wf := wf) cells room hr (some (.ol (oR done))) (some (.imm (.list (dR op)))) (some v4) op [] none h (by rw [List.length_nil, Nat.zero_add]; exact Nat.le_trans (Nat.le_add_left _ _) hl)
  simp at e
  have hf : (op.flatMap (grow2 cells room)).length ≤ op.length * room := flat_len _ room (grow2_len cells room) op
  generalize op.flatMap (grow2 cells room) = ls at *
  have e1 := cmpL_nm (ft := ft) (i := 6) (cs := [(.cmp .eq (.blt .sum [(.pk 6)]) (.pk 0))]) (e := .var 6) dT (isSum cells) (fun l => .imm (dT l))
    (s := [some (.imm (.int cells)), some (.imm (.int room)), some (.ol (oR done)), some (.imm (.list (dR op))), some v4, some (.imm (.list (dR ls))), none, none]) ls rfl
    (fun l _ => by simp [isSum, sum_dT]) (fun l _ _ => by simp) (Nat.le_trans hf (Nat.le_trans (Nat.le_add_left _ _) hl))
  change cmpL ft _ _ _ (dR ls) _ = .ok (oR (ls.filter (isSum cells))) _ at e1
  have hg : done.length + (ls.filter (isSum cells)).length ≤ lim := by
    exact Nat.le_trans (Nat.add_le_add_left (Nat.le_trans (List.length_filter_le (isSum cells) ls) hf) _) hl
  have e2 := cmpL_nm (ft := ft) (i := 6) (cs := [(.cmp .lt (.blt .sum [(.pk 6)]) (.pk 0))]) (e := .var 6) dT (ltSum cells) (fun l => .imm (dT l))
    (s := [some (.imm (.int cells)), some (.imm (.int room)), some (.ol (oR (done ++ ls.filter (isSum cells)))), some (.imm (.list (dR op))), some v4, some (.imm (.list (dR ls))), none, none]) ls rfl
    (fun l _ => by simp [ltSum, sum_dT]) (fun l _ _ => by simp) (Nat.le_trans hf (Nat.le_trans (Nat.le_add_left _ _) hl))
  change cmpL ft _ _ _ (dR ls) _ = .ok (oR (ls.filter (ltSum cells))) _ at e2
  rw [oR_app] at e2
  simp [f12b1, h3, e, e1, hg, e2, oR_app]
def runsN (cells : Int) (room : Nat) : Nat → List (List Int) → List (List Int) → List (List Int)
  | 0, done, _ => done
  | k + 1, done, op => runsN cells room k (done ++ (op.flatMap (grow2 cells room)).filter (isSum cells)) ((op.flatMap (grow2 cells room)).filter (ltSum cells))
theorem t_outer {ft : FT} {wf : Nat} (cells : Int) (room : Nat) (hr : room ≤ 1000) (h0 : 0 < room) : ∀ (k : Nat) (lo : Int) (done op : List (List Int)) (v3 : OV), v3.toD = .list (dR op) → (∀ r ∈ op, r.length + k < 1000) → done.length + k * (op.length * room ^ k) ≤ lim →
    ∃ v', forL wf ft (.nm 4) f12b1 [4, 5, 6] (dI (intsL lo k)) [some (.imm (.int cells)), some (.imm (.int room)), some (.ol (oR done)), some v3, none, none, none, none]
      = .ok .nx [some (.imm (.int cells)), some (.imm (.int room)), some (.ol (oR (runsN cells room k done op))), some v', none, none, none, none]
  | 0, lo, done, op, v3, _, _, _ => ⟨v3, rfl⟩
  | k + 1, lo, done, op, v3, h3, h, hl => by
    have hp : 0 < room ^ k := Nat.pow_pos h0
    have q0 : op.length * room ≤ op.length * room ^ (k + 1) := by
      rw [Nat.pow_succ, Nat.mul_comm (room ^ k), ← Nat.mul_assoc]
      exact Nat.le_mul_of_pos_right _ hp
    rw [Nat.add_mul, Nat.one_mul] at hl
    have e := t_step (ft := ft) (wf := wf) cells room hr done op v3 (.imm (.int lo)) h3 (fun r hr => by have := h r hr; omega) (by omega)
    have hf : (op.flatMap (grow2 cells room)).length ≤ op.length * room := flat_len _ room (grow2_len cells room) op
    have f1 := List.length_filter_le (isSum cells) (op.flatMap (grow2 cells room))
    have f2 := List.length_filter_le (ltSum cells) (op.flatMap (grow2 cells room))
    obtain ⟨v', h1⟩ := t_outer (ft := ft) (wf := wf) cells room hr h0 k (lo + 1) (done ++ (op.flatMap (grow2 cells room)).filter (isSum cells)) ((op.flatMap (grow2 cells room)).filter (ltSum cells)) (.ol (oR ((op.flatMap (grow2 cells room)).filter (ltSum cells)))) (by simp) (fun r hr => by
      obtain ⟨x, hx, hr⟩ := List.mem_flatMap.mp (List.mem_filter.mp hr).1
      obtain ⟨l, _, rfl⟩ := List.mem_map.mp hr
      have := h x hx
      rw [List.length_append, List.length_singleton]
      omega) (by
      have q : ((op.flatMap (grow2 cells room)).filter (ltSum cells)).length * room ^ k ≤ op.length * room ^ (k + 1) := by
        rw [Nat.pow_succ, Nat.mul_comm (room ^ k), ← Nat.mul_assoc]
        exact Nat.mul_le_mul_right _ (by omega)
      have q' := Nat.mul_le_mul_left k q
      rw [List.length_append]
      omega)
    refine ⟨v', ?_⟩
    rw [intsL, dI_cons, forL_cons (tb_nm.trans rfl) e]
    exact h1
theorem r12 (wf n : Nat) (cells room : Nat) (hr : 0 < room ∧ room ≤ 1000) (hc : cells < 1000) (hl : cells * room ^ cells ≤ lim) : rn wf (n + 1) 12 [.imm (.int cells), .imm (.int room)] = .ok (.ol (oR (runsN cells room cells [] [[]]))) [] := by
  obtain ⟨v', h⟩ := t_outer (ft := rn wf n) (wf := wf) cells room hr.2 hr.1 cells 0 [] [[]] (.ol [.imm (.tuple [])]) (by simp; rfl) (by simp; omega) (by simpa using hl)
  have e1 := range_one (b := (cells : Int)) (by omega) (by omega)
  rw [Int.toNat_natCast] at e1
  rw [F12]
  rw [oR_nil] at h
  simp [f12, e1, h]
end Qk47
end
section
set_option Elab.async false
set_option linter.all false
set_option maxRecDepth 100000
set_option maxHeartbeats 1000000
/-! k47, plain part 5: _law_share. -/
namespace Qk47
open PySem PV PX
theorem F11 (wf n : Nat) (a b : OV) : rn wf (n + 1) 11 [a, b] = (evB wf (rn wf n) f11.body [some a, some b, none, none, none, none, none, none]).fin [] := rfl
def pr (p : Int × Int) : OV := .imm (.tuple [.int p.1, .int p.2])
def better (rooms one o st : Int) (p : Int × Int) : Bool := decide (rooms ≤ o - one) && decide (p.1 * st < (o - one + 1 - rooms) * p.2)
def shareIn (rooms one : Int) : List Int → Int → Int → Int × Int → Int × Int
  | [], _, _, p => p
  | l :: ls, o, st, p => shareIn rooms one ls (o + 1) (st + l) (if better rooms one o st p = true then (o - one + 1 - rooms, st) else p)
def shareOut (rooms : Int) : List Int → Int → Int × Int → Int × Int
  | [], _, p => p
  | _ :: ls, one, p => shareOut rooms ls (one + 1) (shareIn rooms one ls (one + 1) 1 p)
/-- a quotient within bounds -/
def Pb (p : Int × Int) : Prop := 0 ≤ p.1 ∧ p.1 ≤ 2000 ∧ 1 ≤ p.2 ∧ p.2 ≤ 1000001
@[simp] theorem pr_ix0 {a b : Int} : semI (.tuple [.int a, .int b]) (.int 0) = some (.imm (.int a)) := rfl
@[simp] theorem pr_ix1 {a b : Int} : semI (.tuple [.int a, .int b]) (.int 1) = some (.imm (.int b)) := rfl
theorem ix_dI (pre : List Int) (x : Int) (r : List Int) : semI (dT (pre ++ x :: r)) (.int (pre.length : Int)) = some (.imm (.int x)) := by
  show (L2.atI (dI (pre ++ x :: r)) (pre.length : Int)).map OV.imm = _
  unfold L2.atI L2.ixN
  rw [if_pos (by omega), if_pos (by simp; omega), Int.toNat_natCast]
  show ((dI (pre ++ x :: r))[pre.length]?).map OV.imm = _
  rw [dI_app, List.getElem?_append_right (by rw [dI_len]; exact Nat.le_refl _), dI_len, Nat.sub_self]
  rfl
theorem in_step {ft : FT} {wf : Nat} (rooms one : Int) (hr : 0 ≤ rooms ∧ rooms ≤ 1000) (ho : 0 ≤ one) (pre : List Int) (l : Int) (r : List Int) (hp : one < pre.length ∧ pre.length < 1000) (hl : 0 ≤ l ∧ l ≤ 1000) (p : Int × Int) (hb : Pb p) (st : Int) (hs : 1 ≤ st ∧ st ≤ 1000 * pre.length) :
    evB wf ft f11b0 [some (.imm (dT (pre ++ l :: r))), some (.imm (.int rooms)), some (pr p), some (.imm (.int one)), none, some (.imm (.int st)), some (.imm (.int pre.length)), none]
      = .ok .nx [some (.imm (dT (pre ++ l :: r))), some (.imm (.int rooms)), some (pr (if better rooms one pre.length st p = true then (pre.length - one + 1 - rooms, st) else p)), some (.imm (.int one)), none, some (.imm (.int (st + l))), some (.imm (.int pre.length)), none] := by
  obtain ⟨a, b⟩ := p
  obtain ⟨b1, b2, b3, b4⟩ := hb
  have e1 : okMul ((pre.length : Int) - one + 1 - rooms) b = true := okM (by omega) (by simp only at *; omega)
  have e2 : okMul a st = true := okM (by simp only at *; omega) (by omega)
  have e3 := ix_dI pre l r
  unfold better pr
  by_cases h1 : rooms ≤ (pre.length : Int) - one
  · by_cases h2 : a * st < ((pre.length : Int) - one + 1 - rooms) * b
    · simp [f11b0, e1, e2, e3, h1, h2]
    · simp [f11b0, e1, e2, e3, h1, h2]
  · simp [f11b0, e1, e2, e3, h1]
theorem Pb_if {rooms one o st : Int} {p : Int × Int} (hb : Pb p) (hr : 0 ≤ rooms) (h : 0 ≤ one ∧ one < o ∧ o < 1000) (hs : 1 ≤ st ∧ st ≤ 1000 * o) : Pb (if better rooms one o st p = true then (o - one + 1 - rooms, st) else p) := by
  by_cases h : better rooms one o st p = true
  · rw [if_pos h]
    unfold better at h
    simp at h
    exact ⟨by simp only; omega, by simp only; omega, by simp only; omega, by simp only; omega⟩
  · rw [if_neg h]; exact hb
theorem in_loop {ft : FT} {wf : Nat} (rooms one : Int) (hr : 0 ≤ rooms ∧ rooms ≤ 1000) (ho : 0 ≤ one) : ∀ (r pre : List Int) (p : Int × Int) (st : Int), one < pre.length → pre.length + r.length < 1000 → (∀ x ∈ r, 0 ≤ x ∧ x ≤ 1000) → Pb p → 1 ≤ st ∧ st ≤ 1000 * pre.length →
    Pb (shareIn rooms one r pre.length st p) ∧ ∃ st', forL wf ft (.nm 6) f11b0 [6] (dI (intsL pre.length r.length)) [some (.imm (dT (pre ++ r))), some (.imm (.int rooms)), some (pr p), some (.imm (.int one)), none, some (.imm (.int st)), none, none]
      = .ok .nx [some (.imm (dT (pre ++ r))), some (.imm (.int rooms)), some (pr (shareIn rooms one r pre.length st p)), some (.imm (.int one)), none, some st', none, none]
  | [], pre, p, st, _, _, _, hb, _ => ⟨hb, _, rfl⟩
  | l :: r, pre, p, st, h1, h2, h3, hb, hs => by
    rw [List.length_cons] at h2
    have hl := h3 l (by simp)
    have hb' := Pb_if (rooms := rooms) (one := one) (o := pre.length) (st := st) hb hr.1 (by omega) hs
    have ih := in_loop (ft := ft) (wf := wf) rooms one hr ho r (pre ++ [l]) (if better rooms one pre.length st p = true then (pre.length - one + 1 - rooms, st) else p) (st + l) (by rw [List.length_append, List.length_singleton]; omega) (by rw [List.length_append, List.length_singleton]; omega) (fun x hx => h3 x (by simp [hx])) hb' (by rw [List.length_append, List.length_singleton]; omega)
    rw [List.append_assoc, List.singleton_append, List.length_append, List.length_singleton] at ih
    obtain ⟨i1, st', i2⟩ := ih
    refine ⟨i1, st', ?_⟩
    rw [List.length_cons, intsL, dI_cons]
    refine Eq.trans (forL_cons (s1 := [some (.imm (dT (pre ++ l :: r))), some (.imm (.int rooms)), some (pr p), some (.imm (.int one)), none, some (.imm (.int st)), some (.imm (.int pre.length)), none]) (tb_nm.trans rfl) (in_step rooms one hr ho pre l r (by omega) hl p hb st hs)) i2
theorem out_loop {ft : FT} {wf : Nat} (rooms : Int) (hr : 0 ≤ rooms ∧ rooms ≤ 1000) : ∀ (r pre : List Int) (p : Int × Int), pre.length + r.length < 1000 → (∀ x ∈ r, 0 ≤ x ∧ x ≤ 1000) → Pb p →
    Pb (shareOut rooms r pre.length p) ∧ forL wf ft (.nm 3) f11b1 [3, 5, 6] (dI (intsL pre.length r.length)) [some (.imm (dT (pre ++ r))), some (.imm (.int rooms)), some (pr p), none, none, none, none, none]
      = .ok .nx [some (.imm (dT (pre ++ r))), some (.imm (.int rooms)), some (pr (shareOut rooms r pre.length p)), none, none, none, none, none]
  | [], pre, p, _, _, hb => ⟨hb, rfl⟩
  | l :: r, pre, p, h2, h3, hb => by
    rw [List.length_cons] at h2
    have i := in_loop (ft := ft) (wf := wf) rooms (pre.length : Int) hr (by omega) r (pre ++ [l]) p 1 (by rw [List.length_append, List.length_singleton]; omega) (by rw [List.length_append, List.length_singleton]; omega) (fun x hx => h3 x (by simp [hx])) hb (by rw [List.length_append, List.length_singleton]; omega)
    rw [List.append_assoc, List.singleton_append, List.length_append, List.length_singleton] at i
    obtain ⟨i1, st', i2⟩ := i
    have ih := out_loop (ft := ft) (wf := wf) rooms hr r (pre ++ [l]) _ (by rw [List.length_append, List.length_singleton]; omega) (fun x hx => h3 x (by simp [hx])) i1
    rw [List.append_assoc, List.singleton_append, List.length_append, List.length_singleton] at ih
    refine ⟨ih.1, ?_⟩
    rw [List.length_cons, intsL, dI_cons]
    refine Eq.trans (forL_cons (s1 := [some (.imm (dT (pre ++ l :: r))), some (.imm (.int rooms)), some (pr p), some (.imm (.int pre.length)), none, none, none, none]) (tb_nm.trans rfl) (?_ : evB wf ft f11b1 _ = .ok .nx [some (.imm (dT (pre ++ l :: r))), some (.imm (.int rooms)), some (pr (shareIn rooms pre.length r ((pre.length + 1 : Nat) : Int) 1 p)), some (.imm (.int pre.length)), none, some st', none, none])) ih.2
    have e1 := range_of (a := (pre.length : Int) + 1) (b := ((pre.length + (r.length + 1) : Nat) : Int)) (by omega) (by omega) (by omega) (by omega)
    rw [show (((pre.length + (r.length + 1) : Nat) : Int) - ((pre.length : Int) + 1)).toNat = r.length by omega] at e1
    have e2 : BI.sem .len [dT (pre ++ l :: r)] = some (.imm (.int ((pre.length + (r.length + 1) : Nat) : Int))) := by
      show some (OV.imm (.int ((dI (pre ++ l :: r)).length : Int))) = _
      rw [dI_len, List.length_append, List.length_cons]
    have e3 : ((pre.length + 1 : Nat) : Int) = (pre.length : Int) + 1 := by omega
    rw [e3] at i2 ⊢
    simp only [f11b1, y_cons, y_set, x_lit, setK_0, List.set_cons_succ, List.set_cons_zero, seqK_0, y_for, x_ds, x_op2, x_pk, at_zero, at_succ, pkK_0, shal_imm, Option.map_some, ofO_some, bin1_0, bin2_0, toD_imm, o_add, dsK_0, x_ds0, pushD_0, x_blt, bltK_0, e2, forK_0, src_range, e1, forJ_0, i2, y_nil]
theorem max_of {l : List Int} {g : Int} (h : g ∈ l) (k : ∀ x ∈ l, x ≤ g) : BI.sem .max [.list (dI l)] = some (.imm (.int g)) := by
  have q : ∀ (ns : List Int) (n : Int), g ∈ n :: ns → (∀ x ∈ n :: ns, x ≤ g) → ns.foldl Max.max n = g := by
    intro ns
    induction ns with
    | nil => intro n h _; simp at h; simp [h]
    | cons m ns ih =>
      intro n h k
      rw [List.foldl_cons]
      refine ih _ ?_ ?_
      · have h1 := k n (by simp)
        have h2 := k m (by simp)
        simp only [List.mem_cons] at h ⊢
        rcases h with h | h | h
        · left; omega
        · left; omega
        · right; exact h
      · intro x hx
        have h1 := k n (by simp)
        have h2 := k m (by simp)
        simp only [List.mem_cons] at hx
        rcases hx with h | h
        · omega
        · exact k x (by simp [h])
  cases l with
  | nil => cases h
  | cons n ns =>
    show (match intsOf (dI (n :: ns)) with | some (n :: ns) => some (OV.imm (.int (ns.foldl Max.max n))) | _ => none) = _
    rw [intsOf_dI]
    show some (OV.imm (.int (ns.foldl Max.max n))) = _
    rw [q ns n h k]
def divs (p : Int × Int) (x : Int) : Bool := decide (p.1 % x = 0) && decide (p.2 % x = 0)
theorem gcd_max (a b : Nat) (hb : 0 < b) : ((Nat.gcd a b : Nat) : Int) ∈ (intsL 1 b).filter (divs ((a : Int), (b : Int))) ∧ ∀ x ∈ (intsL 1 b).filter (divs ((a : Int), (b : Int))), x ≤ ((Nat.gcd a b : Nat) : Int) := by
  have g0 : 0 < Nat.gcd a b := Nat.gcd_pos_of_pos_right _ hb
  have g1 : Nat.gcd a b ≤ b := Nat.le_of_dvd hb (Nat.gcd_dvd_right _ _)
  constructor
  · rw [List.mem_filter, intsL_mem]
    refine ⟨by omega, ?_⟩
    unfold divs
    simp only [Bool.and_eq_true, decide_eq_true_eq]
    exact ⟨Int.emod_eq_zero_of_dvd (Int.natCast_dvd_natCast.mpr (Nat.gcd_dvd_left _ _)), Int.emod_eq_zero_of_dvd (Int.natCast_dvd_natCast.mpr (Nat.gcd_dvd_right _ _))⟩
  · intro x hx
    rw [List.mem_filter, intsL_mem] at hx
    obtain ⟨⟨h1, h2⟩, h3⟩ := hx
    unfold divs at h3
    simp only [Bool.and_eq_true, decide_eq_true_eq] at h3
    obtain ⟨n, rfl⟩ : ∃ n : Nat, x = (n : Int) := ⟨x.toNat, by omega⟩
    have d1 := Int.natCast_dvd_natCast.mp (Int.dvd_of_emod_eq_zero h3.1)
    have d2 := Int.natCast_dvd_natCast.mp (Int.dvd_of_emod_eq_zero h3.2)
    exact Int.ofNat_le.mpr (Nat.le_of_dvd g0 (Nat.dvd_gcd d1 d2))
/-- the share, in lowest terms -/
def low (p : Int × Int) : Int × Int := (p.1 / (Nat.gcd p.1.natAbs p.2.natAbs : Nat), p.2 / (Nat.gcd p.1.natAbs p.2.natAbs : Nat))
def shareN (rooms : Int) (ls : List Int) : Int × Int := low (shareOut rooms ls 0 (0, 1))
theorem r11 (wf n : Nat) (rooms : Int) (hr : 0 ≤ rooms ∧ rooms ≤ 1000) (ls : List Int) (hl : ls.length < 1000) (hx : ∀ x ∈ ls, 0 ≤ x ∧ x ≤ 1000) : rn wf (n + 1) 11 [.imm (dT ls), .imm (.int rooms)] = .ok (pr (shareN rooms ls)) [] := by
  obtain ⟨hb, e⟩ := out_loop (ft := rn wf n) (wf := wf) rooms hr ls [] (0, 1) (by rw [List.length_nil]; omega) hx ⟨by decide, by decide, by decide, by decide⟩
  unfold shareN
  rw [List.nil_append] at e
  change Pb (shareOut rooms ls 0 (0, 1)) at hb
  change forL wf _ _ _ _ (dI (intsL 0 ls.length)) _ = .ok .nx [_, _, some (pr (shareOut rooms ls 0 (0, 1))), _, _, _, _, _] at e
  generalize shareOut rooms ls 0 (0, 1) = p at *
  obtain ⟨a, b⟩ := p
  obtain ⟨b1, b2, b3, b4⟩ := hb
  simp only at b1 b2 b3 b4
  obtain ⟨A, rfl⟩ : ∃ n : Nat, a = (n : Int) := ⟨a.toNat, by omega⟩
  obtain ⟨B, rfl⟩ : ∃ n : Nat, b = (n : Int) := ⟨b.toNat, by omega⟩
  obtain ⟨g1, g2⟩ := gcd_max A B (by omega)
  have em := max_of g1 g2
  have g0 : 0 < Nat.gcd A B := Nat.gcd_pos_of_pos_right _ (by omega)
  have gl : Nat.gcd A B ≤ B := Nat.le_of_dvd (by omega) (Nat.gcd_dvd_right _ _)
  have q1 := range_one (b := (ls.length : Int)) (by omega) (by omega)
  rw [Int.toNat_natCast] at q1
  have q2 := range_of (a := 1) (b := (B : Int) + 1) (by omega) (by omega) (by omega) (by omega)
  rw [show ((B : Int) + 1 - 1).toNat = B by omega] at q2
  have q3 : BI.sem .len [dT ls] = some (.imm (.int (ls.length : Int))) := by
    show some (OV.imm (.int ((dI ls).length : Int))) = _
    rw [dI_len]
  have e9 := cmpL_nm (ft := rn wf n) (i := 7) (cs := [(.and_ (.cmp .eq (.op2 .mod (.ix (.pk 2) (.lit (.int 0))) (.pk 7)) (.lit (.int 0))) (.cmp .eq (.op2 .mod (.ix (.pk 2) (.lit (.int 1))) (.pk 7)) (.lit (.int 0))))]) (e := .var 7) PyData.int (divs ((A : Int), (B : Int))) (fun l => .imm (.int l))
    (s := [some (.imm (dT ls)), some (.imm (.int rooms)), some (pr ((A : Int), (B : Int))), none, none, none, none, none]) (intsL 1 B) rfl
    (fun x hx => by
      have h0 : 0 < x := by have := (intsL_mem _ _ _).mp hx; omega
      simp [pr, h0, divs])
    (fun l _ _ => by simp) (by rw [intsL_len]; unfold lim; omega)
  change cmpL _ _ _ _ (dI (intsL 1 B)) _ = .ok (oI ((intsL 1 B).filter (divs ((A : Int), (B : Int))))) _ at e9
  rw [F11]
  have z1 : 0 < Nat.gcd A B ∧ Nat.gcd A B < 1073741824 := by omega
  have z2 : ((Nat.gcd A B : Nat) : Int) < 1073741824 := by omega
  unfold pr at *
  simp [f11, q3, q1, e, q2, e9, em, low, g0, z2]
end Qk47
end
section
set_option Elab.async false
set_option linter.all false
set_option maxRecDepth 100000
set_option maxHeartbeats 1000000
/-! k47, plain part 6: what the law asks of lists of one to nine cells. -/
namespace Qk47
open PySem PV PX PySem.W
theorem F13 (wf n : Nat) (a : OV) : rn wf (n + 1) 13 [a] = (evB wf (rn wf n) f13.body [some a, none, none, none, none, none, none, none, none, none, none, none, none, none, none, none, none, none]).fin [] := rfl
theorem ne_same {d : D} (h : pn d = true) (k : d.depth ≤ 64) : semC .ne d d = some (.imm (.bool false)) := by
  have e : eqOk d d = true := by unfold eqOk; rw [shaped_of h k]; rfl
  unfold semC
  rw [c_ne, if_pos e, (eqv_iff d d h h).mpr rfl]
  rfl
theorem pn_dI (l : List Int) : pns (dI l) = true := pns_of fun d hd => by
  obtain ⟨i, _, rfl⟩ := List.mem_map.mp hd
  rw [pn]
theorem Pd_dT (l : List Int) : Pd 2 (dT l) := pd_tup (n := 1) fun d hd => by
  obtain ⟨i, _, rfl⟩ := List.mem_map.mp hd
  exact pd_int i
theorem Pd_dR (l : List (List Int)) : Pd 3 (.tuple (dR l)) := pd_tup (n := 2) fun d hd => by
  obtain ⟨i, _, rfl⟩ := List.mem_map.mp hd
  exact Pd_dT i
/-- a quotient with rows, as best_runs tells it -/
def ans (p : Int × Int) (l : List (List Int)) : D := .tuple [.int p.1, .int p.2, .tuple (dR l)]
theorem Pd_ans (p : Int × Int) (l : List (List Int)) : Pd 4 (ans p l) := pd_tup (n := 3) fun d hd => by
  simp only [List.mem_cons, List.not_mem_nil, or_false] at hd
  rcases hd with rfl | rfl | rfl
  · exact pd_int _
  · exact pd_int _
  · exact Pd_dR l
theorem ne_ans (p : Int × Int) (l : List (List Int)) : semC .ne (ans p l) (ans p l) = some (.imm (.bool false)) := ne_same (Pd_ans p l).1 (Nat.le_trans (Pd_ans p l).2 (by decide))
/-- what best_runs tells, as native data -/
def bestN (cells room rooms : Nat) : (Int × Int) × List (List Int) :=
  let many := manyN cells room
  let rows := rowsN cells room many [[]]
  if rooms = 1 ∨ many ≤ rooms then ((if rooms < many then 1 else 0, 1), rows)
  else
    let g := Nat.gcd (many - rooms) ((many - 2) * room + 1)
    ((((many - rooms) / g : Nat), ((((many - 2) * room + 1) / g : Nat))), rows.filter (fullB room many))
theorem bestD_N (cells room rooms : Nat) : bestD cells room rooms = ans (bestN cells room rooms).1 (bestN cells room rooms).2 := by
  unfold bestD bestN ans
  simp only []
  split <;> rfl
/-! sorting -/
theorem sortT_done {α : Type} [DecidableEq α] [DatumOrd α] (xs : List α) (h : xs.Pairwise fun a b => leT a b = true) : sortT xs = xs := List.mergeSort_of_pairwise h
def leB (a b : List Int) : Bool := leT (Tup.mk a) (Tup.mk b)
theorem sort_dR (l : List (List Int)) (h : l.Pairwise fun a b => leB a b = true) : sortD (dR l) = dR l := by
  have e : dR l = (l.map Tup.mk).map Datum.toD := by rw [List.map_map]; rfl
  rw [e, sortD_dt, sortT_done]
  rw [List.pairwise_map]
  exact h
theorem sortOk_dR (l : List (List Int)) (h : ∀ r ∈ l, r ≠ []) : sortOk (dR l) = true := by
  have e : dR l = (l.map (Tup.mk (α := Int))).map Datum.toD := by rw [List.map_map]; rfl
  unfold sortOk
  rw [e, alikes, depths _ (by decide), ← e]
  refine Bool.and_eq_true_iff.mpr ⟨Bool.and_eq_true_iff.mpr ⟨rfl, Bool.or_eq_true_iff.mpr (.inl ?_)⟩, rfl⟩
  rw [List.all_eq_true]
  intro d hd
  obtain ⟨a, ha, rfl⟩ := List.mem_map.mp hd
  cases a with
  | nil => exact absurd rfl (h _ ha)
  | cons x r => rfl
/-! zip -/
theorem zipD_map {α : Type} (f g : α → D) : ∀ l : List α, zipD (l.map f) (l.map g) = l.map fun x => .tuple [f x, g x]
  | [] => rfl
  | x :: l => by rw [List.map_cons, List.map_cons, zipD, zipD_map f g l]; rfl
theorem src_zip {α : Type} (f g : α → D) (l : List α) : srcOf .zip [.list (l.map f), .list (l.map g)] = some (l.map fun x => .tuple [f x, g x]) := by
  rw [← zipD_map]; rfl
theorem cmpL_tp {ft : FT} {i j : Nat} {cs : List E} {e : E} {α : Type} (f g : α → D) (c : α → Bool) (e' : α → OV) {s : Sl} (xs : List α) (hs : (s.set i none).set j none = s) (hij : i ≠ j)
    (hc : ∀ x ∈ xs, evAll ft cs ((s.set i (some (.imm (f x)))).set j (some (.imm (g x)))) = .ok (c x) ((s.set i (some (.imm (f x)))).set j (some (.imm (g x)))))
    (he : ∀ x ∈ xs, c x = true → ∃ s3, evE ft e ((s.set i (some (.imm (f x)))).set j (some (.imm (g x)))) = .ok (e' x) s3 ∧ (s3.set i none).set j none = s) (hl : xs.length ≤ lim) :
    cmpL ft (.tp [.nm i, .nm j]) cs e (xs.map fun x => .tuple [f x, g x]) s = .ok ((xs.filter c).map e') s := by
  unfold cmpL
  have := loopC_map (ks := [i, j]) (bd := Tgt.bind (.tp [.nm i, .nm j])) (cond := fun s => evAll ft cs s) (elt := fun s => evE ft e s) (fun x => .tuple [f x, g x]) c e' s xs [] (by
    intro x hx
    refine ⟨(s.set i (some (.imm (f x)))).set j (some (.imm (g x))), by simp, fun h => ?_, fun h => ⟨_, (hc x hx).trans (by rw [h]), ?_⟩⟩
    · obtain ⟨s3, h1, h2⟩ := he x hx h
      exact ⟨_, s3, (hc x hx).trans (by rw [h]), h1, h2⟩
    · show (((s.set i _).set j _).set i none).set j none = s
      rw [List.set_comm _ _ hij.symm, List.set_set, List.set_set, hs]) (by rw [List.length_nil, Nat.zero_add]; exact hl)
  exact this
/-! shares -/
def prD (p : Int × Int) : D := .tuple [.int p.1, .int p.2]
theorem Pd_prD (p : Int × Int) : Pd 2 (prD p) := pd_tup (n := 1) fun d hd => by
  simp only [List.mem_cons, List.not_mem_nil, or_false] at hd
  rcases hd with rfl | rfl
  · exact pd_int _
  · exact pd_int _
theorem prD_inj {p q : Int × Int} (h : prD p = prD q) : p = q := by
  unfold prD at h
  injection h with h
  injection h with h1 h2
  injection h2 with h2 _
  injection h1 with h1
  injection h2 with h2
  exact Prod.ext h1 h2
theorem eq_prD (p q : Int × Int) : semC .eq (prD p) (prD q) = some (.imm (.bool (decide (p = q)))) := by
  unfold semC
  rw [c_eq, if_pos (eqOk_of (Pd_prD p) (Pd_prD q) (by decide) (by decide))]
  by_cases h : p = q
  · rw [decide_eq_true h, h, (eqv_iff _ _ (Pd_prD q).1 (Pd_prD q).1).mpr rfl]; rfl
  · rw [decide_eq_false h]
    cases q : PyData.eqv (prD p) (prD q) with
    | false => rfl
    | true => exact absurd (prD_inj ((eqv_iff _ _ (Pd_prD p).1 (Pd_prD _).1).mp q)) h
theorem min_of : ∀ (ns : List Int) (n : Int), BI.sem .min [.list (dI (n :: ns))] = some (.imm (.int (ns.foldl Min.min n))) := by
  intro ns n
  show (match intsOf (dI (n :: ns)) with | some (n :: ns) => some (OV.imm (.int (ns.foldl Min.min n))) | _ => none) = _
  rw [intsOf_dI]
theorem Pb_low {p : Int × Int} (h : Pb p) : Pb (low p) := by
  obtain ⟨h1, h2, h3, h4⟩ := h
  obtain ⟨a, b⟩ := p
  simp only at h1 h2 h3 h4
  have g0 : 0 < Nat.gcd a.natAbs b.natAbs := Nat.gcd_pos_of_pos_right _ (by omega)
  have gl : Nat.gcd a.natAbs b.natAbs ≤ b.natAbs := Nat.le_of_dvd (by omega) (Nat.gcd_dvd_right _ _)
  unfold low
  simp only
  generalize Nat.gcd a.natAbs b.natAbs = g at *
  refine ⟨Int.ediv_nonneg h1 (by omega), ?_, ?_, ?_⟩
  · exact Int.le_trans (Int.ediv_le_self _ h1) h2
  · exact Int.le_ediv_of_mul_le (by omega) (by omega)
  · exact Int.le_trans (Int.ediv_le_self _ (by omega)) h4
end Qk47
end
section
set_option Elab.async false
set_option linter.all false
set_option maxRecDepth 100000
set_option maxHeartbeats 1000000
/-! k47, plain part 7: the law's steps on small lists. -/
namespace Qk47
open PySem PV PX PySem.W
theorem evB_app {wf : Nat} {ft : FT} (b : List PV.St) : ∀ (a : List PV.St) (s : Sl), evB wf ft (a ++ b) s = seqK wf ft b (evB wf ft a s)
  | [], s => by rw [List.nil_append, y_nil, seqK_0]
  | x :: a, s => by
    rw [List.cons_append, y_cons, y_cons]
    cases evS wf ft x s with
    | ok f s1 => cases f with
      | nx => rw [seqK_0, seqK_0]; exact evB_app b a s1
      | _ => rfl
    | exc c d s1 => rfl
    | bad => rfl
theorem r11' {wf n : Nat} (rooms : Nat) (hr : rooms ≤ 1000) (ls : List Int) (hl : ls.length < 1000) (hx : ∀ x ∈ ls, 0 ≤ x ∧ x ≤ 1000) : rn wf (n + 1) 11 [.imm (dT ls), .imm (.int rooms)] = .ok (.imm (prD (shareN rooms ls))) [] := r11 wf n rooms (by omega) ls hl hx
def sh (s : Nat) (r : List Int) : D := prD (shareN s r)
def leastF (l s : Int × Int) : Int × Int := if s.1 * l.2 < l.1 * s.2 then s else l
/-- rows the law may go through -/
def RowsOk (rows : List (List Int)) : Prop := rows.length ≤ lim ∧ ∀ r ∈ rows, r.length < 1000 ∧ ∀ x ∈ r, 0 ≤ x ∧ x ≤ 1000
theorem Pb_share {rows : List (List Int)} (h : RowsOk rows) (s : Nat) (hs : s ≤ 1000) (r : List Int) (hr : r ∈ rows) : Pb (shareN s r) := by
  obtain ⟨h1, h2⟩ := h.2 r hr
  have := (out_loop (ft := rn 0 0) (wf := 0) (s : Int) (by omega) r [] (0, 1) (by rw [List.length_nil]; omega) h2 ⟨by decide, by decide, by decide, by decide⟩).1
  exact Pb_low this
theorem least_step {ft : FT} {wf : Nat} (v0 v1 v2 v3 v4 v5 v6 v9 v10 v11 v12 v13 v14 v15 v16 v17 : Option OV) (l s : Int × Int) (hl : Pb l) (hs : Pb s) :
    evB wf ft f13b0 [v0, v1, v2, v3, v4, v5, v6, some (.imm (prD l)), some (.imm (prD s)), v9, v10, v11, v12, v13, v14, v15, v16, v17] = .ok .nx [v0, v1, v2, v3, v4, v5, v6, some (.imm (prD (leastF l s))), some (.imm (prD s)), v9, v10, v11, v12, v13, v14, v15, v16, v17] := by
  obtain ⟨h1, h2, h3, h4⟩ := hl
  obtain ⟨k1, k2, k3, k4⟩ := hs
  have e1 : okMul s.1 l.2 = true := okM (by omega) (by omega)
  have e2 : okMul l.1 s.2 = true := okM (by omega) (by omega)
  unfold leastF
  by_cases h : s.1 * l.2 < l.1 * s.2
  · simp [f13b0, prD, e1, e2, h]
  · simp [f13b0, prD, e1, e2, h]
theorem least_loop {ft : FT} {wf : Nat} (v0 v1 v2 v3 v4 v5 v6 v9 v10 v11 v12 v13 v14 v15 v16 v17 : Option OV) : ∀ (ss : List (Int × Int)) (l : Int × Int) (x : Option OV), (∀ s ∈ ss, Pb s) → Pb l →
    Pb (ss.foldl leastF l) ∧ ∃ x', forL wf ft (.nm 8) f13b0 [] (ss.map prD) [v0, v1, v2, v3, v4, v5, v6, some (.imm (prD l)), x, v9, v10, v11, v12, v13, v14, v15, v16, v17] = .ok .nx [v0, v1, v2, v3, v4, v5, v6, some (.imm (prD (ss.foldl leastF l))), x', v9, v10, v11, v12, v13, v14, v15, v16, v17]
  | [], l, x, _, h => ⟨h, x, rfl⟩
  | s :: ss, l, x, h, hl => by
    have hs := h s (by simp)
    have q : Pb (leastF l s) := by unfold leastF; split <;> assumption
    obtain ⟨i1, x', i2⟩ := least_loop (ft := ft) (wf := wf) v0 v1 v2 v3 v4 v5 v6 v9 v10 v11 v12 v13 v14 v15 v16 v17 ss (leastF l s) (some (.imm (prD s))) (fun y hy => h y (by simp [hy])) q
    refine ⟨i1, x', ?_⟩
    rw [List.map_cons]
    exact Eq.trans (forL_cons (s1 := [v0, v1, v2, v3, v4, v5, v6, some (.imm (prD l)), some (.imm (prD s)), v9, v10, v11, v12, v13, v14, v15, v16, v17]) (tb_nm.trans rfl) (least_step v0 v1 v2 v3 v4 v5 v6 v9 v10 v11 v12 v13 v14 v15 v16 v17 l s hl hs)) i2
def sa : List PV.St := (f13.body.drop 3).take 4
def sb : List PV.St := (f13.body.drop 7).take 2
def sc : List PV.St := (f13.body.drop 9).take 2
abbrev iv (n : Nat) : Option OV := some (.imm (.int n))
def leastN (s : Nat) : List (List Int) → Int × Int
  | [] => (0, 1)
  | r :: rows => ((r :: rows).map (shareN s)).foldl leastF (shareN s r)
theorem semI_0 {x : D} {xs : List D} : semI (.list (x :: xs)) (.int 0) = some (.imm x) := by
  unfold semI
  rw [ix_l]
  unfold L2.atI L2.ixN
  rw [if_pos (by omega), if_pos (by rw [List.length_cons]; omega)]
  rfl
theorem seg_a {wf n : Nat} (v0 v1 : Option OV) (c m s : Nat) (hm : 0 < m ∧ m ≤ 1000) (hc : c < 1000) (hs : s ≤ 1000) (hl : c * m ^ c ≤ lim) (rows : List (List Int)) (he : runsN c m c [] [[]] = rows) (h0 : rows ≠ []) (hr : RowsOk rows) :
    ∃ x, evB wf (rn wf (n + 5)) sa [v0, v1, iv c, iv m, iv s, none, none, none, none, none, none, none, none, none, none, none, none, none]
      = .ok .nx [v0, v1, iv c, iv m, iv s, some (.imm (.list (dR rows))), some (.imm (.list (rows.map (sh s)))), some (.imm (prD (leastN s rows))), x, none, none, none, none, none, none, none, none, none] := by
  have e12 := r12 wf (n + 4) c m hm hc hl
  rw [he] at e12
  have e6 := cmpL_nm (ft := rn wf (n + 5)) (i := 15) (cs := []) (e := (.frz (.call 11 [(.var 15), (.var 4)] [0, 1]))) dT (fun _ => true) (fun r => .imm (sh s r))
    (s := [v0, v1, iv c, iv m, iv s, some (.imm (.list (dR rows))), none, none, none, none, none, none, none, none, none, none, none, none]) rows rfl
    (fun r _ => by simp) (fun r hx _ => by
      have := r11' (wf := wf) (n := n + 4) s hs r (hr.2 r hx).1 (hr.2 r hx).2
      simp [this, sh]) hr.1
  rw [List.filter_eq_self.mpr (fun _ _ => rfl), show rows.map (fun r => OV.imm (sh s r)) = (rows.map (sh s)).map .imm from (List.map_map).symm] at e6
  change cmpL _ _ _ _ (dR rows) _ = _ at e6
  have e7 : semI (.list (rows.map (sh s))) (.int 0) = some (.imm (prD (shareN s (rows.headD [])))) := by
    cases rows with
    | nil => exact absurd rfl h0
    | cons r rs => exact semI_0
  have hp : Pb (shareN s (rows.headD [])) := by
    cases rows with
    | nil => exact absurd rfl h0
    | cons r rs => exact Pb_share hr s hs r (by simp)
  obtain ⟨_, x, e8⟩ := least_loop (ft := rn wf (n + 5)) (wf := wf) v0 v1 (iv c) (iv m) (iv s) (some (.imm (.list (dR rows)))) (some (.imm (.list (rows.map (sh s))))) none none none none none none none none none (rows.map (shareN s)) (shareN s (rows.headD [])) none (fun y hy => by
    obtain ⟨r, hr', rfl⟩ := List.mem_map.mp hy
    exact Pb_share hr s hs r hr') hp
  have e9 : (rows.map (shareN s)).map prD = rows.map (sh s) := List.map_map
  rw [e9] at e8
  have e10 : (rows.map (shareN s)).foldl leastF (shareN s (rows.headD [])) = leastN s rows := by
    cases rows with
    | nil => exact absurd rfl h0
    | cons r rs => rfl
  rw [e10] at e8
  refine ⟨x, ?_⟩
  clear e9 e10 hp
  generalize rows.map (sh s) = dS at *
  generalize shareN s (rows.headD []) = p0 at *
  simp [sa, f13, e12, e6, e7, e8]
def lenI (r : List Int) : Int := (r.length : Int)
def fewN (rows : List (List Int)) : Int := match rows.map lenI with
  | [] => 0
  | n :: ns => ns.foldl Min.min n
def dueB (s : Nat) (rows : List (List Int)) (r : List Int) : Bool := decide (lenI r = fewN rows) && decide (shareN s r = leastN s rows)
theorem len_dT (r : List Int) : BI.sem .len [dT r] = some (.imm (.int (lenI r))) := by
  show some (OV.imm (.int ((dI r).length : Int))) = _
  rw [dI_len]; rfl
theorem seg_b {ft : FT} {wf : Nat} (v0 v1 v2 v3 v4 x : Option OV) (s : Nat) (rows : List (List Int)) (h0 : rows ≠ []) (hr : RowsOk rows) (hd : (rows.filter (dueB s rows)).Pairwise fun a b => leB a b = true) (hn : ∀ r ∈ rows, r ≠ []) :
    evB wf ft sb [v0, v1, v2, v3, v4, some (.imm (.list (dR rows))), some (.imm (.list (rows.map (sh s)))), some (.imm (prD (leastN s rows))), x, none, none, none, none, none, none, none, none, none]
      = .ok .nx [v0, v1, v2, v3, v4, some (.imm (.list (dR rows))), some (.imm (.list (rows.map (sh s)))), some (.imm (prD (leastN s rows))), none, some (.imm (.int (fewN rows))), some (.ol (oR (rows.filter (dueB s rows)))), none, none, none, none, none, none, none] := by
  have e1 := cmpL_nm (ft := ft) (i := 15) (cs := []) (e := (.blt .len [(.pk 15)])) dT (fun _ => true) (fun r => .imm (.int (lenI r)))
    (s := [v0, v1, v2, v3, v4, some (.imm (.list (dR rows))), some (.imm (.list (rows.map (sh s)))), some (.imm (prD (leastN s rows))), x, none, none, none, none, none, none, none, none, none]) rows rfl
    (fun r _ => by simp) (fun r hx _ => by simp [len_dT]) hr.1
  rw [List.filter_eq_self.mpr (fun _ _ => rfl), show rows.map (fun r => OV.imm (.int (lenI r))) = oI (rows.map lenI) from by unfold oI; rw [List.map_map]; rfl] at e1
  change cmpL _ _ _ _ (dR rows) _ = _ at e1
  have e2 : BI.sem .min [.list (dI (rows.map lenI))] = some (.imm (.int (fewN rows))) := by
    cases rows with
    | nil => exact absurd rfl h0
    | cons r rs => exact min_of _ _
  have e3 := cmpL_tp (ft := ft) (i := 15) (j := 8) (cs := [(.and_ (.cmp .eq (.blt .len [(.pk 15)]) (.pk 9)) (.cmp .eq (.pk 8) (.pk 7)))]) (e := (.var 15)) dT (sh s) (dueB s rows) (fun r => .imm (dT r))
    (s := [v0, v1, v2, v3, v4, some (.imm (.list (dR rows))), some (.imm (.list (rows.map (sh s)))), some (.imm (prD (leastN s rows))), none, some (.imm (.int (fewN rows))), none, none, none, none, none, none, none, none]) rows rfl (by decide)
    (fun r _ => by
      by_cases h : lenI r = fewN rows
      · simp [len_dT, sh, eq_prD, dueB, h]
      · simp [len_dT, sh, eq_prD, dueB, h]) (fun r hx _ => by simp) hr.1
  have e4 := src_zip dT (sh s) rows
  change srcOf .zip [.list (dR rows), .list (rows.map (sh s))] = _ at e4
  change cmpL _ _ _ _ _ _ = .ok (oR (rows.filter (dueB s rows))) _ at e3
  have e5 : sortOk (dR (rows.filter (dueB s rows))) = true := sortOk_dR _ fun r hr => hn r (List.mem_filter.mp hr).1
  have e6 := sort_dR _ hd
  have e7 : (rows.filter (dueB s rows)).length ≤ lim := Nat.le_trans (List.length_filter_le _ _) hr.1
  have e8 : Tgt.slots (.tp [.nm 15, .nm 8]) = [15, 8] := rfl
  generalize hz : (rows.map fun x => PyData.tuple [dT x, sh s x]) = Z at *
  generalize rows.map (sh s) = dS at *
  generalize rows.map lenI = L at *
  generalize rows.filter (dueB s rows) = Du at *
  simp [sb, f13, e1, e2, e3, e4, e5, e6, e7, e8]
end Qk47
end
section
set_option Elab.async false
set_option linter.all false
set_option maxRecDepth 100000
set_option maxHeartbeats 1000000
/-! k47, plain part 8: the law's tests of small lists. -/
namespace Qk47
open PySem PV PX PySem.W
theorem eqn_dR (l : List (List Int)) : semC .eq (.list (dR l)) (.list []) = some (.imm (.bool (decide (l = [])))) ∧ semC .ne (.list (dR l)) (.list []) = some (.imm (.bool (!decide (l = [])))) := by
  have h : Pd 3 (.list (dR l)) := pd_lst (n := 2) fun d hd => by
    obtain ⟨i, _, rfl⟩ := List.mem_map.mp hd
    exact Pd_dT i
  have k : Pd 1 (.list []) := pd_lst (n := 0) fun d hd => by cases hd
  have e : eqOk (.list (dR l)) (.list []) = true := eqOk_of h k (by decide) (by decide)
  have q : PyData.eqv (.list (dR l)) (.list []) = decide (l = []) := by
    cases l with
    | nil => exact (eqv_iff _ _ k.1 k.1).mpr rfl
    | cons x l =>
      cases z : PyData.eqv (.list (dR (x :: l))) (.list []) with
      | false => simp
      | true =>
        have := (eqv_iff _ _ h.1 k.1).mp z
        injection this with this
        cases this
  unfold semC
  rw [c_eq, c_ne, if_pos e, if_pos e, q]
  exact ⟨rfl, rfl⟩
/-- small enough to be shown -/
def shB (d : D) : Bool := sm d && decide (d.bulk ≤ 1000000)
theorem reprOk_sh {d : D} (h : shB d = true) (k : d.depth ≤ 64) : reprOk d = true := by
  unfold shB at h
  rw [Bool.and_eq_true, decide_eq_true_eq] at h
  exact reprOk_of h.1 k h.2
theorem ne_shown {d : D} (h : pn d = true) : semC .ne (.str d.shown) (.str d.shown) = some (.imm (.bool false)) := by
  unfold semC
  rw [(repr_same h).1]
  rfl
def moreB (s : Nat) (rows : List (List Int)) (r : List Int) : Bool := decide (fewN rows < lenI r) && decide (shareN s r = leastN s rows)
theorem seg_c {wf n : Nat} (v0 v1 : Option OV) (c m s : Nat) (hc : 1 ≤ c ∧ c ≤ 40) (hm : 1 ≤ m ∧ m ≤ 8) (hs : 1 ≤ s ∧ s ≤ 5) (hl : m ^ manyN c m ≤ lim) (rows : List (List Int)) (hr : RowsOk rows)
    (hd : rows.filter (dueB s rows) ≠ []) (hb : bestN c m s = (leastN s rows, rows.filter (dueB s rows))) (hp : shB (ans (leastN s rows) (rows.filter (dueB s rows))) = true)
    (hq : (decide ((s : Int) < fewN rows) && (decide ((1 : Int) < s) && !decide (rows.filter (moreB s rows) = []))) = false) :
    evB wf (rn wf (n + 5)) sc [v0, v1, iv c, iv m, iv s, some (.imm (.list (dR rows))), some (.imm (.list (rows.map (sh s)))), some (.imm (prD (leastN s rows))), none, some (.imm (.int (fewN rows))), some (.ol (oR (rows.filter (dueB s rows)))), none, none, none, none, none, none, none]
      = .ok .nx [v0, v1, iv c, iv m, iv s, some (.imm (.list (dR rows))), some (.imm (.list (rows.map (sh s)))), some (.imm (prD (leastN s rows))), none, some (.imm (.int (fewN rows))), some (.ol (oR (rows.filter (dueB s rows)))), none, none, none, none, none, none, none] := by
  have e3 := cmpL_tp (ft := rn wf (n + 5)) (i := 15) (j := 8) (cs := [(.and_ (.cmp .gt (.blt .len [(.pk 15)]) (.pk 9)) (.cmp .eq (.pk 8) (.pk 7)))]) (e := (.var 15)) dT (sh s) (moreB s rows) (fun r => .imm (dT r))
    (s := [v0, v1, iv c, iv m, iv s, some (.imm (.list (dR rows))), some (.imm (.list (rows.map (sh s)))), some (.imm (prD (leastN s rows))), none, some (.imm (.int (fewN rows))), some (.ol (oR (rows.filter (dueB s rows)))), none, none, none, none, none, none, none]) rows rfl (by decide)
    (fun r _ => by
      by_cases h : fewN rows < lenI r
      · simp [len_dT, sh, eq_prD, moreB, h]
      · simp [len_dT, sh, eq_prD, moreB, h]) (fun r hx _ => by simp) hr.1
  have e4 := src_zip dT (sh s) rows
  change srcOf .zip [.list (dR rows), .list (rows.map (sh s))] = _ at e4
  change cmpL _ _ _ _ _ _ = .ok (oR (rows.filter (moreB s rows))) _ at e3
  have e7 := r7 wf (n + 1) c m s hc hm hs hl
  rw [bestD_N, hb] at e7
  simp only at e7
  have hA := Pd_ans (leastN s rows) (rows.filter (dueB s rows))
  have e8 := reprOk_sh hp (Nat.le_trans hA.2 (by decide))
  have e9 := ne_shown hA.1
  have e10 := (eqn_dR (rows.filter (dueB s rows))).1
  rw [decide_eq_false hd] at e10
  have e11 := (eqn_dR (rows.filter (moreB s rows))).2
  have e12 : Tgt.slots (.tp [.nm 15, .nm 8]) = [15, 8] := rfl
  have e13 : O2.add.sem (prD (leastN s rows)) (.tuple [.tuple (dR (rows.filter (dueB s rows)))]) = some (.imm (ans (leastN s rows) (rows.filter (dueB s rows)))) := by
    unfold prD ans
    rw [o_addT, if_pos (by unfold lim; simp)]
    rfl
  generalize hz : (rows.map fun x => PyData.tuple [dT x, sh s x]) = Z at *
  generalize rows.map (sh s) = dS at *
  generalize rows.filter (moreB s rows) = Mo at *
  generalize rows.filter (dueB s rows) = Du at *
  generalize leastN s rows = le at *
  generalize fewN rows = fe at *
  by_cases h1 : (s : Int) < fe
  · by_cases h2 : 1 < s
    · have h2' : (1 : Int) < s := by omega
      rw [decide_eq_true h1, decide_eq_true h2'] at hq
      simp at hq
      subst hq
      have e14 : semC .ne (.list []) (.list []) = some (.imm (.bool false)) := (eqn_dR []).2
      simp [sc, f13, e3, e4, e7, e8, e9, e10, e14, e12, e13, h1, h2, h2']
    · have h2' : ¬ (1 : Int) < s := by omega
      simp [sc, f13, e3, e4, e7, e8, e9, e10, e11, e12, e13, h1, h2, h2']
  · simp [sc, f13, e3, e4, e7, e8, e9, e10, e11, e12, e13, h1]
end Qk47
end
section
set_option Elab.async false
set_option linter.all false
set_option maxRecDepth 100000
set_option maxHeartbeats 1000000
/-! k47, plain part 9: greater lists. -/
namespace Qk47
open PySem PV PX PySem.W
def sd : List PV.St := (f13.body.drop 12).take 2
def rowG (m t : Nat) (e o : Int) : List Int := e :: (List.replicate t (m : Int) ++ [o])
/-- the cells left for both ends -/
def dueG (m t : Nat) (w : Int) : List (List Int) := ((intsL 1 m).filter fun e => decide (1 ≤ w - e) && decide (w - e ≤ m)).map fun e => rowG m t e (w - e)
theorem flat_rep {α : Type} (x : α) : ∀ t : Nat, (List.replicate t [x]).flatten = List.replicate t x
  | 0 => rfl
  | t + 1 => by rw [List.replicate_succ, List.flatten_cons, flat_rep x t]; rfl
theorem dI_rep (t : Nat) (x : Int) : dI (List.replicate t x) = List.replicate t (.int x) := List.map_replicate
theorem ans_2 (p : Int × Int) (l : List (List Int)) : semI (ans p l) (.int 2) = some (.imm (.tuple (dR l))) := rfl
theorem ans_to (p : Int × Int) (l : List (List Int)) : slcD (ans p l) none (some 2) = some (.imm (prD p)) := rfl
theorem many_cast (c m : Nat) (h : 0 < m) : ((c : Int) + m - 1) / m = ((manyN c m : Nat) : Int) := by
  unfold manyN
  rw [Int.natCast_ediv]
  congr 1
  omega
theorem seg_d1 {wf n : Nat} (v0 v1 v5 v6 v7 v9 v10 : Option OV) (c m s : Nat) (hc : 1 ≤ c ∧ c ≤ 40) (hm : 1 ≤ m ∧ m ≤ 8) (hs : 1 ≤ s ∧ s ≤ 5) (hl : m ^ manyN c m ≤ lim) (t : Nat) (ht : manyN c m = t + 2) (ht' : t ≤ 40) (ht1 : 1 ≤ t) (hq : s < t + 2) (hw : ((t : Int) * m).natAbs < 1000)
    (hd : dueG m t ((c : Int) - t * m) ≠ []) (hb : bestN c m s = (shareN s ((dueG m t ((c : Int) - t * m)).headD []), dueG m t ((c : Int) - t * m)))
    (hr : ∀ x ∈ (dueG m t ((c : Int) - t * m)).headD [], 0 ≤ x ∧ x ≤ 1000) (hr2 : ((dueG m t ((c : Int) - t * m)).headD []).length < 1000)
    (hp : shB (.tuple (dR (dueG m t ((c : Int) - t * m)))) = true) (hp' : shB (prD (shareN s ((dueG m t ((c : Int) - t * m)).headD []))) = true) :
    ∃ v10' v11 v12 v14, evB wf (rn wf (n + 5)) sd [v0, v1, iv c, iv m, iv s, v5, v6, v7, none, v9, v10, none, none, none, none, none, none, none]
      = .ok .nx [v0, v1, iv c, iv m, iv s, v5, v6, v7, none, v9, v10', v11, v12, none, v14, none, none, none] := by
  have e1 := r7 wf (n + 1) c m s hc hm hs hl
  rw [bestD_N, hb] at e1
  simp only at e1
  have e2 := many_cast c m (by omega)
  obtain ⟨T, hT⟩ : ∃ T : Int, T = ((t + 2 : Nat) : Int) := ⟨_, rfl⟩
  rw [ht, ← hT] at e2
  have e3 := range_of (a := 1) (b := (m : Int) + 1) (by omega) (by omega) (by omega) (by omega)
  rw [show ((m : Int) + 1 - 1).toNat = m by omega] at e3
  have e4 : T - 2 = (t : Int) := by omega
  have e5 : okMul (t : Int) (m : Int) = true := okM (by omega) (by omega)
  have e6 := cmpL_nm (ft := rn wf (n + 5)) (i := 16) (cs := []) (e := (.tup [(.var 16), (.op2 .sub (.op2 .sub (.pk 2) (.op2 .mul (.op2 .sub (.pk 12) (.lit (.int 2))) (.pk 3))) (.pk 16))])) PyData.int (fun _ => true) (fun e => .imm (.tuple [.int e, .int ((c : Int) - t * m - e)]))
    (s := [v0, v1, iv c, iv m, iv s, v5, v6, v7, none, v9, v10, some (.imm (ans (shareN s ((dueG m t ((c : Int) - t * m)).headD [])) (dueG m t ((c : Int) - t * m)))), some (.imm (.int T)), none, none, none, none, none]) (intsL 1 m) rfl
    (fun r _ => by simp) (fun r _ _ => by
      simp [e4, e5]) (by rw [intsL_len]; unfold lim; omega)
  generalize hw' : (c : Int) - t * m = w at *
  rw [List.filter_eq_self.mpr (fun _ _ => rfl), show (intsL 1 m).map (fun e => OV.imm (.tuple [.int e, .int (w - e)])) = ((intsL 1 m).map (fun e => PyData.tuple [.int e, .int (w - e)])).map .imm from by rw [List.map_map]; rfl] at e6
  change cmpL _ _ _ _ (dI (intsL 1 m)) _ = _ at e6
  generalize hdu : dueG m t w = du at *
  have e7 := cmpL_tp (ft := rn wf (n + 5)) (i := 16) (j := 17) (cs := [(.chn .le .le (.lit (.int 1)) (.pk 17) (.pk 3))]) (e := (.op2 .add (.op2 .add (.tup [(.var 16)]) (.op2 .mul (.tup [(.var 3)]) (.op2 .sub (.pk 12) (.lit (.int 2))))) (.tup [(.var 17)]))) PyData.int (fun e => .int (w - e)) (fun e => decide (1 ≤ w - e) && decide (w - e ≤ m)) (fun e => .imm (dT (rowG m t e (w - e))))
    (s := [v0, v1, iv c, iv m, iv s, v5, v6, v7, none, v9, v10, some (.imm (ans (shareN s (du.headD [])) du)), some (.imm (.int T)), none, some (.imm (.list ((intsL 1 m).map (fun e => PyData.tuple [.int e, .int (w - e)])))), none, none, none]) (intsL 1 m) rfl (by decide)
    (fun e _ => by simp [e4]) (fun e _ _ => by
      have f1 : (0 : Int) < t ∧ (t : Int) ≤ 1000 := by omega
      have f2 : O2.mul.sem (.tuple [.int (m : Int)]) (.int (t : Int)) = some (.imm (.tuple (dI (List.replicate t (m : Int))))) := by
        show (if 1 ≤ (t : Int) ∧ (t : Int) ≤ 1000 ∧ [PyData.int (m : Int)].length ≤ 1000 ∧ [PyData.int (m : Int)] ≠ [] then some (OV.imm (.tuple (List.replicate (t : Int).toNat [PyData.int (m : Int)]).flatten)) else none) = _
        rw [if_pos ⟨by omega, by omega, by simp, by simp⟩, Int.toNat_natCast, flat_rep, dI_rep]
      have f3 : ([PyData.int e] ++ dI (List.replicate t (m : Int))).length ≤ lim := by simp [lim]; omega
      have f4 : (([PyData.int e] ++ dI (List.replicate t (m : Int))) ++ [PyData.int (w - e)]).length ≤ lim := by simp [lim]; omega
      simp at f3 f4
      have f5 : 1 + t ≤ lim := by omega
      simp [e4, f2, f3, f4, f5, dT, rowG, dI_app]) (by rw [intsL_len]; unfold lim; omega)
  have e8 : (((intsL 1 m).filter fun e => decide (1 ≤ w - e) && decide (w - e ≤ m)).map fun e => OV.imm (dT (rowG m t e (w - e)))) = oR du := by
    rw [← hdu]
    unfold oR dueG
    rw [List.map_map]; rfl
  rw [e8] at e7
  have e9 : semI (.list (dR du)) (.int 0) = some (.imm (dT (du.headD []))) := by
    cases du with
    | nil => exact absurd rfl hd
    | cons r rs => exact semI_0
  have e10 := r11' (wf := wf) (n := n + 4) s (by omega) (du.headD []) hr2 hr
  have hA := Pd_dR du
  have hB := Pd_prD (shareN s (du.headD []))
  have k1 := reprOk_sh hp (Nat.le_trans hA.2 (by decide))
  have k2 := reprOk_sh hp' (Nat.le_trans hB.2 (by decide))
  have k3 := ne_shown hA.1
  have k4 := ne_shown hB.1
  have k5 := ans_2 (shareN s (du.headD [])) du
  have k6 := ans_to (shareN s (du.headD [])) du
  have k7 : (s : Int) < T := by omega
  have k11 : 0 < m := by omega
  have k8 : Tgt.slots (.tp [.nm 16, .nm 17]) = [16, 17] := rfl
  have k9 : (0 : Int) < m ∧ (m : Int) < 1073741824 := by omega
  generalize ((intsL 1 m).map (fun e => PyData.tuple [PyData.int e, .int (w - e)])) = Z at *
  generalize du.headD [] = r0 at *
  generalize shareN s r0 = p at *
  generalize ans p du = AN at *
  refine ⟨some (.ol (oR du)), some (.imm AN), some (.imm (.int T)), some (.imm (.list Z)), ?_⟩
  simp [sd, f13, e1, e2, e3, e6, e7, e9, e10, k1, k2, k3, k4, k5, k6, k7, k8, k9, k11]
/-- a row of so many runs of at most so many cells -/
def badG (c m k : Nat) (r : List Int) : Bool := !decide (lenI r = k) || (!decide (r.sum = c) || decide ((m : Int) < match r with | [] => 0 | n :: ns => ns.foldl Max.max n))
theorem max_dT (n : Int) (ns : List Int) : BI.sem .max [dT (n :: ns)] = some (.imm (.int (ns.foldl Max.max n))) := by
  show (match intsOf (dI (n :: ns)) with | some (n :: ns) => some (OV.imm (.int (ns.foldl Max.max n))) | _ => none) = _
  rw [intsOf_dI]
theorem ne_intN (a b : Int) : semC .ne (.int a) (.int b) = some (.imm (.bool (!decide (a = b)))) := ne_ints
theorem seg_d2 {wf n : Nat} (v0 v1 v5 v6 v7 v9 v10 : Option OV) (c m s : Nat) (hc : 1 ≤ c ∧ c ≤ 40) (hm : 1 ≤ m ∧ m ≤ 8) (hs : 1 ≤ s ∧ s ≤ 5) (hl : m ^ manyN c m ≤ lim) (hq : manyN c m ≤ s) (l : List (List Int))
    (hb : bestN c m s = ((0, 1), l)) (hn : ∀ r ∈ l, r ≠ []) (hg : l.filter (badG c m (manyN c m)) = []) (hl' : l.length ≤ lim) :
    ∃ v11 v12, evB wf (rn wf (n + 5)) sd [v0, v1, iv c, iv m, iv s, v5, v6, v7, none, v9, v10, none, none, none, none, none, none, none]
      = .ok .nx [v0, v1, iv c, iv m, iv s, v5, v6, v7, none, v9, v10, v11, v12, none, none, none, none, none] := by
  have e1 := r7 wf (n + 1) c m s hc hm hs hl
  rw [bestD_N, hb] at e1
  simp only at e1
  have e2 := many_cast c m (by omega)
  obtain ⟨T, hT⟩ : ∃ T : Int, T = ((manyN c m : Nat) : Int) := ⟨_, rfl⟩
  rw [← hT] at e2
  have k7 : ¬ (s : Int) < T := by omega
  have k5 := ans_2 (0, 1) l
  have k6 := ans_to (0, 1) l
  have k4 := ne_same (Pd_prD (0, 1)).1 (Nat.le_trans (Pd_prD (0, 1)).2 (by decide))
  change semC .ne (prD (0, 1)) (.tuple [.int 0, .int 1]) = _ at k4
  have k9 : (0 : Int) < m ∧ (m : Int) < 1073741824 := by omega
  have k11 : 0 < m := by omega
  generalize ans (0, 1) l = AN at *
  have e6 := cmpL_nm (ft := rn wf (n + 5)) (i := 15) (cs := [(.or_ (.cmp .ne (.blt .len [(.pk 15)]) (.pk 12)) (.or_ (.cmp .ne (.blt .sum [(.pk 15)]) (.pk 2)) (.cmp .gt (.blt .max [(.pk 15)]) (.pk 3))))]) (e := (.var 15)) dT (badG c m (manyN c m)) (fun r => .imm (dT r))
    (s := [v0, v1, iv c, iv m, iv s, v5, v6, v7, none, v9, v10, some (.imm AN), some (.imm (.int T)), none, none, none, none, none]) l rfl
    (fun r hr => by
      cases r with
      | nil => exact absurd rfl (hn _ hr)
      | cons x xs =>
        unfold badG
        rw [← hT]
        have q1 := len_dT (x :: xs)
        have q2 := sum_dT (x :: xs)
        have q3 := max_dT x xs
        generalize dT (x :: xs) = R at *
        generalize lenI (x :: xs) = L at *
        generalize (x :: xs).sum = S at *
        by_cases h1 : L = T
        · by_cases h2 : S = (c : Int)
          · simp [q1, q2, q3, h1, h2]
          · simp [q1, q2, q3, h1, h2]
        · simp [q1, q2, q3, h1]) (fun r hx _ => by simp) hl'
  change cmpL _ _ _ _ (dR l) _ = .ok (oR (l.filter (badG c m (manyN c m)))) _ at e6
  rw [hg, oR_nil] at e6
  have e14 : semC .ne (.list []) (.list []) = some (.imm (.bool false)) := (eqn_dR []).2
  refine ⟨some (.imm AN), some (.imm (.int T)), ?_⟩
  simp [sd, f13, e1, e2, e6, k4, k5, k6, k7, k9, k11, e14]
end Qk47
end
section
set_option Elab.async false
set_option linter.all false
set_option maxRecDepth 100000
set_option maxHeartbeats 1000000
/-! k47, plain part 10: refusals. -/
namespace Qk47
open PySem PV PX PySem.W
def w1 : List D := [.int 0, .int 41, .int (-1), .none, .bool true, .str "9"]
def w2 : List D := [.int 0, .int 9, .none, .bool true]
def w3 : List D := [.int 0, .int 6, .none, .bool true]
theorem bad1 (wf n : Nat) (w : D) (h : w ∈ w1) : rn wf (n + 4) 7 [.imm w, .imm (.int 0), .imm (.int 0)] = .exc 3 (.str "cells") [] := by
  rw [F7]
  simp only [w1, List.mem_cons, List.not_mem_nil, or_false] at h
  rcases h with rfl | rfl | rfl | rfl | rfl | rfl <;> simp [f7]
theorem bad2 (wf n : Nat) (c : Nat) (hc : 1 ≤ c ∧ c ≤ 40) (w : D) (h : w ∈ w2) : rn wf (n + 4) 7 [.imm (.int c), .imm w, .imm (.int 0)] = .exc 1 (.int (-1)) [] := by
  have q5 : ¬ ((c : Int) < 0 ∨ (c : Int) < 1 ∨ (40 : Int) < c) := by omega
  rw [F7]
  simp only [w2, List.mem_cons, List.not_mem_nil, or_false] at h
  rcases h with rfl | rfl | rfl | rfl <;> simp [f7, r5, q5, r3]
theorem bad3 (wf n : Nat) (c m : Nat) (hc : 1 ≤ c ∧ c ≤ 40) (hm : 1 ≤ m ∧ m ≤ 8) (w : D) (h : w ∈ w3) : rn wf (n + 4) 7 [.imm (.int c), .imm (.int m), .imm w] = .exc 2 (.int (-1)) [] := by
  have q5 : ¬ ((c : Int) < 0 ∨ (c : Int) < 1 ∨ (40 : Int) < c) := by omega
  have q3 : ¬ ((m : Int) < 0 ∨ (m : Int) < 1 ∨ (8 : Int) < m) := by omega
  rw [F7]
  simp only [w3, List.mem_cons, List.not_mem_nil, or_false] at h
  rcases h with rfl | rfl | rfl | rfl <;> simp [f7, r5, q5, r3, q3, r2]
theorem of_mem {wf n : Nat} (hw : 64 ≤ wf) {v : OV} (hv : SrcOk v) (ds : List D) (hb : 0 < ds.length ∧ ds.length < 1073741824) : ∃ v' w, SrcOk v' ∧ w ∈ ds ∧ rn wf (n + 2) 10 [v, .ol (ds.map .imm)] = .ok (.imm w) [v'] := by
  obtain ⟨v', i, h1, h2, h3⟩ := of_ok (n := n) hw hv ds hb
  refine ⟨v', _, h1, ?_, h3⟩
  rw [List.getElem?_eq_getElem h2]
  exact List.getElem_mem h2
def se : List PV.St := f13.body.drop 14
theorem nes {d : D} (h : eqOk d d = true) (k : PyData.eqv d d = true) : semC .ne d d = some (.imm (.bool false)) ∧ semC .eq d d = some (.imm (.bool true)) := by
  unfold semC
  rw [c_ne, c_eq, if_pos h, if_pos h, k]
  exact ⟨rfl, rfl⟩
theorem t1 : semC .ne (.tuple [.str "size", .str "cells"]) (.tuple [.str "size", .str "cells"]) = some (.imm (.bool false)) := (nes (by decide +kernel) (by decide +kernel)).1
theorem t2 : semC .ne (.tuple [.str "room", .int (-1)]) (.tuple [.str "room", .int (-1)]) = some (.imm (.bool false)) := (nes (by decide +kernel) (by decide +kernel)).1
theorem t3 : semC .eq (.tuple [.str "rooms", .int (-1)]) (.tuple [.str "rooms", .int (-1)]) = some (.imm (.bool true)) := (nes (by decide +kernel) (by decide +kernel)).2
theorem seg_e {wf n : Nat} (hw : 64 ≤ wf) (v0 : Option OV) (v1 : OV) (h1 : SrcOk v1) (c m : Nat) (v4 v5 v6 v7 v9 v10 v11 v12 v14 : Option OV) (hc : 1 ≤ c ∧ c ≤ 40) (hm : 1 ≤ m ∧ m ≤ 8) :
    ∃ s', evB wf (rn wf (n + 5)) se [v0, some v1, iv c, iv m, v4, v5, v6, v7, none, v9, v10, v11, v12, none, v14, none, none, none] = .ok (.rt (.imm (.bool true))) s' := by
  obtain ⟨v2, x1, h2, k1, e1⟩ := of_mem (n := n + 3) hw h1 w1 (by decide)
  obtain ⟨v3, x2, h3, k2, e2⟩ := of_mem (n := n + 3) hw h2 w2 (by decide)
  obtain ⟨v4', x3, h4, k3, e3⟩ := of_mem (n := n + 3) hw h3 w3 (by decide)
  have b1 := bad1 wf (n + 1) x1 k1
  have b2 := bad2 wf (n + 1) c hc x2 k2
  have b3 := bad3 wf (n + 1) c m hc hm x3 k3
  simp only [w1, w2, w3, List.map_cons, List.map_nil] at e1 e2 e3
  simp [se, f13, e1, e2, e3, b1, b2, b3, semN, told, HE.ev, HE.evs, t1, t2, t3]
end Qk47
end
section
set_option Elab.async false
set_option linter.all false
set_option maxRecDepth 100000
set_option maxHeartbeats 1000000
/-! k47, plain part 11: the finite part. -/
namespace Qk47
open PySem PV PX PySem.W
def rowsOkB (rows : List (List Int)) : Bool := decide (rows.length ≤ lim) && rows.all fun r => decide (r.length < 1000) && (r.all fun x => decide (0 ≤ x) && decide (x ≤ 1000)) && (match r with | [] => false | _ => true)
def pwB : List (List Int) → Bool
  | [] => true
  | r :: rs => (rs.all fun t => leB r t) && pwB rs
def ckA (rows : List (List Int)) (c m s : Nat) : Bool :=
  let le := leastN s rows
  let few := fewN rows
  let all := rows.filter fun r => decide (shareN s r = le)
  let due := all.filter fun r => decide (lenI r = few)
  let mo := all.filter fun r => decide (few < lenI r)
  rowsOkB rows && !decide (due = []) && pwB due && decide (bestN c m s = (le, due)) && shB (ans le due) && !(decide ((s : Int) < few) && (decide ((1 : Int) < s) && !decide (mo = [])))
def okA (c m : Nat) : Bool :=
  let rows := runsN c m c [] [[]]
  !decide (rows = []) && decide (m ^ manyN c m ≤ lim) && decide (c * m ^ c ≤ lim) && (ckA rows c m 1 && ckA rows c m 2 && ckA rows c m 3 && ckA rows c m 4)

theorem kA1 : (List.range 6).all (fun c => okA (c + 1) 1 && okA (c + 1) 2 && okA (c + 1) 3 && okA (c + 1) 4) = true := by decide +kernel
theorem kA2 : (okA 7 1 && okA 7 2 && okA 7 3 && okA 7 4) = true := by decide +kernel
theorem kA3 : (okA 8 1 && okA 8 2 && okA 8 3 && okA 8 4) = true := by decide +kernel
theorem kA4 : (okA 9 1 && okA 9 2 && okA 9 3 && okA 9 4) = true := by decide +kernel
/-- greater lists -/
def okB (c m s : Nat) : Bool :=
  decide (m ^ manyN c m ≤ lim) &&
  (if s < manyN c m then
    let t := manyN c m - 2
    let du := dueG m t ((c : Int) - t * m)
    decide (1 ≤ t) && decide (t ≤ 40) && decide (((t : Int) * m).natAbs < 1000) && !decide (du = []) && decide (bestN c m s = (shareN s (du.headD []), du)) && rowsOkB du && shB (.tuple (dR du)) && shB (prD (shareN s (du.headD [])))
  else
    let b := bestN c m s
    decide (b.1 = (0, 1)) && rowsOkB b.2 && decide (b.2.filter (badG c m (manyN c m)) = []))
theorem kB1 : (List.range 6).all (fun c => (List.range 4).all fun m => okB (c + 10) (m + 5) 2 && okB (c + 10) (m + 5) 3) = true := by decide +kernel
theorem kB2 : (List.range 6).all (fun c => (List.range 4).all fun m => okB (c + 16) (m + 5) 2 && okB (c + 16) (m + 5) 3) = true := by decide +kernel
theorem kB3 : (List.range 6).all (fun c => (List.range 4).all fun m => okB (c + 22) (m + 5) 2 && okB (c + 22) (m + 5) 3) = true := by decide +kernel
theorem kB4 : (List.range 7).all (fun c => (List.range 4).all fun m => okB (c + 28) (m + 5) 2 && okB (c + 28) (m + 5) 3) = true := by decide +kernel
end Qk47
end
section
set_option Elab.async false
set_option linter.all false
set_option maxRecDepth 100000
set_option maxHeartbeats 1000000
/-! k47, plain part 12: the whole law. -/
namespace Qk47
open PySem PV PX PySem.W
theorem okA_all (c m : Nat) (hc : 1 ≤ c ∧ c ≤ 9) (hm : 1 ≤ m ∧ m ≤ 4) : okA c m = true := by
  have a1 := kA1; have a2 := kA2; have a3 := kA3; have a4 := kA4
  rw [List.all_eq_true] at a1
  simp only [Bool.and_eq_true] at a1 a2 a3 a4
  have hm' : m = 1 ∨ m = 2 ∨ m = 3 ∨ m = 4 := by omega
  by_cases h : c ≤ 6
  · have a := a1 (c - 1) (List.mem_range.mpr (by omega))
    rw [show c - 1 + 1 = c by omega] at a
    rcases hm' with rfl | rfl | rfl | rfl
    · exact a.1.1.1
    · exact a.1.1.2
    · exact a.1.2
    · exact a.2
  · have hc' : c = 7 ∨ c = 8 ∨ c = 9 := by omega
    rcases hc' with rfl | rfl | rfl
    · rcases hm' with rfl | rfl | rfl | rfl
      · exact a2.1.1.1
      · exact a2.1.1.2
      · exact a2.1.2
      · exact a2.2
    · rcases hm' with rfl | rfl | rfl | rfl
      · exact a3.1.1.1
      · exact a3.1.1.2
      · exact a3.1.2
      · exact a3.2
    · rcases hm' with rfl | rfl | rfl | rfl
      · exact a4.1.1.1
      · exact a4.1.1.2
      · exact a4.1.2
      · exact a4.2
theorem okB_all (c m s : Nat) (hc : 10 ≤ c ∧ c ≤ 34) (hm : 5 ≤ m ∧ m ≤ 8) (hs : 2 ≤ s ∧ s ≤ 3) : okB c m s = true := by
  have q : okB c m 2 = true ∧ okB c m 3 = true := by
    have a1 := kB1; have a2 := kB2; have a3 := kB3; have a4 := kB4
    rw [List.all_eq_true] at a1 a2 a3 a4
    have hx : m - 5 ∈ List.range 4 := List.mem_range.mpr (by omega)
    by_cases h1 : c < 16
    · have a := List.all_eq_true.mp (a1 (c - 10) (List.mem_range.mpr (by omega))) _ hx
      rw [show c - 10 + 10 = c by omega, show m - 5 + 5 = m by omega, Bool.and_eq_true] at a
      exact a
    · by_cases h2 : c < 22
      · have a := List.all_eq_true.mp (a2 (c - 16) (List.mem_range.mpr (by omega))) _ hx
        rw [show c - 16 + 16 = c by omega, show m - 5 + 5 = m by omega, Bool.and_eq_true] at a
        exact a
      · by_cases h3 : c < 28
        · have a := List.all_eq_true.mp (a3 (c - 22) (List.mem_range.mpr (by omega))) _ hx
          rw [show c - 22 + 22 = c by omega, show m - 5 + 5 = m by omega, Bool.and_eq_true] at a
          exact a
        · have a := List.all_eq_true.mp (a4 (c - 28) (List.mem_range.mpr (by omega))) _ hx
          rw [show c - 28 + 28 = c by omega, show m - 5 + 5 = m by omega, Bool.and_eq_true] at a
          exact a
  have hs' : s = 2 ∨ s = 3 := by omega
  rcases hs' with rfl | rfl
  · exact q.1
  · exact q.2
theorem rowsOk_of {rows : List (List Int)} (h : rowsOkB rows = true) : RowsOk rows ∧ ∀ r ∈ rows, r ≠ [] := by
  unfold rowsOkB at h
  rw [Bool.and_eq_true, decide_eq_true_eq, List.all_eq_true] at h
  refine ⟨⟨h.1, fun r hr => ?_⟩, fun r hr => ?_⟩
  · have := h.2 r hr
    simp only [Bool.and_eq_true, decide_eq_true_eq, List.all_eq_true] at this
    exact this.1
  · have := h.2 r hr
    intro e
    subst e
    simp at this
theorem pw_of : ∀ {rows : List (List Int)}, pwB rows = true → rows.Pairwise fun a b => leB a b = true
  | [], _ => List.Pairwise.nil
  | r :: rs, h => by
    unfold pwB at h
    rw [Bool.and_eq_true, List.all_eq_true] at h
    exact List.Pairwise.cons (fun t ht => h.1 t ht) (pw_of h.2)
def s1 : List PV.St := f13.body.take 3
def s12 : List PV.St := (f13.body.drop 11).take 1
theorem b522 : bestN 5 2 2 = ((1, 3), [[1, 2, 2], [2, 2, 1]]) := by decide +kernel
theorem seg_1 {wf n : Nat} (hw : 64 ≤ wf) (ns : List Int) (hn : ns.length ≤ 63) : ∃ v0 v1 c m s, SrcOk v1 ∧ (1 ≤ c ∧ c ≤ 9) ∧ (1 ≤ m ∧ m ≤ 4) ∧ (1 ≤ s ∧ s ≤ 4) ∧
    evB wf (rn wf (n + 5)) s1 [some (.imm (.list (dI ns))), none, none, none, none, none, none, none, none, none, none, none, none, none, none, none, none, none]
      = .ok .nx [v0, some v1, iv c, iv m, iv s, none, none, none, none, none, none, none, none, none, none, none, none, none] := by
  obtain ⟨a0, h0, e0⟩ := src_ok (wf := wf) (n := n + 4) ns hn
  obtain ⟨a1, i1, h1, j1, k1, e1⟩ := any_ok (n := n + 4) hw h0 9 (by decide)
  obtain ⟨a2, i2, h2, j2, k2, e2⟩ := any_ok (n := n + 4) hw h1 4 (by decide)
  obtain ⟨a3, i3, h3, j3, k3, e3⟩ := any_ok (n := n + 4) hw h2 4 (by decide)
  have e5 : rn wf (n + 1 + 4) 7 [.imm (.int 5), .imm (.int 2), .imm (.int 2)] = .ok (.imm (ans (1, 3) [[1, 2, 2], [2, 2, 1]])) [] := by
    have := r7 wf (n + 1) 5 2 2 (by decide) (by decide) (by decide) (by decide +kernel)
    rw [bestD_N, b522] at this
    exact this
  have e6 : semC .ne (ans (1, 3) [[1, 2, 2], [2, 2, 1]]) (.tuple [.int 1, .int 3, .tuple [.tuple [.int 1, .int 2, .int 2], .tuple [.int 2, .int 2, .int 1]]]) = some (.imm (.bool false)) := ne_ans (1, 3) [[1, 2, 2], [2, 2, 1]]
  refine ⟨some (.imm (.list (dI ns))), a3, (1 + i1).toNat, (1 + i2).toNat, (1 + i3).toNat, h3, by omega, by omega, by omega, ?_⟩
  have q1 : (((1 + i1).toNat : Nat) : Int) = 1 + i1 := by omega
  have q2 : (((1 + i2).toNat : Nat) : Int) = 1 + i2 := by omega
  have q3 : (((1 + i3).toNat : Nat) : Int) = 1 + i3 := by omega
  unfold iv
  rw [q1, q2, q3]
  generalize ans (1, 3) [[1, 2, 2], [2, 2, 1]] = AN at *
  simp [s1, f13, e0, e1, e2, e3, e5, e6]
theorem seg_12 {wf n : Nat} (hw : 64 ≤ wf) (v0 v2 v3 v4 v5 v6 v7 v8 v9 v10 : Option OV) (v1 : OV) (hv : SrcOk v1) : ∃ v1' c m s, SrcOk v1' ∧ (10 ≤ c ∧ c ≤ 34) ∧ (5 ≤ m ∧ m ≤ 8) ∧ (2 ≤ s ∧ s ≤ 3) ∧
    evB wf (rn wf (n + 5)) s12 [v0, some v1, v2, v3, v4, v5, v6, v7, v8, v9, v10, none, none, none, none, none, none, none]
      = .ok .nx [v0, some v1', iv c, iv m, iv s, v5, v6, v7, v8, v9, v10, none, none, none, none, none, none, none] := by
  obtain ⟨a1, i1, h1, j1, k1, e1⟩ := any_ok (n := n + 4) hw hv 25 (by decide)
  obtain ⟨a2, i2, h2, j2, k2, e2⟩ := any_ok (n := n + 4) hw h1 4 (by decide)
  obtain ⟨a3, i3, h3, j3, k3, e3⟩ := any_ok (n := n + 4) hw h2 2 (by decide)
  refine ⟨a3, (10 + i1).toNat, (5 + i2).toNat, (2 + i3).toNat, h3, by omega, by omega, by omega, ?_⟩
  have q1 : (((10 + i1).toNat : Nat) : Int) = 10 + i1 := by omega
  have q2 : (((5 + i2).toNat : Nat) : Int) = 5 + i2 := by omega
  have q3 : (((2 + i3).toNat : Nat) : Int) = 2 + i3 := by omega
  unfold iv
  rw [q1, q2, q3]
  simp [s12, f13, e1, e2, e3]
theorem seg_small {wf n : Nat} (v0 v1 : Option OV) (c m s : Nat) (hc : 1 ≤ c ∧ c ≤ 9) (hm : 1 ≤ m ∧ m ≤ 4) (hs : 1 ≤ s ∧ s ≤ 4) : ∃ v5 v6 v7 v9 v10,
    evB wf (rn wf (n + 5)) (sa ++ (sb ++ sc)) [v0, v1, iv c, iv m, iv s, none, none, none, none, none, none, none, none, none, none, none, none, none]
      = .ok .nx [v0, v1, iv c, iv m, iv s, v5, v6, v7, none, v9, v10, none, none, none, none, none, none, none] := by
  have h := okA_all c m hc hm
  unfold okA at h
  generalize he : runsN c m c [] [[]] = rows at h
  simp only [Bool.and_eq_true, Bool.not_eq_true', decide_eq_true_eq, decide_eq_false_iff_not] at h
  obtain ⟨⟨⟨h0, hl1⟩, hl2⟩, hk⟩ := h
  have hs' : s = 1 ∨ s = 2 ∨ s = 3 ∨ s = 4 := by omega
  have hk : ckA rows c m s = true := by
    rcases hs' with rfl | rfl | rfl | rfl
    · exact hk.1.1.1
    · exact hk.1.1.2
    · exact hk.1.2
    · exact hk.2
  unfold ckA at hk
  simp only [List.filter_filter] at hk
  change (rowsOkB rows && !decide (rows.filter (dueB s rows) = []) && pwB (rows.filter (dueB s rows)) && decide (bestN c m s = (leastN s rows, rows.filter (dueB s rows))) && shB (ans (leastN s rows) (rows.filter (dueB s rows))) && !(decide ((s : Int) < fewN rows) && (decide ((1 : Int) < s) && !decide (rows.filter (moreB s rows) = [])))) = true at hk
  rw [Bool.and_eq_true, Bool.and_eq_true, Bool.and_eq_true, Bool.and_eq_true, Bool.and_eq_true, Bool.not_eq_true', Bool.not_eq_true', decide_eq_true_eq, decide_eq_false_iff_not] at hk
  obtain ⟨⟨⟨⟨⟨k1, k2⟩, k3⟩, k4⟩, k5⟩, k6⟩ := hk
  obtain ⟨r1, r2⟩ := rowsOk_of k1
  obtain ⟨x, ea⟩ := seg_a (wf := wf) (n := n) v0 v1 c m s (by omega) (by omega) (by omega) hl2 rows he h0 r1
  have eb := seg_b (ft := rn wf (n + 5)) (wf := wf) v0 v1 (iv c) (iv m) (iv s) x s rows h0 r1 (pw_of k3) r2
  have ec := seg_c (wf := wf) (n := n) v0 v1 c m s (by omega) (by omega) (by omega) hl1 rows r1 k2 k4 k5 k6
  refine ⟨some (.imm (.list (dR rows))), some (.imm (.list (rows.map (sh s)))), some (.imm (prD (leastN s rows))), some (.imm (.int (fewN rows))), some (.ol (oR (rows.filter (dueB s rows)))), ?_⟩
  rw [evB_app, ea, seqK_0, evB_app, eb, seqK_0, ec]
theorem seg_great {wf n : Nat} (v0 v1 v5 v6 v7 v9 v10 : Option OV) (c m s : Nat) (hc : 10 ≤ c ∧ c ≤ 34) (hm : 5 ≤ m ∧ m ≤ 8) (hs : 2 ≤ s ∧ s ≤ 3) :
    ∃ v10' v11 v12 v14, evB wf (rn wf (n + 5)) sd [v0, v1, iv c, iv m, iv s, v5, v6, v7, none, v9, v10, none, none, none, none, none, none, none]
      = .ok .nx [v0, v1, iv c, iv m, iv s, v5, v6, v7, none, v9, v10', v11, v12, none, v14, none, none, none] := by
  have h := okB_all c m s hc hm hs
  unfold okB at h
  rw [Bool.and_eq_true, decide_eq_true_eq] at h
  obtain ⟨hl, h⟩ := h
  by_cases hq : s < manyN c m
  · rw [if_pos hq] at h
    simp only [Bool.and_eq_true, Bool.not_eq_true', decide_eq_true_eq, decide_eq_false_iff_not] at h
    obtain ⟨⟨⟨⟨⟨⟨⟨k1, k2⟩, k3⟩, k4⟩, k5⟩, k6⟩, k7⟩, k8⟩ := h
    obtain ⟨r1, r2⟩ := rowsOk_of k6
    have hmem : (dueG m (manyN c m - 2) ((c : Int) - (manyN c m - 2 : Nat) * m)).headD [] ∈ dueG m (manyN c m - 2) ((c : Int) - (manyN c m - 2 : Nat) * m) := by
      generalize dueG m (manyN c m - 2) ((c : Int) - (manyN c m - 2 : Nat) * m) = du at *
      cases du with
      | nil => exact absurd rfl k4
      | cons x xs => simp
    exact seg_d1 (wf := wf) (n := n) v0 v1 v5 v6 v7 v9 v10 c m s (by omega) (by omega) (by omega) hl (manyN c m - 2) (by omega) k2 k1 (by omega) k3 k4 k5 (r1.2 _ hmem).2 (r1.2 _ hmem).1 k7 k8
  · rw [if_neg hq] at h
    simp only [Bool.and_eq_true, decide_eq_true_eq] at h
    obtain ⟨⟨k1, k2⟩, k3⟩ := h
    obtain ⟨r1, r2⟩ := rowsOk_of k2
    obtain ⟨v11, v12, e⟩ := seg_d2 (wf := wf) (n := n) v0 v1 v5 v6 v7 v9 v10 c m s (by omega) (by omega) (by omega) hl (by omega) (bestN c m s).2 (Prod.ext k1 rfl) r2 k3 r1.1
    exact ⟨v10, v11, v12, none, e⟩
theorem law_run {wf n : Nat} (hw : 64 ≤ wf) (ns : List Int) (hn : ns.length ≤ 63) : rn wf (n + 5 + 1) 13 [.imm (.list (ns.map .int))] = .ok (.imm (.bool true)) [] := by
  rw [F13]
  have hb : f13.body = s1 ++ ((sa ++ (sb ++ sc)) ++ (s12 ++ (sd ++ se))) := rfl
  obtain ⟨v0, v1, c, m, s, hv, hc, hm, hs, e1⟩ := seg_1 (wf := wf) (n := n) hw ns hn
  obtain ⟨v5, v6, v7, v9, v10, e2⟩ := seg_small (wf := wf) (n := n) v0 (some v1) c m s hc hm hs
  obtain ⟨v1', c', m', s', hv', hc', hm', hs', e3⟩ := seg_12 (wf := wf) (n := n) hw v0 (iv c) (iv m) (iv s) v5 v6 v7 none v9 v10 v1 hv
  obtain ⟨v10', v11, v12, v14, e4⟩ := seg_great (wf := wf) (n := n) v0 (some v1') v5 v6 v7 v9 v10 c' m' s' hc' hm' hs'
  obtain ⟨sl, e5⟩ := seg_e (wf := wf) (n := n) hw v0 v1' hv' c' m' (iv s') v5 v6 v7 v9 v10' v11 v12 v14 (by omega) (by omega)
  change evB wf (rn wf (n + 5)) s1 [some (.imm (.list (ns.map .int))), none, none, none, none, none, none, none, none, none, none, none, none, none, none, none, none, none] = _ at e1
  rw [hb, evB_app, e1, seqK_0, evB_app, e2, seqK_0, evB_app, e3, seqK_0, evB_app, e4, seqK_0, e5, fin_rt]
  rfl
end Qk47
end
section
set_option Elab.async false
set_option linter.all false
set_option maxRecDepth 100000
set_option maxHeartbeats 0
namespace Qk47
open PySem PySem.Spec PySem.Calls PV
theorem all : rw_.Holds := holds_of (wf := 64) (k := 6) ⟨rfl, by decide, by decide⟩ fun ns hn => law_run (wf := 64) (n := 0) (Nat.le_refl _) ns hn
end Qk47
theorem PySem.Challenge.cw_slowshelves_k47_whole_rows_of_runs_with_holds : PySem.Challenge.rw_slowshelves_k47_whole_rows_of_runs_with.Holds := by
  exact Qk47.all
end
