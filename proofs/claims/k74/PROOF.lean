import PyProof.Rows.All
import Wide.All
import OpenK.AllK
import Wide.FinOn
import HandS.ForMost
import HandS.ForExc
import HandS.Deep
import HandS.Style
import HandS.TupAny
import HandS.Conv
import HandS.Zip
import HandS.Wide
import HandS.IsInst
import HandS.TryMany
import HandS.ExcSuper
import HandS.Dict
import KE.GoesMore
import KE.KExcSuper
import HandS.WordsExc
import HandS.Ends
import PySem.Challenge.RW_foldsall_k74_whole_fewest_cells_of_lines
set_option Elab.async false
set_option linter.all false
set_option maxRecDepth 100000
/-! DV1: data, the core language, its evaluation. -/
namespace DV
open PySem L2

abbrev D := PyData

/-- how a value is held: frozen (may be shared, is never changed), owned (a list or dict that nobody else holds; o2: its lists too), borrowed (of an owned one) -/
inductive Md where
  | fz | o1 | o2 | b1 | b2
  deriving DecidableEq
def Md.rd : Md → Md
  | .fz => .fz | .o1 => .b1 | .o2 => .b2 | .b1 => .b1 | .b2 => .b2
def Md.isB : Md → Bool
  | .b1 => true | .b2 => true | _ => false
def Md.is2 : Md → Bool
  | .o2 => true | .b2 => true | _ => false
abbrev MD := Md × D
abbrev En := List (Option MD)

/-- an exception: its class's name, its field, the field's value -/
structure Xn where
  cls : Str
  fld : Str
  val : D
inductive Rs (α : Type) where
  | ok (a : α) (s : En)
  | exc (x : Xn) (s : En)
  | no
def Rs.bind {α β : Type} : Rs α → (α → En → Rs β) → Rs β
  | .ok a s, k => k a s
  | .exc x s, _ => .exc x s
  | .no, _ => .no
/-- a call's end: the value, what the first (changed) arguments hold -/
inductive RC where
  | ret (v : MD) (outs : List MD)
  | exc (x : Xn) (outs : List MD)
  | no
abbrev Sem1 := List MD → RC
/-- a def that is called: its name, its parameters, how many of the first ones it changes, what it makes -/
structure Info where
  name : Str
  ps : List Str
  io : Nat
  sem : Sem1

inductive Tg where
  | nm (i : Nat)
  | tp (ts : List Tg)
inductive Sk where
  | seq | rng1 | rng2 | enm | zip
  deriving DecidableEq
inductive Bi where
  | len | abs | int | all | any | min | max | min2 | max2 | sum | list | tuple | listRg | tupRg | lenSet | listRev
  deriving DecidableEq
inductive Ty where
  | int | bool | str | list | tuple
  deriving DecidableEq

mutual
inductive Ce where
  | var (i : Nat) | frz (i : Nat) | mv (i : Nat)
  | int (n : Int) | str (s : Str) | bl (b : Bool) | non
  | glo (x : Str) (n : Int)
  | bin (op : Operator) (a b : Ce)
  | neg (a : Ce)
  | cmp (op : CmpOp) (a b : Ce)
  | chn (op op' : CmpOp) (a b c : Ce)
  | and (es : Ces) | or (es : Ces) | not (a : Ce)
  | ite (c a b : Ce)
  | ix (a i : Ce)
  | sl (a : Ce) (lo hi : Co) | rev (a : Ce)
  | tup (es : Ces) | lst (two : Bool) (es : Ces)
  | dct (ks : List Str) (es : Ces)
  | comp (two : Bool) (own : List Nat) (elt : Ce) (tg : Tg) (src : Sk) (ses : Ces) (ifs : Ces)
  | call (g : Nat) (ios : List Nat) (es : Ces)
  | callk (g : Nat) (ks : List Str) (es : Ces)
  | bi (b : Bi) (es : Ces)
  | isi (a : Ce) (tys : List Ty)
  | pop (i : Nat) | pop2 (i : Nat) (j : Ce)
  | mth (id : Nat) (a : Ce) (es : Ces)
inductive Ces where
  | nil
  | cons (c : Ce) (cs : Ces)
inductive Co where
  | none
  | some (c : Ce)
end
inductive Hk where
  | ret | retc (d : D) | asg (i : Nat)
/-- an except clause: the classes that it takes, the classes of which this is told, its name, the field, what it does -/
structure Hd where
  clss : List Str
  knw : List Str
  nm : Option Nat
  fld : Str
  k : Hk
  parts : List (Option D)
mutual
inductive Cs where
  | pass
  | asg (tg : Tg) (e : Ce)
  | par (is : List Nat) (es : Ces)
  | aug (i : Nat) (op : Operator) (e : Ce)
  | set (i : Nat) (ie e : Ce)
  | app (i : Nat) (e : Ce) | ext (i : Nat) (e : Ce)
  | app2 (i : Nat) (j e : Ce)
  | exp (e : Ce)
  | ret (e : Ce)
  | ite (c : Ce) (a b : Css)
  | for (tg : Tg) (src : Sk) (ses : Ces) (body : Css)
  | whl (fuel : Nat) (c : Ce) (body : Css)
  | brk | cnt
  | rais (x : Str) (fld : Str) (e : Ce)
  | tryr (body : Css) (hs : List Hd)
inductive Css where
  | nil
  | cons (s : Cs) (ss : Css)
end

/-! ### quiet: nothing that stood is changed in memory -/
mutual
def qt : Ce → Bool
  | .var _ | .frz _ | .mv _ | .int _ | .str _ | .bl _ | .non | .glo _ _ => true
  | .bin _ a b => qt a && qt b
  | .neg a => qt a
  | .cmp _ a b => qt a && qt b
  | .chn _ _ a b c => qt a && qt b && qt c
  | .and es | .or es => qts es
  | .not a => qt a
  | .ite c a b => qt c && qt a && qt b
  | .ix a i => qt a && qt i
  | .sl a lo hi => qt a && qto lo && qto hi
  | .rev a => qt a
  | .tup es => qts es
  | .lst _ es => qts es
  | .dct _ es => qts es
  | .comp _ _ elt _ _ ses ifs => qt elt && qts ses && qts ifs
  | .call _ ios es => ios.isEmpty && qts es
  | .callk _ _ es => qts es
  | .bi _ es => qts es
  | .isi a _ => qt a
  | .pop _ => false
  | .pop2 _ _ => false
  | .mth _ a es => qt a && qts es
def qts : Ces → Bool
  | .nil => true
  | .cons c cs => qt c && qts cs
def qto : Co → Bool
  | .none => true
  | .some c => qt c
end

/-! ### operations on data -/
def lineN : Nat := 16777216
def okLen (n : Nat) : Bool := decide (n ≤ lineN)
mutual
/-- no list, no dict in it -/
def imm : D → Bool
  | .none => true | .bool _ => true | .int _ => true | .str _ => true
  | .tuple xs => imms xs
  | .list _ => false | .dict _ => false
def imms : List D → Bool
  | [] => true
  | x :: xs => imm x && imms xs
end
def seqD : D → Option (List D)
  | .list xs => some xs
  | .tuple xs => some xs
  | _ => none
def ixI (n : Nat) (i : Int) : Option Nat := if 0 ≤ i then (if i < n then some i.toNat else none) else if -(n : Int) ≤ i then some (i + n).toNat else none
def atD {α : Type} (xs : List α) (i : Int) : Option α := (ixI xs.length i).bind fun j => xs[j]?
def eqD (a b : D) : Option Bool := if (SeqAt.shaped a && SeqAt.shaped b) = true then some (PyData.eqv a b) else none
def inD (a : D) (xs : List D) : Bool := xs.any fun y => PyData.eqv y a
def fzv (d : D) : MD := (.fz, d)
def binD : Operator → D → D → Option MD
  | .Add, .int i, .int j => some (fzv (.int (i + j)))
  | .Add, .tuple xs, .tuple ys => if okLen (xs.length + ys.length) = true then some (fzv (.tuple (xs ++ ys))) else none
  | .Add, .list xs, .list ys => if okLen (xs.length + ys.length) = true then some (.o1, .list (xs ++ ys)) else none
  | .Sub, .int i, .int j => some (fzv (.int (i - j)))
  | .Mult, .int i, .int j => if (-(2 ^ 64) < i ∧ i < 2 ^ 64) ∨ (-(2 ^ 64) < j ∧ j < 2 ^ 64) then some (fzv (.int (i * j))) else none
  | .FloorDiv, .int i, .int j => if 0 < j ∧ j < 1073741824 then some (fzv (.int (i / j))) else none
  | .Mod, .int i, .int j => if 0 < j then some (fzv (.int (i % j))) else none
  | .Pow, .int i, .int j => if 0 ≤ j ∧ j ≤ 1000000 ∧ i.natAbs < 2 ^ 64 then some (fzv (.int (i ^ j.toNat))) else none
  | _, _, _ => none
def cmpD : CmpOp → D → D → Option Bool
  | .Eq, a, b => eqD a b
  | .NotEq, a, b => (eqD a b).map not
  | .Lt, .int i, .int j => some (decide (i < j))
  | .LtE, .int i, .int j => some (decide (i ≤ j))
  | .Gt, .int i, .int j => some (decide (j < i))
  | .GtE, .int i, .int j => some (decide (j ≤ i))
  | .In, a, .list ys => if (SeqAt.shaped a && SeqAt.shaped (.list ys)) = true then some (inD a ys) else none
  | .NotIn, a, .list ys => if (SeqAt.shaped a && SeqAt.shaped (.list ys)) = true then some (!inD a ys) else none
  | .In, a, .tuple ys => if (SeqAt.shaped a && SeqAt.shaped (.list ys)) = true then some (inD a ys) else none
  | .NotIn, a, .tuple ys => if (SeqAt.shaped a && SeqAt.shaped (.list ys)) = true then some (!inD a ys) else none
  | .In, .str k, .dict kvs => some (kvs.any fun p => PyData.eqv p.1 (.str k))
  | .In, .int k, .dict kvs => some (kvs.any fun p => PyData.eqv p.1 (.int k))
  | .NotIn, .str k, .dict kvs => some (!(kvs.any fun p => PyData.eqv p.1 (.str k)))
  | .NotIn, .int k, .dict kvs => some (!(kvs.any fun p => PyData.eqv p.1 (.int k)))
  | .Is, .none, .none => some true
  | .Is, .bool a, .bool b => some (decide (a = b))
  | .Is, .int _, .none => some false
  | .Is, .bool _, .none => some false
  | .Is, .str _, .none => some false
  | .Is, .tuple _, .none => some false
  | .Is, .list _, .none => some false
  | .IsNot, .none, .none => some false
  | .IsNot, .bool a, .bool b => some (!decide (a = b))
  | .IsNot, .int _, .none => some true
  | .IsNot, .bool _, .none => some true
  | .IsNot, .str _, .none => some true
  | .IsNot, .tuple _, .none => some true
  | .IsNot, .list _, .none => some true
  | _, _, _ => none
def intsD : List D → Option (List Int)
  | [] => some []
  | .int i :: r => (intsD r).map (i :: ·)
  | _ :: _ => none
def boolsD : List D → Option (List Bool)
  | [] => some []
  | .bool i :: r => (boolsD r).map (i :: ·)
  | _ :: _ => none
def minI : List Int → Int
  | [] => 0
  | [x] => x
  | x :: y :: r => let m := minI (y :: r); if x ≤ m then x else m
def maxI : List Int → Int
  | [] => 0
  | [x] => x
  | x :: y :: r => let m := maxI (y :: r); if m ≤ x then x else m
/-- each once, as first met -/
def dedI (ns : List Int) : List Int := ns.foldl PyProof.Rows.step_dedup []
def rangeD (a b : Int) : List D := (List.range (b - a).toNat).map fun (i : Nat) => PyData.int (a + (i : Int))
def okRg (a b : Int) : Bool := decide (-(2 ^ 62) ≤ a ∧ a < 2 ^ 62 ∧ -(2 ^ 62) ≤ b ∧ b < 2 ^ 62 ∧ (b - a).toNat ≤ lineN)
def biD : Bi → List D → Option MD
  | .len, [.list xs] => some (fzv (.int xs.length))
  | .len, [.tuple xs] => some (fzv (.int xs.length))
  | .abs, [.int i] => some (fzv (.int (if i < 0 then -i else i)))
  | .int, [.int i] => some (fzv (.int i))
  | .int, [.bool b] => some (fzv (.int (if b then 1 else 0)))
  | .all, [.list xs] => (boolsD xs).map fun bs => fzv (.bool (bs.all id))
  | .any, [.list xs] => (boolsD xs).map fun bs => fzv (.bool (bs.any id))
  | .min, [.list xs] => (intsD xs).bind fun ns => if 0 < ns.length then some (fzv (.int (minI ns))) else none
  | .max, [.list xs] => (intsD xs).bind fun ns => if 0 < ns.length then some (fzv (.int (maxI ns))) else none
  | .min, [.tuple xs] => (intsD xs).bind fun ns => if 0 < ns.length then some (fzv (.int (minI ns))) else none
  | .max, [.tuple xs] => (intsD xs).bind fun ns => if 0 < ns.length then some (fzv (.int (maxI ns))) else none
  | .min2, [.int i, .int j] => some (fzv (.int (if j < i then j else i)))
  | .max2, [.int i, .int j] => some (fzv (.int (if j > i then j else i)))
  | .sum, [.list xs] => (intsD xs).map fun ns => fzv (.int ns.sum)
  | .list, [.list xs] => some (.o1, .list xs)
  | .list, [.tuple xs] => some (.o1, .list xs)
  | .tuple, [.list xs] => some (fzv (.tuple xs))
  | .tuple, [.tuple xs] => some (fzv (.tuple xs))
  | .listRg, [.int i] => if okRg 0 i = true then some (.o1, .list (rangeD 0 i)) else none
  | .tupRg, [.int i] => if okRg 0 i = true then some (fzv (.tuple (rangeD 0 i))) else none
  | .lenSet, [.list xs] => (intsD xs).bind fun ns => if ns.length ≤ 4000 then some (fzv (.int (dedI ns).length)) else none
  | _, _ => none
def tyD : D → Ty → Bool
  | .int _, .int => true
  | .bool _, .int => true
  | .bool _, .bool => true
  | .str _, .str => true
  | .list _, .list => true
  | .tuple _, .tuple => true
  | _, _ => false
def sIxD (n d : Nat) : Option Int → Nat := HT.sIx n d
def cutD (xs : List D) (lo hi : Option Int) : List D := (xs.drop (HT.sIx xs.length 0 lo)).take (HT.sIx xs.length xs.length hi - HT.sIx xs.length 0 lo)
def look (k : D) : List (D × D) → Option D
  | [] => none
  | (a, d) :: r => if PyData.eqv a k = true then some d else look k r
def put (k v : D) (kvs : List (D × D)) : List (D × D) :=
  if (kvs.any fun p => PyData.eqv p.1 k) = true then kvs.map (fun p => if PyData.eqv p.1 k = true then (p.1, v) else p) else kvs ++ [(k, v)]

/-! ### environments -/
def rdv (i : Nat) (s : En) : Rs MD := match s[i]? with
  | some (some (m, d)) => .ok (m.rd, d) s
  | _ => .no
def frv (i : Nat) (s : En) : Rs MD := match s[i]? with
  | some (some (.fz, d)) => .ok (.fz, d) s
  | some (some (_, d)) => .ok (.fz, d) (s.set i (some (.fz, d)))
  | _ => .no
def mvv (i : Nat) (s : En) : Rs MD := match s[i]? with
  | some (some (m, d)) => .ok (m, d) (s.set i none)
  | _ => .no
mutual
def bindT : Tg → D → En → Option En
  | .nm i, d, s => some (s.set i (some (.fz, d)))
  | .tp ts, .tuple ds, s => bindTs ts ds s
  | .tp _, _, _ => none
def bindTs : List Tg → List D → En → Option En
  | [], [], s => some s
  | t :: ts, d :: ds, s => (bindT t d s).bind fun s' => bindTs ts ds s'
  | _, _, _ => none
end
def wipeE (s : En) : List Nat → En
  | [] => s
  | v :: vs => (wipeE s vs).set v none
def restE (s0 s : En) : List Nat → En
  | [] => s
  | v :: vs => (restE s0 s vs).set v ((s0[v]?).getD none)
def takeS : List Nat → En → Option (List MD × En)
  | [], s => some ([], s)
  | i :: is, s => match s[i]? with
    | some (some (m, d)) => if m = .fz then none else (takeS is (s.set i none)).map fun p => ((m, d) :: p.1, p.2)
    | _ => none
def giveS : List Nat → List MD → En → Option En
  | [], [], s => some s
  | i :: is, o :: os, s => if o.1.isB = true then none else (giveS is os s).map fun s' => s'.set i (some o)
  | _, _, _ => none
def tbR (r : Rs MD) : Rs Bool := r.bind fun v s => match v with
  | (_, .bool b) => .ok b s
  | _ => .no
/-- slot i holds something -/
def hasE (s : En) (i : Nat) : Bool := match s[i]? with
  | some (some _) => true
  | _ => false
/-- slot i holds something owned -/
def heldE (s : En) (i : Nat) : Bool := match s[i]? with
  | some (some (m, _)) => decide (m ≠ .fz)
  | _ => false
/-- a value that may be kept: frozen or owned -/
def keepR (r : Rs MD) : Rs MD := r.bind fun v s => if v.1.isB = true then .no else .ok v s
def ofO {α : Type} (o : Option α) (s : En) : Rs α := match o with
  | some a => .ok a s
  | none => .no
/-- the items of a source -/
def itemsD : Sk → List MD → Option (List D × Bool)
  | .seq, [(m, d)] => if m.is2 = true then none else (seqD d).map fun xs => (xs, m.isB)
  | .rng1, [(_, .int n)] => if okRg 0 n = true then some (rangeD 0 n, false) else none
  | .rng2, [(_, .int a), (_, .int b)] => if okRg a b = true then some (rangeD a b, false) else none
  | .enm, [(m, d)] => if m.is2 = true then none else (seqD d).map fun xs => (xs.mapIdx fun i x => .tuple [.int i, x], m.isB)
  | .zip, [(m, .list xs), (m', .list ys)] => if (m.is2 || m'.is2) = true then none else some (xs.zipWith (fun x y => .tuple [x, y]) ys, m.isB || m'.isB)
  | .zip, [(m, .tuple xs), (m', .tuple ys)] => some (xs.zipWith (fun x y => .tuple [x, y]) ys, false)
  | _, _ => none
/-- a comprehension's turns; own: the block's names, unknown at each turn's start -/
def compL (two : Bool) (own : List Nat) (bnd : D → En → Option En) (test : En → Rs Bool) (elt : En → Rs MD) : List D → List D → En → Rs (List D)
  | [], acc, s => .ok acc s
  | x :: xs, acc, s =>
    match bnd x (wipeE s own) with
    | none => .no
    | some s1 => match test s1 with
      | .ok false s2 => compL two own bnd test elt xs acc s2
      | .ok true s2 => match elt s2 with
        | .ok (m, d) s3 => if ((two && decide (m ≠ .o1)) || m.isB) = true then .no else compL two own bnd test elt xs (acc ++ [d]) s3
        | _ => .no
      | _ => .no
inductive Fl where
  | nx | rt (v : MD) | bk | ct
def forL (bnd : D → En → Option En) (body : En → Rs Fl) : List D → En → Rs Fl
  | [], s => .ok .nx s
  | x :: xs, s => match bnd x s with
    | none => .no
    | some s1 => match body s1 with
      | .ok .nx s2 => forL bnd body xs s2
      | .ok .ct s2 => forL bnd body xs s2
      | .ok .bk s2 => .ok .nx s2
      | r => r
def whlL (test : En → Rs Bool) (body : En → Rs Fl) : Nat → En → Rs Fl
  | 0, _ => .no
  | n + 1, s => match test s with
    | .ok false s1 => .ok .nx s1
    | .ok true s1 => match body s1 with
      | .ok .nx s2 => whlL test body n s2
      | .ok .ct s2 => whlL test body n s2
      | .ok .bk s2 => .ok .nx s2
      | r => r
    | .exc x s1 => .exc x s1
    | .no => .no
def callR (i : Info) (ios : List Nat) (vs : List MD) (s : En) : Rs MD :=
  if ios.length ≠ i.io ∨ ios.length + vs.length ≠ i.ps.length then .no else
  match takeS ios s with
  | none => .no
  | some (us, s1) => match i.sem (us ++ vs.map fun v => fzv v.2) with
    | .no => .no
    | .ret v outs => if v.1.isB = true then .no else match giveS ios outs s1 with
      | none => .no
      | some s2 => .ok v s2
    | .exc x outs => match giveS ios outs s1 with
      | none => .no
      | some s2 => .exc x s2
/-- the values in the parameters' order -/
def kwR (ps ks : List Str) (vs : List MD) : Option (List MD) := ps.mapM fun p => (ks.zip vs).lookup p
def ixR (a i : MD) : Option MD := match a.2, i.2 with
  | .list xs, .int k => (atD xs k).bind fun d => match a.1 with
    | .b2 => some (if imm d = true then .fz else .b1, d)
    | .o2 => if imm d = true then some (.fz, d) else none
    | _ => some (.fz, d)
  | .tuple xs, .int k => (atD xs k).map fun d => (.fz, d)
  | .dict kvs, .str k => (look (.str k) kvs).map fun d => (.fz, d)
  | .dict kvs, .int k => (look (.int k) kvs).map fun d => (.fz, d)
  | _, _ => none
def lastPop : List D → Option (D × List D)
  | [] => none
  | x :: xs => some ((x :: xs).getLast (List.cons_ne_nil _ _), (x :: xs).dropLast)
def isLs : D → Bool
  | .list _ => true
  | _ => false
def mthD : Nat → D → List D → Option MD
  | 0, .list xs, [.int k] => (intsD xs).bind fun ns => (ns.idxOf? k).map fun j => fzv (.int (j : Nat))
  | _, _, _ => none
/-- slot i holds an owned list -/
def ownedL (i : Nat) (s : En) : Option (Md × List D) := match s[i]? with
  | some (some (.o1, .list xs)) => some (.o1, xs)
  | some (some (.o2, .list xs)) => some (.o2, xs)
  | _ => none

/-- the list in the list in slot i -/
def inner (i : Nat) (k : D) (s : En) : Option (Nat × List D × List D) := match k, ownedL i s with
  | .int k, some (.o2, xs) => (ixI xs.length k).bind fun n => match xs[n]? with
    | some (.list ys) => some (n, xs, ys)
    | _ => none
  | _, _ => none
/-- slot i holds a list -/
def lsE (s : En) (i : Nat) : Bool := match s[i]? with
  | some (some (_, .list _)) => true
  | _ => false

variable (G : List Info)
mutual
def ev : Ce → En → Rs MD
  | .var i, s => rdv i s
  | .frz i, s => frv i s
  | .mv i, s => mvv i s
  | .int n, s => .ok (fzv (.int n)) s
  | .str x, s => .ok (fzv (.str x)) s
  | .bl b, s => .ok (fzv (.bool b)) s
  | .non, s => .ok (fzv .none) s
  | .glo _ n, s => .ok (fzv (.int n)) s
  | .bin op a b, s => (ev a s).bind fun x s1 => if (x.1.isB && !qt b) = true then .no else (ev b s1).bind fun y s2 => if (x.1.is2 || y.1.is2) = true then .no else ofO (binD op x.2 y.2) s2
  | .neg a, s => (ev a s).bind fun x s1 => match x with
    | (_, .int i) => .ok (fzv (.int (-i))) s1
    | _ => .no
  | .cmp op a b, s => (ev a s).bind fun x s1 => if (x.1.isB && !qt b) = true then .no else (ev b s1).bind fun y s2 => (ofO (cmpD op x.2 y.2) s2).bind fun r s3 => .ok (fzv (.bool r)) s3
  | .chn op op' a b c, s => (ev a s).bind fun x s1 => if (x.1.isB && !qt b) = true then .no else (ev b s1).bind fun y s2 => (ofO (cmpD op x.2 y.2) s2).bind fun r s3 =>
    if r = true then (if (y.1.isB && !qt c) = true then .no else (ev c s3).bind fun z s4 => (ofO (cmpD op' y.2 z.2) s4).bind fun r' s5 => .ok (fzv (.bool r')) s5) else .ok (fzv (.bool false)) s3
  | .and es, s => evAnd es s
  | .or es, s => evOr es s
  | .not a, s => (tbR (ev a s)).bind fun b s1 => .ok (fzv (.bool (!b))) s1
  | .ite c a b, s => (tbR (ev c s)).bind fun t s1 => if t = true then ev a s1 else ev b s1
  | .ix a i, s => (ev a s).bind fun x s1 => if (x.1.isB && !qt i) = true then .no else (ev i s1).bind fun y s2 => ofO (ixR x y) s2
  | .sl a lo hi, s => (ev a s).bind fun x s1 => if ((x.1.isB && !(qto lo && qto hi)) || x.1.is2) = true then .no else (evo lo s1).bind fun l s2 => (evo hi s2).bind fun h s3 => match x.2 with
    | .list xs => .ok (.o1, .list (cutD xs l h)) s3
    | .tuple xs => .ok (fzv (.tuple (cutD xs l h))) s3
    | _ => .no
  | .rev a, s => (ev a s).bind fun x s1 => match x with
    | (.fz, .list xs) => .ok (.o1, .list xs.reverse) s1
    | (.o1, .list xs) => .ok (.o1, .list xs.reverse) s1
    | (.b1, .list xs) => .ok (.o1, .list xs.reverse) s1
    | _ => .no
  | .tup es, s => (evs es s).bind fun vs s1 => if vs.any (·.1.isB) = true then .no else if okLen vs.length = true then .ok (fzv (.tuple (vs.map (·.2)))) s1 else .no
  | .lst two es, s => (evs es s).bind fun vs s1 => if vs.any (·.1.isB) = true then .no else if okLen vs.length = true then
      (if two = true then (if vs.all (fun v => decide (v.1 = .o1) || imm v.2) = true then .ok (.o2, .list (vs.map (·.2))) s1 else .no) else .ok (.o1, .list (vs.map (·.2))) s1) else .no
  | .dct ks es, s => (evs es s).bind fun vs s1 => if vs.any (·.1.isB) = true then .no else if ks.length = vs.length ∧ ks.Nodup then .ok (.o1, .dict ((ks.map PyData.str).zip (vs.map (·.2)))) s1 else .no
  | .comp two own elt tg src ses ifs, s => (evs ses s).bind fun vs s1 => match itemsD src vs with
    | none => .no
    | some (xs, b) => if ((b && !(qt elt && qts ifs)) || own.any (heldE s1)) = true then .no else
      (compL two own (bindT tg) (fun s => evTs ifs s) (fun s => ev elt s) xs [] s1).bind fun acc s2 => .ok (if two = true then .o2 else .o1, .list acc) (restE s1 s2 own)
  | .call g ios es, s => if ios.all (hasE s) = true then (evs es s).bind fun vs s1 => if vs.any (·.1.isB) = true then .no else (match G[g]? with
    | none => .no
    | some i => callR i ios vs s1) else .no
  | .callk g ks es, s => (evs es s).bind fun vs s1 => if vs.any (·.1.isB) = true then .no else match G[g]? with
    | none => .no
    | some i => match kwR i.ps ks vs with
      | none => .no
      | some us => callR i [] us s1
  | .bi b es, s => (evs es s).bind fun vs s1 => if (vs.any (·.1.is2) && decide (b ≠ .len)) = true then .no else ofO (biD b (vs.map (·.2))) s1
  | .isi a tys, s => (ev a s).bind fun x s1 => .ok (fzv (.bool (tys.any (tyD x.2)))) s1
  | .pop i, s => match ownedL i s with
    | some (.o1, xs) => match lastPop xs with
      | some (x, r) => .ok (fzv x) (s.set i (some (.o1, .list r)))
      | none => .no
    | _ => .no
  | .pop2 i j, s => if (qt j && hasE s i) = true then (ev j s).bind fun k s1 => match k.2, ownedL i s1 with
    | .int k, some (.o2, xs) => match ixI xs.length k with
      | none => .no
      | some n => match xs[n]? with
        | some (.list ys) => match lastPop ys with
          | some (y, r) => .ok (fzv y) (s1.set i (some (.o2, .list (xs.set n (.list r)))))
          | none => .no
        | _ => .no
    | _, _ => .no
    else .no
  | .mth id a es, s => (ev a s).bind fun x s1 => if ((x.1.isB && !qts es) || !isLs x.2) = true then .no else (evs es s1).bind fun vs s2 => if vs.any (·.1.isB) = true then .no else ofO (mthD id x.2 (vs.map (·.2))) s2
def evs : Ces → En → Rs (List MD)
  | .nil, s => .ok [] s
  | .cons c cs, s => (ev c s).bind fun x s1 => if (x.1.isB && !qts cs) = true then .no else (evs cs s1).bind fun xs s2 => .ok (x :: xs) s2
def evAnd : Ces → En → Rs MD
  | .nil, _ => .no
  | .cons c .nil, s => ev c s
  | .cons c (.cons c' cs), s => (tbR (ev c s)).bind fun b s1 => if b = true then evAnd (.cons c' cs) s1 else .ok (fzv (.bool false)) s1
def evOr : Ces → En → Rs MD
  | .nil, _ => .no
  | .cons c .nil, s => ev c s
  | .cons c (.cons c' cs), s => (tbR (ev c s)).bind fun b s1 => if b = true then .ok (fzv (.bool true)) s1 else evOr (.cons c' cs) s1
/-- a comprehension's tests: none or one -/
def evTs : Ces → En → Rs Bool
  | .nil, s => .ok true s
  | .cons c .nil, s => tbR (ev c s)
  | .cons _ (.cons _ _), _ => .no
def evo : Co → En → Rs (Option Int)
  | .none, s => .ok none s
  | .some c, s => (ev c s).bind fun x s1 => match x with
    | (_, .int i) => .ok (some i) s1
    | _ => .no
end

def scalD : D → Bool
  | .none => true | .bool _ => true | .int _ => true | .str _ => true | _ => false
def okN (s : En) : Option Nat → Bool
  | none => true
  | some n => decide (n < s.length)
def offE (s : En) : Option Nat → En
  | none => s
  | some n => s.set n none
def hdR (x : Xn) (s : En) : List Hd → Rs Fl
  | [] => .exc x s
  | h :: hs => if (h.knw.contains x.cls && okN s h.nm) = true then (if h.clss.contains x.cls = true then
      (match h.k with
        | .retc d => .ok (.rt (fzv d)) (offE s h.nm)
        | .ret => if x.fld = h.fld then .ok (.rt (fzv (.tuple (h.parts.map fun p => p.getD x.val)))) (offE s h.nm) else .no
        | .asg i => if x.fld = h.fld then .ok .nx ((offE s h.nm).set i (some (fzv (.tuple (h.parts.map fun p => p.getD x.val))))) else .no)
      else hdR x s hs) else .no
def parS : List Nat → List MD → En → Option En
  | [], [], s => some s
  | i :: is, v :: vs, s => if v.1.isB = true then none else parS is vs (s.set i (some v))
  | _, _, _ => none
mutual
def ex : Cs → En → Rs Fl
  | .pass, s => .ok .nx s
  | .asg (.nm i) e, s => (keepR (ev G e s)).bind fun v s1 => .ok .nx (s1.set i (some v))
  | .asg (.tp ts) e, s => (keepR (ev G e s)).bind fun v s1 => match bindT (.tp ts) v.2 s1 with
    | some s2 => .ok .nx s2
    | none => .no
  | .par is es, s => (evs G es s).bind fun vs s1 => if is.Nodup then (match parS is vs s1 with
    | some s2 => if okLen vs.length = true then .ok .nx s2 else .no
    | none => .no) else .no
  | .aug i op e, s => match s[i]? with
    | some (some (_, .int n)) => (ev G e s).bind fun v s1 => (match v.2 with
      | .int k => (ofO (binD op (.int n) (.int k)) s1).bind fun r s2 => .ok .nx (s2.set i (some r))
      | _ => .no)
    | _ => .no
  | .set i ie e, s => (keepR (ev G e s)).bind fun v s1 => if (qt ie && hasE s1 i) = true then (ev G ie s1).bind fun k s2 => (match s2[i]?, k.2 with
      | some (some (.o1, .list xs)), .int k => (match ixI xs.length k with
        | some n => .ok .nx (s2.set i (some (.o1, .list (xs.set n v.2))))
        | none => .no)
      | some (some (.o2, .list xs)), .int k => (match ixI xs.length k with
        | some n => if (decide (v.1 = .o1) || imm v.2) = true then .ok .nx (s2.set i (some (.o2, .list (xs.set n v.2)))) else .no
        | none => .no)
      | some (some (.o1, .dict kvs)), .int k => if kvs.length < 1000000 then .ok .nx (s2.set i (some (.o1, .dict (put (.int k) v.2 kvs)))) else .no
      | some (some (.o1, .dict kvs)), .str k => if kvs.length < 1000000 then .ok .nx (s2.set i (some (.o1, .dict (put (.str k) v.2 kvs)))) else .no
      | _, _ => .no) else .no
  | .app i e, s => if lsE s i = true then (keepR (ev G e s)).bind fun v s1 => (match ownedL i s1 with
    | some (.o1, xs) => if xs.length < lineN then .ok .nx (s1.set i (some (.o1, .list (xs ++ [v.2])))) else .no
    | some (.o2, xs) => if xs.length < lineN ∧ (decide (v.1 = .o1) || imm v.2) = true then .ok .nx (s1.set i (some (.o2, .list (xs ++ [v.2])))) else .no
    | _ => .no) else .no
  | .ext i e, s => if lsE s i = true then (keepR (ev G e s)).bind fun v s1 => (match ownedL i s1, v with
    | some (.o1, xs), (.fz, .list ys) => if okLen (xs.length + ys.length) = true then .ok .nx (s1.set i (some (.o1, .list (xs ++ ys)))) else .no
    | some (.o1, xs), (.o1, .list ys) => if okLen (xs.length + ys.length) = true then .ok .nx (s1.set i (some (.o1, .list (xs ++ ys)))) else .no
    | _, _ => .no) else .no
  | .app2 i j e, s => if (qt j && qt e && hasE s i) = true then (ev G j s).bind fun k s1 => (match inner i k.2 s1 with
      | none => .no
      | some _ => (keepR (ev G e s1)).bind fun v s2 => (match inner i k.2 s2 with
        | some (n, xs, ys) => if ys.length < lineN then .ok .nx (s2.set i (some (.o2, .list (xs.set n (.list (ys ++ [v.2])))))) else .no
        | none => .no)) else .no
  | .exp e, s => (ev G e s).bind fun _ s1 => .ok .nx s1
  | .ret e, s => (keepR (ev G e s)).bind fun v s1 => .ok (.rt v) s1
  | .ite c a b, s => (tbR (ev G c s)).bind fun t s1 => if t = true then exs a s1 else exs b s1
  | .for tg src ses body, s => (evs G ses s).bind fun vs s1 => match itemsD src vs with
    | some (xs, false) => forL (bindT tg) (fun s => exs body s) xs s1
    | _ => .no
  | .whl fuel c body, s => whlL (fun s => tbR (ev G c s)) (fun s => exs body s) fuel s
  | .brk, s => .ok .bk s
  | .cnt, s => .ok .ct s
  | .rais x fld e, s => (ev G e s).bind fun v s1 => if scalD v.2 = true then .exc ⟨x, fld, v.2⟩ s1 else .no
  | .tryr body hs, s => match exs body s with
    | .exc x s1 => hdR x s1 hs
    | r => r
def exs : Css → En → Rs Fl
  | .nil, s => .ok .nx s
  | .cons c cs, s => match ex c s with
    | .ok .nx s1 => exs cs s1
    | r => r
end
/-- a def's body, run -/
def runD (n io : Nat) (body : Css) (args : List MD) : RC :=
  let fin (s : En) (k : List MD → RC) : RC := match (List.range io).mapM fun i => (s[i]?).bind id with
    | some outs => k outs
    | none => .no
  match exs G body (args.map some ++ List.replicate (n - args.length) none) with
  | .ok (.rt v) s => fin s fun outs => .ret v outs
  | .ok .nx s => fin s fun outs => .ret (fzv .none) outs
  | .exc x s => fin s fun outs => .exc x outs
  | _ => .no
end DV

set_option Elab.async false
set_option linter.all false
set_option maxRecDepth 100000
/-! DV2: how data stand in memory. -/
namespace DV
open PySem L2

/-- how often an address is owned -/
def Fp := Addr → Nat
instance : Add Fp := ⟨fun f g a => f a + g a⟩
instance : Zero Fp := ⟨fun _ => 0⟩
def single (p : Addr) : Fp := fun a => if a = p then 1 else 0
theorem Fp.add_at (f g : Fp) (a : Addr) : (f + g) a = f a + g a := rfl
theorem Fp.zero_at (a : Addr) : (0 : Fp) a = 0 := rfl
theorem single_at (p : Addr) : single p p = 1 := if_pos rfl
theorem single_ne {p a : Addr} (h : a ≠ p) : single p a = 0 := if_neg h
theorem single_pos {p a : Addr} (h : 0 < single p a) : a = p := by
  by_cases e : a = p
  · exact e
  · rw [single_ne e] at h; exact absurd h (Nat.lt_irrefl _)
theorem Fp.ext {f g : Fp} (h : ∀ a, f a = g a) : f = g := funext h
theorem Fp.add_zero (f : Fp) : f + 0 = f := rfl
theorem Fp.zero_add (f : Fp) : 0 + f = f := Fp.ext fun a => Nat.zero_add _
theorem Fp.assoc (f g h : Fp) : f + g + h = f + (g + h) := Fp.ext fun a => Nat.add_assoc _ _ _
def tot (fps : List Fp) (a : Addr) : Nat := (fps.map fun f => f a).sum
theorem tot_nil (a : Addr) : tot [] a = 0 := rfl
theorem tot_cons (f : Fp) (fps : List Fp) (a : Addr) : tot (f :: fps) a = f a + tot fps a := by
  unfold tot; rw [List.map_cons, List.sum_cons]
theorem tot_set : ∀ {fps : List Fp} {i : Nat} {f : Fp} (g : Fp) (a : Addr), fps[i]? = some f → tot (fps.set i g) a + f a = tot fps a + g a
  | [], i, f, g, a, h => by simp at h
  | x :: r, 0, f, g, a, h => by
    have e : x = f := Option.some.inj h
    subst e
    rw [List.set_cons_zero, tot_cons, tot_cons]; omega
  | x :: r, i + 1, f, g, a, h => by
    have ih := tot_set (fps := r) (i := i) g a h
    rw [List.set_cons_succ, tot_cons, tot_cons]; omega
theorem tot_le : ∀ {fps : List Fp} {i : Nat} {f : Fp} (a : Addr), fps[i]? = some f → f a ≤ tot fps a
  | [], i, f, a, h => by simp at h
  | x :: r, 0, f, a, h => by
    have e : x = f := Option.some.inj h
    subst e
    rw [tot_cons]; omega
  | x :: r, i + 1, f, a, h => by
    have ih := tot_le (fps := r) (i := i) a h
    rw [tot_cons]; omega
theorem tot_le2 : ∀ {fps : List Fp} {i j : Nat} {f g : Fp} (a : Addr), i ≠ j → fps[i]? = some f → fps[j]? = some g → f a + g a ≤ tot fps a
  | [], i, j, f, g, a, _, h, _ => by simp at h
  | x :: r, 0, 0, f, g, a, n, _, _ => absurd rfl n
  | x :: r, 0, j + 1, f, g, a, n, h, h' => by
    have e : x = f := Option.some.inj h
    subst e
    have := tot_le (fps := r) (i := j) a h'
    rw [tot_cons]; omega
  | x :: r, i + 1, 0, f, g, a, n, h, h' => by
    have e : x = g := Option.some.inj h'
    subst e
    have := tot_le (fps := r) (i := i) a h
    rw [tot_cons]; omega
  | x :: r, i + 1, j + 1, f, g, a, n, h, h' => by
    have := tot_le2 (fps := r) (i := i) (j := j) a (by omega) h h'
    rw [tot_cons]; omega
def cn (fr : Fp) (fps : List Fp) : Fp := fun a => fr a + tot fps a
theorem cn_at (fr : Fp) (fps : List Fp) (a : Addr) : cn fr fps a = fr a + tot fps a := rfl

/-! ### frozen lists, tuples -/
def KL (K : PySem.W.Frag) (a : Addr) (xs : List V) : Prop :=
  ∃ (o : Obj) (its : Array Value) (n : Nat), K.lookup a = some o ∧ o.cls = .type "list" ∧ o.dict = none ∧ o.data = .seq its n ∧ its.size ≤ sizeLine ∧ Vals xs its.toList
def KT (K : PySem.W.Frag) (a : Addr) (xs : List V) : Prop :=
  ∃ (o : Obj) (its : Array Value) (n : Nat), K.lookup a = some o ∧ o.cls = .type "tuple" ∧ o.data = .seq its n ∧ its.size ≤ sizeLine ∧ Vals xs its.toList
def FzL (K : PySem.W.Frag) (c : Fp) (H : Hp) (a : Addr) (xs : List V) : Prop := (Rd H a (.lst xs) ∧ c a = 0) ∨ KL K a xs
def FzT (K : PySem.W.Frag) (c : Fp) (H : Hp) (a : Addr) (xs : List V) : Prop := (Rd H a (.tup xs) ∧ c a = 0) ∨ KT K a xs
theorem FzL.sq {K : PySem.W.Frag} {c : Fp} {H : Hp} {a : Addr} {xs : List V} (h : FzL K c H a xs) : SqL K H a xs := h.imp (fun q => q.1) id
theorem FzT.sq {K : PySem.W.Frag} {c : Fp} {H : Hp} {a : Addr} {xs : List V} (h : FzT K c H a xs) : SqT K H a xs := h.imp (fun q => q.1) id
theorem rd_there {H : Hp} {a : Addr} {u : HO} (h : Rd H a u) : ∃ o, H a = some o := by
  rcases h with h | ⟨o, h⟩
  · exact ⟨_, h⟩
  · exact ⟨_, h⟩
theorem rd_keep {H H' : Hp} {a : Addr} {u : HO} (h : Rd H a u) (k : ∀ o, H a = some o → H' a = some o) : Rd H' a u := by
  rcases h with h | ⟨o, h⟩
  · exact .inl (k _ h)
  · exact .inr ⟨o, k _ h⟩
def keyD : Key → D
  | .inl i => .int i
  | .inr s => .str s

mutual
/-- d, frozen: none of its lists and dicts is owned -/
def Rep (K : PySem.W.Frag) (c : Fp) (H : Hp) : D → V → Prop
  | .none, v => v = .non
  | .bool b, v => v = .bl b
  | .int i, v => v = .int i
  | .str s, v => v = .str s
  | .tuple xs, v => ∃ a vs, v = .ref a ∧ FzT K c H a vs ∧ Reps K c H xs vs
  | .list xs, v => ∃ a vs, v = .ref a ∧ FzL K c H a vs ∧ Reps K c H xs vs
  | .dict kvs, v => ∃ a ks, v = .ref a ∧ H a = some (.dK ks) ∧ c a = 0 ∧ RepKs K c H kvs ks
def Reps (K : PySem.W.Frag) (c : Fp) (H : Hp) : List D → List V → Prop
  | [], vs => vs = []
  | x :: xs, vs => ∃ v r, vs = v :: r ∧ Rep K c H x v ∧ Reps K c H xs r
def RepKs (K : PySem.W.Frag) (c : Fp) (H : Hp) : List (D × D) → List (Key × V) → Prop
  | [], ks => ks = []
  | p :: r, ks => ∃ k v q, ks = (k, v) :: q ∧ RepP K c H p k v ∧ RepKs K c H r q
def RepP (K : PySem.W.Frag) (c : Fp) (H : Hp) : D × D → Key → V → Prop
  | (k, d), key, v => k = keyD key ∧ Rep K c H d v
end

section
variable {K : PySem.W.Frag} {c c' : Fp} {H H' : Hp}
/-- what keeps frozen data: the objects that stand unowned are kept, and stay unowned -/
structure Kp (c c' : Fp) (H H' : Hp) : Prop where
  k : ∀ a o, H a = some o → c a = 0 → H' a = some o
  z : ∀ a o, H a = some o → c a = 0 → c' a = 0
theorem Kp.refl : Kp c c H H := ⟨fun _ _ h _ => h, fun _ _ _ h => h⟩
theorem FzL.mono {a : Addr} {xs : List V} (k : Kp c c' H H') (h : FzL K c H a xs) : FzL K c' H' a xs := by
  rcases h with ⟨h, z⟩ | h
  · obtain ⟨o, e⟩ := rd_there h
    exact .inl ⟨rd_keep h fun o e => k.k a o e z, k.z a o e z⟩
  · exact .inr h
theorem FzT.mono {a : Addr} {xs : List V} (k : Kp c c' H H') (h : FzT K c H a xs) : FzT K c' H' a xs := by
  rcases h with ⟨h, z⟩ | h
  · obtain ⟨o, e⟩ := rd_there h
    exact .inl ⟨rd_keep h fun o e => k.k a o e z, k.z a o e z⟩
  · exact .inr h
mutual
theorem Rep.mono (k : Kp c c' H H') : ∀ (d : D) (v : V), Rep K c H d v → Rep K c' H' d v
  | .none, _, h => h
  | .bool _, _, h => h
  | .int _, _, h => h
  | .str _, _, h => h
  | .tuple xs, _, ⟨a, vs, e, f, r⟩ => ⟨a, vs, e, f.mono k, Reps.mono k xs vs r⟩
  | .list xs, _, ⟨a, vs, e, f, r⟩ => ⟨a, vs, e, f.mono k, Reps.mono k xs vs r⟩
  | .dict kvs, _, ⟨a, ks, e, h, z, r⟩ => ⟨a, ks, e, k.k a _ h z, k.z a _ h z, RepKs.mono k kvs ks r⟩
theorem Reps.mono (k : Kp c c' H H') : ∀ (ds : List D) (vs : List V), Reps K c H ds vs → Reps K c' H' ds vs
  | [], _, h => h
  | x :: xs, _, ⟨v, r, e, h1, h2⟩ => ⟨v, r, e, Rep.mono k x v h1, Reps.mono k xs r h2⟩
theorem RepKs.mono (k : Kp c c' H H') : ∀ (ds : List (D × D)) (ks : List (Key × V)), RepKs K c H ds ks → RepKs K c' H' ds ks
  | [], _, h => h
  | p :: r, _, ⟨key, v, q, e, h1, h2⟩ => ⟨key, v, q, e, RepP.mono k p key v h1, RepKs.mono k r q h2⟩
theorem RepP.mono (k : Kp c c' H H') : ∀ (p : D × D) (key : Key) (v : V), RepP K c H p key v → RepP K c' H' p key v
  | (_, d), _, v, ⟨e, h⟩ => ⟨e, Rep.mono k d v h⟩
end
theorem Reps.len : ∀ {ds : List D} {vs : List V}, Reps K c H ds vs → ds.length = vs.length
  | [], _, h => by cases h; rfl
  | x :: xs, _, ⟨v, r, e, _, h2⟩ => by rw [e, List.length_cons, List.length_cons, Reps.len h2]
theorem RepKs.len : ∀ {ds : List (D × D)} {vs : List (Key × V)}, RepKs K c H ds vs → ds.length = vs.length
  | [], _, h => by cases h; rfl
  | x :: xs, _, ⟨k, v, r, e, _, h2⟩ => by rw [e, List.length_cons, List.length_cons, RepKs.len h2]
theorem Reps.get : ∀ {ds : List D} {vs : List V} {i : Nat} {d : D}, Reps K c H ds vs → ds[i]? = some d → ∃ v, vs[i]? = some v ∧ Rep K c H d v
  | [], _, i, d, _, h => by simp at h
  | x :: xs, _, 0, d, ⟨v, r, e, h1, _⟩, h => by
    have q : x = d := Option.some.inj h
    subst q e
    exact ⟨v, rfl, h1⟩
  | x :: xs, _, i + 1, d, ⟨v, r, e, _, h2⟩, h => by
    subst e
    exact Reps.get (i := i) h2 h
theorem Reps.getV : ∀ {ds : List D} {vs : List V} {i : Nat} {v : V}, Reps K c H ds vs → vs[i]? = some v → ∃ d, ds[i]? = some d ∧ Rep K c H d v
  | [], vs, i, v, e, h => by
    have e' : vs = [] := e
    subst e'; simp at h
  | x :: xs, _, 0, v, ⟨w, r, e, h1, _⟩, h => by
    subst e
    have q : w = v := Option.some.inj h
    subst q
    exact ⟨x, rfl, h1⟩
  | x :: xs, _, i + 1, v, ⟨w, r, e, _, h2⟩, h => by
    subst e
    exact Reps.getV (i := i) h2 h
theorem Reps.append : ∀ {ds ds' : List D} {vs vs' : List V}, Reps K c H ds vs → Reps K c H ds' vs' → Reps K c H (ds ++ ds') (vs ++ vs')
  | [], _, _, _, e, h => by
    have e' := e
    cases e'
    exact h
  | x :: xs, _, _, _, ⟨v, r, e, h1, h2⟩, h => by
    subst e
    exact ⟨v, _, rfl, h1, Reps.append h2 h⟩
theorem Reps.one {d : D} {v : V} (h : Rep K c H d v) : Reps K c H [d] [v] := ⟨v, [], rfl, h, rfl⟩
theorem Reps.drop : ∀ {ds : List D} {vs : List V} (n : Nat), Reps K c H ds vs → Reps K c H (ds.drop n) (vs.drop n)
  | _, _, 0, h => h
  | [], _, n + 1, e => by
    have e' := e
    cases e'
    exact rfl
  | x :: xs, _, n + 1, ⟨v, r, e, _, h2⟩ => by
    subst e
    exact Reps.drop n h2
theorem Reps.take : ∀ {ds : List D} {vs : List V} (n : Nat), Reps K c H ds vs → Reps K c H (ds.take n) (vs.take n)
  | _, _, 0, _ => rfl
  | [], _, n + 1, e => by
    have e' := e
    cases e'
    exact rfl
  | x :: xs, _, n + 1, ⟨v, r, e, h1, h2⟩ => by
    subst e
    exact ⟨v, _, rfl, h1, Reps.take n h2⟩
theorem Reps.reverse : ∀ {ds : List D} {vs : List V}, Reps K c H ds vs → Reps K c H ds.reverse vs.reverse
  | [], _, e => by
    have e' := e
    cases e'
    exact rfl
  | x :: xs, _, ⟨v, r, e, h1, h2⟩ => by
    subst e
    rw [List.reverse_cons, List.reverse_cons]
    exact (Reps.reverse h2).append (.one h1)
theorem Reps.set : ∀ {ds : List D} {vs : List V} (n : Nat) {d : D} {v : V}, Reps K c H ds vs → Rep K c H d v → Reps K c H (ds.set n d) (vs.set n v)
  | [], _, _, _, _, e, _ => by
    have e' := e
    cases e'
    exact rfl
  | x :: xs, _, 0, _, _, ⟨v, r, e, h1, h2⟩, h => by
    subst e
    exact ⟨_, _, rfl, h, h2⟩
  | x :: xs, _, n + 1, _, _, ⟨v, r, e, h1, h2⟩, h => by
    subst e
    exact ⟨v, _, rfl, h1, Reps.set n h2 h⟩
theorem Reps.ints : ∀ {ds : List D} {vs : List V} {ns : List Int}, Reps K c H ds vs → intsD ds = some ns → vs = ns.map V.int
  | [], _, ns, e, h => by
    have e' := e
    cases e'
    have : ([] : List Int) = ns := Option.some.inj h
    subst this; rfl
  | .int i :: r, _, ns, ⟨v, q, e, h1, h2⟩, h => by
    subst e
    have h1' : v = .int i := h1
    subst h1'
    have h' : (intsD r).map (i :: ·) = some ns := h
    obtain ⟨m, hm, rfl⟩ := Option.map_eq_some_iff.mp h'
    rw [List.map_cons, Reps.ints h2 hm]
  | .none :: _, _, _, _, h => nomatch h
  | .bool _ :: _, _, _, _, h => nomatch h
  | .str _ :: _, _, _, _, h => nomatch h
  | .tuple _ :: _, _, _, _, h => nomatch h
  | .list _ :: _, _, _, _, h => nomatch h
  | .dict _ :: _, _, _, _, h => nomatch h
theorem Reps.bools : ∀ {ds : List D} {vs : List V} {ns : List Bool}, Reps K c H ds vs → boolsD ds = some ns → vs = ns.map V.bl
  | [], _, ns, e, h => by
    have e' := e
    cases e'
    have : ([] : List Bool) = ns := Option.some.inj h
    subst this; rfl
  | .bool i :: r, _, ns, ⟨v, q, e, h1, h2⟩, h => by
    subst e
    have h1' : v = .bl i := h1
    subst h1'
    have h' : (boolsD r).map (i :: ·) = some ns := h
    obtain ⟨m, hm, rfl⟩ := Option.map_eq_some_iff.mp h'
    rw [List.map_cons, Reps.bools h2 hm]
  | .none :: _, _, _, _, h => nomatch h
  | .int _ :: _, _, _, _, h => nomatch h
  | .str _ :: _, _, _, _, h => nomatch h
  | .tuple _ :: _, _, _, _, h => nomatch h
  | .list _ :: _, _, _, _, h => nomatch h
  | .dict _ :: _, _, _, _, h => nomatch h
theorem Reps.of_ints : ∀ (ns : List Int), Reps K c H (ns.map PyData.int) (ns.map V.int)
  | [] => rfl
  | n :: ns => ⟨.int n, _, rfl, rfl, Reps.of_ints ns⟩
end
section
variable {K : PySem.W.Frag} {c c' : Fp} {H H' : Hp}
mutual
theorem Rep.dp : ∀ (d : D) (v : V), d.canLay0 = true → Rep K c H d v → Dp K H v d
  | .none, _, _, h => by cases h; exact .non
  | .bool b, _, _, h => by cases h; exact .bl b
  | .int i, _, _, h => by cases h; exact .int i
  | .str s, _, _, h => by cases h; exact .str s
  | .tuple xs, _, l, ⟨a, vs, e, f, r⟩ => by
    subst e
    exact .tup f.sq (Reps.dp xs vs (by simpa [PyData.canLay0] using l) r)
  | .list xs, _, l, ⟨a, vs, e, f, r⟩ => by
    subst e
    exact .lst f.sq (Reps.dp xs vs (by simpa [PyData.canLay0] using l) r)
  | .dict _, _, l, _ => by simp [PyData.canLay0] at l
theorem Reps.dp : ∀ (ds : List D) (vs : List V), PyData.canLayAll0 ds = true → Reps K c H ds vs → DpAll K H vs ds
  | [], _, _, h => by cases h; exact .nil
  | x :: xs, _, l, ⟨v, r, e, h1, h2⟩ => by
    subst e
    have l' : x.canLay0 = true ∧ PyData.canLayAll0 xs = true := by simpa [PyData.canLayAll0] using l
    exact .cons (Rep.dp x v l'.1 h1) (Reps.dp xs r l'.2 h2)
end

/-! ### held values -/
/-- an owned list or dict at its address p -/
def RepO (K : PySem.W.Frag) (c : Fp) (H : Hp) (p : Addr) : D → V → Prop
  | .list xs, v => v = .ref p ∧ ∃ vs, H p = some (.lst vs) ∧ Reps K c H xs vs
  | .dict kvs, v => v = .ref p ∧ ∃ ks, H p = some (.dK ks) ∧ RepKs K c H kvs ks
  | _, _ => False
/-- an item of a list whose lists are owned, too -/
def RepE (K : PySem.W.Frag) (c : Fp) (H : Hp) (d : D) (v : V) (f : Fp) : Prop :=
  (imm d = true ∧ Rep K c H d v ∧ f = 0) ∨ (imm d = false ∧ ∃ p, RepO K c H p d v ∧ f = single p)
def RepEs (K : PySem.W.Frag) (c : Fp) (H : Hp) : List D → List V → Fp → Prop
  | [], vs, f => vs = [] ∧ f = 0
  | x :: xs, vs, f => ∃ v r g h, vs = v :: r ∧ RepE K c H x v g ∧ RepEs K c H xs r h ∧ f = g + h
def RepM (K : PySem.W.Frag) (c : Fp) (H : Hp) (m : Md) (d : D) (v : V) (f : Fp) : Prop :=
  match m with
  | .fz => Rep K c H d v ∧ f = 0
  | .o1 => ∃ p, RepO K c H p d v ∧ f = single p
  | .o2 => ∃ xs p vs g, d = .list xs ∧ v = .ref p ∧ H p = some (.lst vs) ∧ RepEs K c H xs vs g ∧ f = single p + g
  | .b1 => ∃ p, RepO K c H p d v ∧ f = 0
  | .b2 => ∃ xs p vs g, d = .list xs ∧ v = .ref p ∧ H p = some (.lst vs) ∧ RepEs K c H xs vs g ∧ f = 0
theorem RepO.there {p : Addr} {d : D} {v : V} (h : RepO K c H p d v) : H p ≠ none := by
  cases d with
  | list xs => obtain ⟨_, vs, e, _⟩ := h; rw [e]; exact fun z => nomatch z
  | dict xs => obtain ⟨_, vs, e, _⟩ := h; rw [e]; exact fun z => nomatch z
  | _ => exact h.elim
theorem RepO.ref {p : Addr} {d : D} {v : V} (h : RepO K c H p d v) : v = .ref p := by
  cases d with
  | list xs => exact h.1
  | dict xs => exact h.1
  | _ => exact h.elim
theorem RepO.imm {p : Addr} {d : D} {v : V} (h : RepO K c H p d v) : imm d = false := by
  cases d with
  | list xs => rfl
  | dict xs => rfl
  | _ => exact h.elim
theorem RepO.mono {p : Addr} {d : D} {v : V} (k : Kp c c' H H') (kp : ∀ o, H p = some o → H' p = some o) (h : RepO K c H p d v) : RepO K c' H' p d v := by
  cases d with
  | list xs => obtain ⟨e, vs, h1, h2⟩ := h; exact ⟨e, vs, kp _ h1, Reps.mono k _ _ h2⟩
  | dict xs => obtain ⟨e, vs, h1, h2⟩ := h; exact ⟨e, vs, kp _ h1, RepKs.mono k _ _ h2⟩
  | _ => exact h.elim
/-- an owned one, let go: frozen -/
theorem RepO.fz {p : Addr} {d : D} {v : V} (z : c p = 0) (h : RepO K c H p d v) : Rep K c H d v := by
  cases d with
  | list xs => obtain ⟨e, vs, h1, h2⟩ := h; exact ⟨p, vs, e, .inl ⟨.inl h1, z⟩, h2⟩
  | dict xs => obtain ⟨e, vs, h1, h2⟩ := h; exact ⟨p, vs, e, h1, z, h2⟩
  | _ => exact h.elim
theorem RepE.mono {d : D} {v : V} {f : Fp} (k : Kp c c' H H') (kp : ∀ a o, 0 < f a → H a = some o → H' a = some o) (h : RepE K c H d v f) : RepE K c' H' d v f := by
  rcases h with ⟨i, h, e⟩ | ⟨i, p, h, e⟩
  · exact .inl ⟨i, Rep.mono k _ _ h, e⟩
  · subst e
    exact .inr ⟨i, p, h.mono k fun o q => kp p o (by rw [single_at]; exact Nat.one_pos) q, rfl⟩
theorem RepE.there {d : D} {v : V} {f : Fp} {a : Addr} (h : RepE K c H d v f) (q : 0 < f a) : H a ≠ none := by
  rcases h with ⟨i, h, e⟩ | ⟨i, p, h, e⟩
  · rw [e] at q; exact absurd q (Nat.lt_irrefl _)
  · rw [e] at q; rw [single_pos q]; exact h.there
theorem RepEs.mono : ∀ {ds : List D} {vs : List V} {f : Fp} (_ : Kp c c' H H') (_ : ∀ a o, 0 < f a → H a = some o → H' a = some o), RepEs K c H ds vs f → RepEs K c' H' ds vs f
  | [], _, _, _, _, h => h
  | x :: xs, _, _, k, kp, ⟨v, r, g, h, e, h1, h2, ef⟩ => by
    subst ef
    exact ⟨v, r, g, h, e, h1.mono k fun a o q => kp a o (by rw [Fp.add_at]; omega), RepEs.mono k (fun a o q => kp a o (by rw [Fp.add_at]; omega)) h2, rfl⟩
theorem RepEs.there : ∀ {ds : List D} {vs : List V} {f : Fp} {a : Addr}, RepEs K c H ds vs f → 0 < f a → H a ≠ none
  | [], _, _, a, h, q => by rw [h.2] at q; exact absurd q (Nat.lt_irrefl _)
  | x :: xs, _, _, a, ⟨v, r, g, h, e, h1, h2, ef⟩, q => by
    rw [ef, Fp.add_at] at q
    by_cases hg : 0 < g a
    · exact h1.there hg
    · exact RepEs.there h2 (by omega)
theorem RepEs.len : ∀ {ds : List D} {vs : List V} {f : Fp}, RepEs K c H ds vs f → ds.length = vs.length
  | [], _, _, h => by rw [h.1]; rfl
  | x :: xs, _, _, ⟨v, r, g, h, e, h1, h2, ef⟩ => by rw [e, List.length_cons, List.length_cons, RepEs.len h2]
theorem RepEs.get : ∀ {ds : List D} {vs : List V} {f : Fp} {i : Nat} {d : D}, RepEs K c H ds vs f → ds[i]? = some d → ∃ v g, vs[i]? = some v ∧ RepE K c H d v g ∧ ∀ a, g a ≤ f a
  | [], _, _, i, d, _, h => by simp at h
  | x :: xs, _, _, 0, d, ⟨v, r, g, h, e, h1, h2, ef⟩, q => by
    have z : x = d := Option.some.inj q
    subst z e ef
    exact ⟨v, g, rfl, h1, fun a => by rw [Fp.add_at]; omega⟩
  | x :: xs, _, _, i + 1, d, ⟨v, r, g, h, e, h1, h2, ef⟩, q => by
    subst e ef
    obtain ⟨w, g', e1, e2, e3⟩ := RepEs.get (i := i) h2 q
    exact ⟨w, g', e1, e2, fun a => by have := e3 a; rw [Fp.add_at]; omega⟩
/-- its item i exchanged -/
theorem RepEs.swap : ∀ {ds : List D} {vs : List V} {f : Fp} {i : Nat} {d d' : D} {v' : V} {g' : Fp}, RepEs K c H ds vs f → ds[i]? = some d → RepE K c H d' v' g' →
    ∃ v g h, vs[i]? = some v ∧ RepE K c H d v g ∧ (∀ a, f a = g a + h a) ∧ RepEs K c H (ds.set i d') (vs.set i v') (g' + h)
  | [], _, _, i, d, _, _, _, _, h, _ => by simp at h
  | x :: xs, _, _, 0, d, d', v', g', ⟨v, r, g, h, e, h1, h2, ef⟩, q, hn => by
    have z : x = d := Option.some.inj q
    subst z e ef
    exact ⟨v, g, h, rfl, h1, fun a => rfl, v', r, g', h, rfl, hn, h2, rfl⟩
  | x :: xs, _, _, i + 1, d, d', v', g', ⟨v, r, g, h, e, h1, h2, ef⟩, q, hn => by
    subst e ef
    obtain ⟨w, gw, hw, e1, e2, e3, e4⟩ := RepEs.swap (i := i) h2 q hn
    refine ⟨w, gw, g + hw, e1, e2, fun a => ?_, v, _, g, g' + hw, rfl, h1, e4, ?_⟩
    · have := e3 a
      show g a + h a = gw a + (g a + hw a)
      omega
    · exact Fp.ext fun a => by show g' a + (g a + hw a) = g a + (g' a + hw a); omega
theorem RepEs.snoc : ∀ {ds : List D} {vs : List V} {f : Fp} {d' : D} {v' : V} {g' : Fp}, RepEs K c H ds vs f → RepE K c H d' v' g' → RepEs K c H (ds ++ [d']) (vs ++ [v']) (f + g')
  | [], _, _, d', v', g', h, hn => by
    obtain ⟨e, ef⟩ := h
    subst e ef
    exact ⟨v', [], g', 0, rfl, hn, ⟨rfl, rfl⟩, by rw [Fp.add_zero, Fp.zero_add]⟩
  | x :: xs, _, _, d', v', g', ⟨v, r, g, h, e, h1, h2, ef⟩, hn => by
    subst e ef
    exact ⟨v, r ++ [v'], g, h + g', rfl, h1, RepEs.snoc h2 hn, Fp.assoc _ _ _⟩
/-- all let go -/
theorem RepE.rep {d : D} {v : V} {f : Fp} (z : ∀ a, 0 < f a → c a = 0) (h : RepE K c H d v f) : Rep K c H d v := by
  rcases h with ⟨i, h, e⟩ | ⟨i, p, h, e⟩
  · exact h
  · exact h.fz (z p (by rw [e, single_at]; exact Nat.one_pos))
theorem RepEs.reps : ∀ {ds : List D} {vs : List V} {f : Fp} (_ : ∀ a, 0 < f a → c a = 0), RepEs K c H ds vs f → Reps K c H ds vs
  | [], _, _, _, h => h.1
  | x :: xs, _, _, z, ⟨v, r, g, h, e, h1, h2, ef⟩ => ⟨v, r, e, h1.rep fun a q => z a (by rw [ef, Fp.add_at]; omega), RepEs.reps (fun a q => z a (by rw [ef, Fp.add_at]; omega)) h2⟩
theorem RepM.mono {m : Md} {d : D} {v : V} {f : Fp} (k : Kp c c' H H') (kp : ∀ a o, H a = some o → (0 < f a ∨ m.isB = true) → H' a = some o) (h : RepM K c H m d v f) : RepM K c' H' m d v f := by
  cases m with
  | fz => exact ⟨Rep.mono k _ _ h.1, h.2⟩
  | o1 =>
    obtain ⟨p, h, e⟩ := h
    exact ⟨p, h.mono k fun o q => kp p o q (.inl (by rw [e, single_at]; exact Nat.one_pos)), e⟩
  | b1 =>
    obtain ⟨p, h, e⟩ := h
    exact ⟨p, h.mono k fun o q => kp p o q (.inr rfl), e⟩
  | o2 =>
    obtain ⟨xs, p, vs, g, e1, e2, h, r, e⟩ := h
    refine ⟨xs, p, vs, g, e1, e2, kp p _ h (.inl (by rw [e, Fp.add_at, single_at]; omega)), r.mono k fun a o q z => kp a o z (.inl (by rw [e, Fp.add_at]; omega)), e⟩
  | b2 =>
    obtain ⟨xs, p, vs, g, e1, e2, h, r, e⟩ := h
    exact ⟨xs, p, vs, g, e1, e2, kp p _ h (.inr rfl), r.mono k fun a o q z => kp a o z (.inr rfl), e⟩
theorem RepM.there {m : Md} {d : D} {v : V} {f : Fp} {a : Addr} (h : RepM K c H m d v f) (q : 0 < f a) : H a ≠ none := by
  cases m with
  | fz => rw [h.2] at q; exact absurd q (Nat.lt_irrefl _)
  | o1 => obtain ⟨p, h, e⟩ := h; rw [e] at q; rw [single_pos q]; exact h.there
  | b1 => obtain ⟨p, h, e⟩ := h; rw [e] at q; exact absurd q (Nat.lt_irrefl _)
  | o2 =>
    obtain ⟨xs, p, vs, g, e1, e2, h, r, e⟩ := h
    rw [e, Fp.add_at] at q
    by_cases hp : 0 < single p a
    · rw [single_pos hp, h]; exact fun z => nomatch z
    · exact r.there (by omega)
  | b2 => obtain ⟨xs, p, vs, g, e1, e2, h, r, e⟩ := h; rw [e] at q; exact absurd q (Nat.lt_irrefl _)
/-- a held value, its ownership given up -/
theorem RepM.fz {m : Md} {d : D} {v : V} {f : Fp} (nb : m.isB = false) (z : ∀ a, 0 < f a → c a = 0) (h : RepM K c H m d v f) : Rep K c H d v := by
  cases m with
  | fz => exact h.1
  | o1 => obtain ⟨p, h, e⟩ := h; exact h.fz (z p (by rw [e, single_at]; exact Nat.one_pos))
  | o2 =>
    obtain ⟨xs, p, vs, g, e1, e2, h, r, e⟩ := h
    subst e1
    exact ⟨p, vs, e2, .inl ⟨.inl h, z p (by rw [e, Fp.add_at, single_at]; omega)⟩, r.reps fun a q => z a (by rw [e, Fp.add_at]; omega)⟩
  | b1 => cases nb
  | b2 => cases nb
/-- the value as it may be read, whoever owns it -/
theorem RepM.b {m : Md} {d : D} {v : V} {f : Fp} (h : RepM K c H m d v f) : Rep K 0 H d v := by
  have k : Kp c 0 H H := ⟨fun _ _ q _ => q, fun _ _ _ _ => rfl⟩
  cases m with
  | fz => exact Rep.mono k _ _ h.1
  | o1 => obtain ⟨p, h, e⟩ := h; exact (h.mono k fun _ q => q).fz rfl
  | b1 => obtain ⟨p, h, e⟩ := h; exact (h.mono k fun _ q => q).fz rfl
  | o2 =>
    obtain ⟨xs, p, vs, g, e1, e2, h, r, e⟩ := h
    subst e1
    exact ⟨p, vs, e2, .inl ⟨.inl h, rfl⟩, (r.mono k fun _ _ _ q => q).reps fun _ _ => rfl⟩
  | b2 =>
    obtain ⟨xs, p, vs, g, e1, e2, h, r, e⟩ := h
    subst e1
    exact ⟨p, vs, e2, .inl ⟨.inl h, rfl⟩, (r.mono k fun _ _ _ q => q).reps fun _ _ => rfl⟩
theorem RepM.rd {m : Md} {d : D} {v : V} {f : Fp} (h : RepM K c H m d v f) : RepM K c H m.rd d v 0 := by
  cases m with
  | fz => exact ⟨h.1, rfl⟩
  | o1 => obtain ⟨p, h, e⟩ := h; exact ⟨p, h, rfl⟩
  | b1 => obtain ⟨p, h, e⟩ := h; exact ⟨p, h, rfl⟩
  | o2 => obtain ⟨xs, p, vs, g, e1, e2, h, r, e⟩ := h; exact ⟨xs, p, vs, g, e1, e2, h, r, rfl⟩
  | b2 => obtain ⟨xs, p, vs, g, e1, e2, h, r, e⟩ := h; exact ⟨xs, p, vs, g, e1, e2, h, r, rfl⟩
/-- scalars -/
theorem RepM.scal {m : Md} {d : D} {v : V} {f : Fp} (h : RepM K c H m d v f) (z : imm d = true) : m = .fz := by
  cases m with
  | fz => rfl
  | o1 => obtain ⟨p, h, e⟩ := h; rw [h.imm] at z; cases z
  | b1 => obtain ⟨p, h, e⟩ := h; rw [h.imm] at z; cases z
  | o2 => obtain ⟨xs, p, vs, g, e1, _⟩ := h; subst e1; cases z
  | b2 => obtain ⟨xs, p, vs, g, e1, _⟩ := h; subst e1; cases z

/-- several held values -/
def RepMs (K : PySem.W.Frag) (c : Fp) (H : Hp) : List MD → List V → Fp → Prop
  | [], vs, f => vs = [] ∧ f = 0
  | x :: xs, vs, f => ∃ v r g h, vs = v :: r ∧ RepM K c H x.1 x.2 v g ∧ RepMs K c H xs r h ∧ f = g + h
theorem RepMs.mono : ∀ {ds : List MD} {vs : List V} {f : Fp} (_ : Kp c c' H H') (_ : ∀ a o, H a = some o → (0 < f a ∨ ds.any (·.1.isB) = true) → H' a = some o), RepMs K c H ds vs f → RepMs K c' H' ds vs f
  | [], _, _, _, _, h => h
  | x :: xs, _, _, k, kp, ⟨v, r, g, h, e, h1, h2, ef⟩ => by
    subst ef
    refine ⟨v, r, g, h, e, h1.mono k fun a o q z => kp a o q ?_, RepMs.mono k (fun a o q z => kp a o q ?_) h2, rfl⟩
    · rcases z with z | z
      · exact .inl (by rw [Fp.add_at]; omega)
      · exact .inr (by rw [List.any_cons, z]; rfl)
    · rcases z with z | z
      · exact .inl (by rw [Fp.add_at]; omega)
      · exact .inr (by rw [List.any_cons, z, Bool.or_true])
theorem RepMs.len : ∀ {ds : List MD} {vs : List V} {f : Fp}, RepMs K c H ds vs f → ds.length = vs.length
  | [], _, _, h => by rw [h.1]; rfl
  | x :: xs, _, _, ⟨v, r, g, h, e, h1, h2, ef⟩ => by rw [e, List.length_cons, List.length_cons, RepMs.len h2]
theorem RepMs.fz : ∀ {ds : List MD} {vs : List V} {f : Fp} (_ : ds.any (·.1.isB) = false) (_ : ∀ a, 0 < f a → c a = 0), RepMs K c H ds vs f → Reps K c H (ds.map (·.2)) vs
  | [], _, _, _, _, h => h.1
  | x :: xs, _, _, nb, z, ⟨v, r, g, h, e, h1, h2, ef⟩ => by
    rw [List.any_cons, Bool.or_eq_false_iff] at nb
    exact ⟨v, r, e, h1.fz nb.1 fun a q => z a (by rw [ef, Fp.add_at]; omega), RepMs.fz nb.2 (fun a q => z a (by rw [ef, Fp.add_at]; omega)) h2⟩
theorem RepMs.b : ∀ {ds : List MD} {vs : List V} {f : Fp}, RepMs K c H ds vs f → Reps K 0 H (ds.map (·.2)) vs
  | [], _, _, h => h.1
  | x :: xs, _, _, ⟨v, r, g, h, e, h1, h2, ef⟩ => ⟨v, r, e, h1.b, RepMs.b h2⟩
end
end DV

set_option Elab.async false
set_option linter.all false
set_option maxRecDepth 100000
/-! DV3: the state of an evaluation; what a reading asks. -/
namespace DV
open PySem L2

structure Slots (K : PySem.W.Frag) (c : Fp) (σ : St) (H : Hp) (s : En) (fps : List Fp) : Prop where
  ln : s.length = fps.length
  ls : s.length = σ.length
  at_ : ∀ (i : Nat) (m : Md) (d : D), s[i]? = some (some (m, d)) → ∃ v f, σ[i]? = some (some v) ∧ fps[i]? = some f ∧ m.isB = false ∧ RepM K c H m d v f
/-- the state s stands in σ, H; fr: what others own -/
structure Rel (K : PySem.W.Frag) (fr : Fp) (fps : List Fp) (σ : St) (H : Hp) (s : En) : Prop where
  le : ∀ a, fr a + tot fps a ≤ 1
  lv : ∀ a, 0 < fr a + tot fps a → H a ≠ none
  sl : Slots K (cn fr fps) σ H s fps
/-- from fps (and the temporary values' f0) in H to fps' (and f) in H'; q: nothing that stood is changed -/
structure Stp (q : Bool) (fr : Fp) (fps : List Fp) (f0 : Fp) (H H' : Hp) (fps' : List Fp) (f : Fp) : Prop where
  le : ∀ a, fr a + f a + tot fps' a ≤ 1
  lv : ∀ a, 0 < fr a + f a + tot fps' a → H' a ≠ none
  nw : ∀ a, 0 < f a + tot fps' a → 0 < f0 a + tot fps a ∨ H a = none
  kp : ∀ a o, H a = some o → (q = true ∨ f0 a + tot fps a = 0) → H' a = some o
section
variable {K : PySem.W.Frag} {fr f0 f1 f : Fp} {fps fps1 fps' : List Fp} {σ : St} {H H1 H' : Hp} {s s1 : En} {q q1 : Bool} {c c' : Fp}
theorem Slots.mono (k : Kp c c' H H') (kp : ∀ a o, H a = some o → 0 < tot fps a → H' a = some o) (h : Slots K c σ H s fps) : Slots K c' σ H' s fps :=
  ⟨h.ln, h.ls, fun i m d e => by
    obtain ⟨v, f, e1, e2, e3, e4⟩ := h.at_ i m d e
    refine ⟨v, f, e1, e2, e3, e4.mono k fun a o z hz => kp a o z ?_⟩
    rcases hz with hz | hz
    · exact Nat.lt_of_lt_of_le hz (tot_le a e2)
    · rw [e3] at hz; cases hz⟩
theorem cn_zero {a : Addr} : cn fr fps a = 0 ↔ fr a = 0 ∧ tot fps a = 0 := by
  unfold cn; omega
/-- the count behind a step, where none was -/
theorem Stp.kpk (st : Stp q (fr + f0) fps 0 H H' fps' f) (le : ∀ a, (fr + f0) a + tot fps a ≤ 1) : Kp (cn (fr + f0) fps) (cn (fr + (f0 + f)) fps') H H' :=
  ⟨fun a o e z => st.kp a o e (.inr (by have := (cn_zero.mp z).2; show 0 + _ = 0; omega)), fun a o e z => by
    have h1 := cn_zero.mp z
    rw [cn_zero, Fp.add_at, Fp.add_at]
    have h2 := h1.1
    rw [Fp.add_at] at h2
    by_cases h3 : 0 < f a + tot fps' a
    · rcases st.nw a h3 with h4 | h4
      · have h5 : 0 < 0 + tot fps a := h4
        omega
      · rw [e] at h4; cases h4
    · omega⟩
/-- a held value (its f0 among the frame) behind a step -/
theorem Stp.keepM {m : Md} {d : D} {v : V} (st : Stp q (fr + f0) fps 0 H H' fps' f) (le : ∀ a, (fr + f0) a + tot fps a ≤ 1) (hf : ∀ a, f1 a ≤ f0 a) (hq : m.isB = true → q = true)
    (h : RepM K (cn (fr + f0) fps) H m d v f1) : RepM K (cn (fr + (f0 + f)) fps') H' m d v f1 :=
  h.mono (st.kpk le) fun a o e z => st.kp a o e (by
    rcases z with z | z
    · right
      have h1 := le a
      have h2 := hf a
      rw [Fp.add_at] at h1
      show 0 + tot fps a = 0
      omega
    · exact .inl (hq z))
theorem Stp.keepMs {ds : List MD} {vs : List V} (st : Stp q (fr + f0) fps 0 H H' fps' f) (le : ∀ a, (fr + f0) a + tot fps a ≤ 1) (hf : ∀ a, f1 a ≤ f0 a) (hq : ds.any (·.1.isB) = true → q = true)
    (h : RepMs K (cn (fr + f0) fps) H ds vs f1) : RepMs K (cn (fr + (f0 + f)) fps') H' ds vs f1 :=
  h.mono (st.kpk le) fun a o e z => st.kp a o e (by
    rcases z with z | z
    · right
      have h1 := le a
      have h2 := hf a
      rw [Fp.add_at] at h1
      show 0 + tot fps a = 0
      omega
    · exact .inl (hq z))
theorem Stp.rel (st : Stp q (fr + f0) fps 0 H H' fps' f) (sl : Slots K (cn (fr + f0 + f) fps') σ H' s fps') : Rel K (fr + (f0 + f)) fps' σ H' s :=
  ⟨fun a => by have := st.le a; rw [Fp.add_at, Fp.add_at]; rw [Fp.add_at] at this; omega, fun a z => st.lv a (by rw [Fp.add_at]; rw [Fp.add_at, Fp.add_at] at z; omega), by rw [← Fp.assoc]; exact sl⟩
/-- two steps in a row -/
theorem Stp.trans (a1 : Stp q1 (fr + f0) fps 0 H H1 fps1 f1) (le : ∀ a, (fr + f0) a + tot fps a ≤ 1) (hq : q = true → q1 = true) (a2 : Stp q fr fps1 (f0 + f1) H1 H' fps' f) : Stp q fr fps f0 H H' fps' f where
  le := a2.le
  lv := a2.lv
  nw := fun a z => by
    rcases a2.nw a z with h | h
    · rw [Fp.add_at] at h
      by_cases h0 : 0 < f0 a
      · left; omega
      · rcases a1.nw a (by omega) with h2 | h2
        · left
          have h3 : 0 < 0 + tot fps a := h2
          omega
        · exact .inr h2
    · cases e : H a with
      | none => exact .inr rfl
      | some o =>
        by_cases h3 : tot fps a = 0
        · rw [a1.kp a o e (.inr (by show 0 + _ = 0; omega))] at h; cases h
        · left; omega
  kp := fun a o e z => by
    have e1 : H1 a = some o := a1.kp a o e (z.imp hq fun z => by show 0 + _ = 0; omega)
    refine a2.kp a o e1 (z.imp id fun z => ?_)
    rw [Fp.add_at]
    by_cases h : 0 < f1 a + tot fps1 a
    · rcases a1.nw a h with h2 | h2
      · have h3 : 0 < 0 + tot fps a := h2
        omega
      · rw [e] at h2; cases h2
    · omega
theorem Stp.weaken (st : Stp true fr fps f0 H H' fps' f) : Stp q fr fps f0 H H' fps' f := ⟨st.le, st.lv, st.nw, fun a o e z => st.kp a o e (.inl rfl)⟩
/-- temporary values are dropped -/
theorem Stp.drop (st : Stp q fr fps f0 H H' fps' f) : Stp q fr fps f0 H H' fps' 0 := ⟨fun a => by have := st.le a; show fr a + 0 + _ ≤ 1; omega, fun a z => st.lv a (by have z' : 0 < fr a + 0 + tot fps' a := z; omega), fun a z => st.nw a (by have z' : 0 < 0 + tot fps' a := z; omega), st.kp⟩
theorem Slots.less (hc : ∀ a, c a = 0 → c' a = 0) (h : Slots K c σ H s fps) : Slots K c' σ H s fps := h.mono ⟨fun _ _ e _ => e, fun a _ _ z => hc a z⟩ fun _ _ e _ => e
end

/-! ### readings -/
/-- what is wanted of an exception x in the state s' -/
def ExcP (K : PySem.W.Frag) (mg : Str → Option Value) (W : WX) (fr : Fp) (fps : List Fp) (f0 : Fp) (σ : St) (H : Hp) (x : Xn) (s' : En) : Prop :=
  ∀ H' fps' dx C w, Stp false fr fps f0 H H' fps' 0 → Slots K (cn fr fps') σ H' s' fps' → mg x.cls = some (.ref C) → Rep K 0 H' x.val w → scalD x.val = true → H' dx = some (.xd [(x.fld, w)]) → W (.ref C) (some dx) σ H'
def EndG {α β : Type} (RR : Fp → Hp → α → β → Fp → Prop) (K : PySem.W.Frag) (mg : Str → Option Value) (W : WX) (q : Bool) (fr : Fp) (fps : List Fp) (f0 : Fp) (σ : St) (H : Hp) (r : Rs α) (Q : β → Hp → Prop) : Prop :=
  match r with
  | .ok x s' => ∀ v H' fps' f, Stp q fr fps f0 H H' fps' f → Slots K (cn (fr + f) fps') σ H' s' fps' → RR (cn (fr + f) fps') H' x v f → Q v H'
  | .exc x s' => ExcP K mg W fr fps f0 σ H x s'
  | .no => False
def tG {α β : Type} (RR : Fp → Hp → α → β → Fp → Prop) (K : PySem.W.Frag) (mg : Str → Option Value) (W : WX) (q : Bool) (m : En → Rs α) : St → Hp → (β → Hp → Prop) → Prop :=
  fun σ H Q => ∃ fr fps s, Rel K fr fps σ H s ∧ EndG RR K mg W q fr fps 0 σ H (m s) Q
def rM (K : PySem.W.Frag) : Fp → Hp → MD → V → Fp → Prop := fun c H x v f => RepM K c H x.1 x.2 v f
def rMs (K : PySem.W.Frag) : Fp → Hp → List MD → List V → Fp → Prop := fun c H x v f => RepMs K c H x v f
def rB : Fp → Hp → Bool → Bool → Fp → Prop := fun _ _ b b' f => b' = b ∧ f = 0
def rOI : Fp → Hp → Option Int → Option Int → Fp → Prop := fun _ _ b b' f => b' = b ∧ f = 0
section
variable {α β γ δ : Type} {RR : Fp → Hp → α → β → Fp → Prop} {R1 : Fp → Hp → γ → δ → Fp → Prop} {K : PySem.W.Frag} {mg : Str → Option Value} {W : WX} {q q1 : Bool} {fr f0 : Fp} {fps : List Fp} {σ : St} {H : Hp} {s : En} {Q : β → Hp → Prop}
theorem ExcP.trans {H1 : Hp} {fps1 : List Fp} {f1 : Fp} {x : Xn} {s' : En} (a1 : Stp q1 (fr + f0) fps 0 H H1 fps1 f1) (le : ∀ a, (fr + f0) a + tot fps a ≤ 1) (h : ExcP K mg W fr fps f0 σ H x s') : ExcP K mg W fr fps1 (f0 + f1) σ H1 x s' :=
  fun H' fps' dx C w st sl hm hr hs hd => h H' fps' dx C w (a1.trans le (fun z => nomatch z) st) sl hm hr hs hd
/-- what is wanted, seen from behind a first step -/
theorem EndG.trans {H1 : Hp} {fps1 : List Fp} {f1 : Fp} {r : Rs α} (a1 : Stp q1 (fr + f0) fps 0 H H1 fps1 f1) (le : ∀ a, (fr + f0) a + tot fps a ≤ 1) (hq : q = true → q1 = true) (h : EndG RR K mg W q fr fps f0 σ H r Q) : EndG RR K mg W q fr fps1 (f0 + f1) σ H1 r Q := by
  cases r with
  | ok x s' => exact fun v H' fps' f st sl hr => h v H' fps' f (a1.trans le hq st) sl hr
  | exc x s' => exact ExcP.trans a1 le h
  | no => exact h
/-- THE STEP: a first part m is read, then what is wanted of the rest -/
theorem tG_step {m : En → Rs γ} {k : γ → En → Rs α} (rel : Rel K (fr + f0) fps σ H s) (hq : q = true → q1 = true) (h : EndG RR K mg W q fr fps f0 σ H ((m s).bind k) Q)
    {Q' : δ → Hp → Prop} (hQ : ∀ x s1 v H1 fps1 f1, m s = .ok x s1 → Stp q1 (fr + f0) fps 0 H H1 fps1 f1 → Rel K (fr + (f0 + f1)) fps1 σ H1 s1 → R1 (cn (fr + (f0 + f1)) fps1) H1 x v f1 → EndG RR K mg W q fr fps1 (f0 + f1) σ H1 (k x s1) Q → Q' v H1) :
    tG R1 K mg W q1 m σ H Q' := by
  refine ⟨fr + f0, fps, s, rel, ?_⟩
  cases e : m s with
  | no => rw [e] at h; exact h.elim
  | exc x s' =>
    rw [e] at h
    have h' : ExcP K mg W fr fps f0 σ H x s' := h
    exact fun H' fps' dx C w st sl hm hr hs hd => h' H' fps' dx C w ⟨fun a => by have := st.le a; rw [Fp.add_at] at this; show fr a + 0 + _ ≤ 1; omega,
      fun a z => st.lv a (by have z' : 0 < fr a + 0 + tot fps' a := z; rw [Fp.add_at]; omega), fun a z => (st.nw a z).imp (fun y => by have y' : 0 < 0 + tot fps a := y; omega) id,
      fun a o eo z => st.kp a o eo (z.imp id fun y => by show 0 + _ = 0; omega)⟩ (sl.less fun a z => by rw [cn_zero] at z ⊢; rw [Fp.add_at] at z; omega) hm hr hs hd
  | ok x s1 =>
    rw [e] at h
    intro v H1 fps1 f1 st sl hr
    refine hQ x s1 v H1 fps1 f1 e st (st.rel sl) (by rw [← Fp.assoc]; exact hr) ?_
    exact EndG.trans st rel.le hq h
/-- .. at an evaluation's start -/
theorem tG_in {m : En → Rs α} (h : tG RR K mg W q m σ H Q) : ∃ fr fps s, Rel K (fr + 0) fps σ H s ∧ EndG RR K mg W q fr fps 0 σ H (m s) Q := h
end
section
variable {K : PySem.W.Frag} {mg : Str → Option Value} {W : WX} {q : Bool} {fr f0 : Fp} {fps : List Fp} {σ : St} {H H' : Hp} {s : En} {Q : VK}
/-- the heap has grown -/
def Grw (H H' : Hp) : Prop := ∀ a o, H a = some o → H' a = some o
theorem Grw.refl : Grw H H := fun _ _ h => h
theorem Grw.upd {p : Addr} {o : HO} (h : H p = none) : Grw H (upd H p o) := fun a u e => by rw [upd_ne (ne_of_none e h)]; exact e
theorem Grw.trans {H1 H2 : Hp} (a : Grw H H1) (b : Grw H1 H2) : Grw H H2 := fun c o e => b c o (a c o e)
/-- the end with a frozen value -/
theorem EndG.fz {d : D} {u : V} (rel : Rel K (fr + f0) fps σ H s) (h : EndG (rM K) K mg W q fr fps f0 σ H (.ok (fzv d) s) Q) (g : Grw H H') (r : Rep K (cn fr fps) H' d u) : Q u H' := by
  refine h u H' fps 0 ⟨fun a => ?_, fun a z => ?_, fun a z => ?_, fun a o e _ => g a o e⟩ (rel.sl.mono ⟨fun a o e _ => g a o e, fun a o e z => ?_⟩ fun a o e _ => g a o e) ⟨?_, rfl⟩
  · have := rel.le a; rw [Fp.add_at] at this; show fr a + 0 + _ ≤ 1; omega
  · have z' : 0 < fr a + 0 + tot fps a := z
    have := rel.lv a (by rw [Fp.add_at]; omega)
    cases e : H a with
    | none => exact absurd e this
    | some o => rw [g a o e]; exact fun y => nomatch y
  · have z' : 0 < 0 + tot fps a := z
    left; omega
  · rw [cn_zero] at z ⊢; rw [Fp.add_at] at z; rw [Fp.add_zero]; omega
  · rw [Fp.add_zero]; exact r
theorem EndG.fz0 {d : D} {u : V} (rel : Rel K (fr + f0) fps σ H s) (h : EndG (rM K) K mg W q fr fps f0 σ H (.ok (fzv d) s) Q) (g : Grw H H') (r : Rep K (cn (fr + f0) fps) H' d u) : Q u H' :=
  EndG.fz rel h g (Rep.mono ⟨fun _ _ e _ => e, fun a _ _ z => by rw [cn_zero] at z ⊢; rw [Fp.add_at] at z; omega⟩ _ _ r)
/-- .. a scalar -/
theorem EndG.int {i : Int} (rel : Rel K (fr + f0) fps σ H s) (h : EndG (rM K) K mg W q fr fps f0 σ H (.ok (fzv (.int i)) s) Q) : Q (.int i) H := EndG.fz rel h Grw.refl rfl
theorem EndG.bl {i : Bool} (rel : Rel K (fr + f0) fps σ H s) (h : EndG (rM K) K mg W q fr fps f0 σ H (.ok (fzv (.bool i)) s) Q) : Q (.bl i) H := EndG.fz rel h Grw.refl rfl
theorem Kp.new {fr : Fp} {fps : List Fp} {H H' : Hp} {p : Addr} (g : Grw H H') (n : H p = none) : Kp (cn fr fps) (cn (fr + single p) fps) H H' :=
  ⟨fun a o e _ => g a o e, fun a o e z => by
    have ne : a ≠ p := fun y => by subst y; rw [n] at e; cases e
    rw [cn_zero] at z ⊢; rw [Fp.add_at, single_ne ne]; omega⟩
/-- .. with a new list or dict at p, owned -/
theorem EndG.new {d : D} {p : Addr} (rel : Rel K (fr + f0) fps σ H s) (h : EndG (rM K) K mg W q fr fps f0 σ H (.ok (.o1, d) s) Q) (g : Grw H H') (n : H p = none) (r : RepO K (cn (fr + single p) fps) H' p d (.ref p)) : Q (.ref p) H' := by
  have np : ∀ a, 0 < fr a + tot fps a → a ≠ p := fun a z e => by
    subst e
    exact rel.lv a (by rw [Fp.add_at]; omega) n
  have lvH : ∀ a, 0 < fr a + tot fps a → H' a ≠ none := fun a z => by
    have := rel.lv a (by rw [Fp.add_at]; omega)
    cases e : H a with
    | none => exact absurd e this
    | some o => rw [g a o e]; exact fun y => nomatch y
  refine h (.ref p) H' fps (single p) ⟨fun a => ?_, fun a z => ?_, fun a z => ?_, fun a o e _ => g a o e⟩ (rel.sl.mono ⟨fun a o e _ => g a o e, fun a o e z => ?_⟩ fun a o e _ => g a o e) ⟨p, r, rfl⟩
  · have h1 := rel.le a; rw [Fp.add_at] at h1
    by_cases e : a = p
    · subst e
      have h2 : ¬ 0 < fr a + tot fps a := fun z => np a z rfl
      rw [single_at]; omega
    · rw [single_ne e]; omega
  · by_cases e : a = p
    · subst e; exact r.there
    · rw [single_ne e] at z; exact lvH a (by omega)
  · by_cases e : a = p
    · subst e; exact .inr n
    · rw [single_ne e] at z; left; omega
  · have ne : a ≠ p := fun y => by subst y; rw [n] at e; cases e
    rw [cn_zero] at z ⊢
    rw [Fp.add_at] at z
    rw [Fp.add_at, single_ne ne]; omega
end
end DV

set_option Elab.async false
set_option linter.all false
set_option maxRecDepth 100000
set_option maxHeartbeats 1000000
/-! DV4: operations: rules that the layer lacks, and what data say to each rule. -/
namespace DV
open PySem L2 PySem.Spec PyProof.Rows

theorem _root_.L2.PE.imp {X : Cx} {e : Expr} {t t' : TE} (h : PE X e t) (hi : ∀ σ H Q, t' σ H Q → t σ H Q) : PE X e t' := ⟨fun pins s σ H Q I q => h.run pins s σ H Q I (hi σ H Q q)⟩
theorem _root_.L2.PE.impI {X : Cx} {e : Expr} {t t' : TE} (h : PE X e t) (hi : ∀ pins s σ H Q, Inv X pins σ H s → t' σ H Q → t σ H Q) : PE X e t' := ⟨fun pins s σ H Q I q => h.run pins s σ H Q I (hi pins s σ H Q I q)⟩
theorem _root_.L2.PE.or {X : Cx} {e : Expr} {t t' : TE} (h : PE X e t) (h' : PE X e t') : PE X e (fun σ H Q => t σ H Q ∨ t' σ H Q) := ⟨fun pins s σ H Q I q => q.elim (h.run pins s σ H Q I) (h'.run pins s σ H Q I)⟩
theorem _root_.L2.PT.imp {X : Cx} {e : Expr} {t t' : TT} (h : PT X e t) (hi : ∀ σ H Q, t' σ H Q → t σ H Q) : PT X e t' := ⟨fun pins s σ H Q I q => h.run pins s σ H Q I (hi σ H Q q)⟩
theorem _root_.L2.PS.imp {X : Cx} {e : Stmt} {t t' : TS} (h : PS X e t) (hi : ∀ D σ H, t' D σ H → t D σ H) : PS X e t' := ⟨fun pins s σ H D I q => h.run pins s σ H D I (hi D σ H q)⟩
theorem _root_.L2.PS.impI {X : Cx} {e : Stmt} {t t' : TS} (h : PS X e t) (hi : ∀ pins s D σ H, Inv X pins σ H s → t' D σ H → t D σ H) : PS X e t' := ⟨fun pins s σ H D I q => h.run pins s σ H D I (hi pins s D σ H I q)⟩
theorem _root_.L2.PS.or {X : Cx} {e : Stmt} {t t' : TS} (h : PS X e t) (h' : PS X e t') : PS X e (fun D σ H => t D σ H ∨ t' D σ H) := ⟨fun pins s σ H D I q => q.elim (h.run pins s σ H D I) (h'.run pins s σ H D I)⟩

/-! ### rules -/
section
variable {X : Cx}
def rNo : R2 := fun _ _ _ _ => False
theorem op_no {f : Value → Value → Sem Value} : OpR X f rNo := fun _ _ _ _ _ _ _ _ _ _ _ _ h => h.elim
/-- list + list, whoever holds them -/
def rCatL (K : PySem.W.Frag) : R2 := fun x y H Q => ∃ l b xs zs, x = .ref l ∧ y = .ref b ∧ SqL K H l xs ∧ SqL K H b zs ∧ xs.length + zs.length ≤ sizeLine ∧ ∀ p, H p = none → Q (.ref p) (upd H p (.lst (xs ++ zs)))
theorem op_catL : OpR X (binaryOp .Add) (rCatL X.K) := by
  intro pins s σ H x y v u Q I rx ry h
  obtain ⟨l, b, xs, zs, rfl, rfl, hH, hB, hz, q⟩ := h
  cases rx
  cases ry
  obtain ⟨its, r, ⟨⟨cls, dd, data, sl⟩, n, ho, hc, hdn, hd⟩, _⟩ := I.list hH
  obtain ⟨its2, r2, ⟨⟨cls2, dd2, data2, sl2⟩, n2, ho2, hc2, hdn2, hd2⟩, _⟩ := I.list hB
  simp only at hc hd hc2 hd2
  subst hc hd hc2 hd2
  have hl := r.length
  have hl2 := r2.length
  refine concat_meets ⟨_, ho, rfl⟩ ⟨_, ho2, rfl⟩ noFill_list_add seq_list_add PySem.F.slot_list_add PySem.F.entry_list_add (PySem.F.args_list_add_2 _ _) (list_addW l b its.toArray its2.toArray n n2 dd dd2 sl sl2 (by rw [List.size_toArray, List.size_toArray]; omega)) ⟨ho, ho2, ?_⟩
  have ea : its.toArray ++ its2.toArray = (its ++ its2).toArray := by simp
  rw [ea]
  exact ⟨.ref _, _, I.lnew (t' := s.toks) (r.append r2) (by rw [List.length_append]; omega), rfl, q _ I.fresh⟩
theorem list_extendW (l : Addr) (items : Array Value) (n : Nat) (b : Addr) (items2 : Array Value) (n2 : Nat) (dd2 : Option Addr) (sl2 : Array (Option Value)) (hc0 : ¬(!items.isEmpty && Builtin.List.listTooLong (items.size + items2.size)) = true) (hc1 : items.size ≤ sizeLine) (hs2 : items.size + items2.size ≤ sizeLine + 1) :
    Meets (Builtin.«list.extend» ⟨[.ref l, .ref b], []⟩) (fun _ R s => s.heap.get? l = some { cls := .type "list", dict := none, data := .seq items n, slots := #[] } ∧ s.heap.get? b = some { cls := .type "list", dict := dd2, data := .seq items2 n2, slots := sl2 } ∧ R (.ok (.ret Value.none)) { s with heap := s.heap.update l (Obj.mapSeq fun x => x ++ items2), toks := s.toks }) :=
  .of_wp fun prog w A R s h => by
    obtain ⟨hp, g, d, tk, os⟩ := s; obtain ⟨hl, hb, h⟩ := h; have f1 := AutoSeq1.idx_int; have f2 := AutoSeq1.sub_tuple_tuple; have f3 := AutoSeq1.sub_list_list; have f4 := AutoSeq1.sub_tuple_list; have f5 := AutoSeq1.sub_list_tuple;
    have hz' : (items ++ items2).size ≤ sizeLine + 1 := by rw [Array.size_append]; exact hs2
    wp_walk using (wpAny_updateSeq hl rfl (hz := hc1) (_hz' := hz')), wpAny_loadPart' hl, wpAny_loadPart' hb; exact ⟨_, rfl, h⟩
def rExtL (K : PySem.W.Frag) : V → List V → Hp → VK → Prop := fun x vs H Q => ∃ l b xs zs, x = .ref l ∧ vs = [.ref b] ∧ H l = some (.lst xs) ∧ SqL K H b zs ∧ xs.length + zs.length ≤ sizeLine ∧ Q .non (upd H l (.lst (xs ++ zs)))
theorem mt_extL : MtM X "list.extend" (rExtL X.K) := by
  intro pins s σ H x vs v us Q I rx rv h
  obtain ⟨l, b, xs, zs, rfl, rfl, hH, hB, hz, q⟩ := h
  cases rx
  obtain ⟨u, rfl, ru⟩ := rv.one
  cases ru
  obtain ⟨z, its, n, r, hl, e⟩ := I.lstM hH
  obtain ⟨its2, r2, ⟨⟨cls2, dd2, data2, sl2⟩, n2, ho2, hc2, hdn2, hd2⟩, _⟩ := I.list hB
  simp only at hc2 hd2
  subst hc2 hd2
  have hl2 := r2.length
  have hsz : its.toArray.size + its2.toArray.size ≤ sizeLine := by rw [List.size_toArray, List.size_toArray]; omega
  have hlong : ¬ (!its.toArray.isEmpty && Builtin.List.listTooLong (its.toArray.size + its2.toArray.size)) = true := by
    rw [notLongL hsz, Bool.and_false]
    exact Bool.false_ne_true
  refine call_meets PySem.F.slot_list_extend ⟨_, e, rfl⟩ PySem.F.entry_list_extend (PySem.F.args_list_extend_2 _ _)
    (list_extendW l its.toArray n b its2.toArray n2 dd2 sl2 hlong (by rw [List.size_toArray]; omega) (by omega)) ⟨e, ho2, ?_⟩
  refine ⟨.non, _, I.lset (its' := its ++ its2) hH e (by simp) (r.append r2) ?_, rfl, q⟩
  rw [List.length_append]
  omega
/-- x in t, t a tuple of data -/
def rInT (K : PySem.W.Frag) (neg : Bool) : R2 := fun x y H Q => ∃ d ds, Dp K H x d ∧ Dp K H y (.tuple ds) ∧ SeqAt.shaped d = true ∧ SeqAt.shaped (.list ds) = true ∧ Q (.bl (if neg then !(ds.any fun z => PyData.eqv z d) else ds.any fun z => PyData.eqv z d)) H
theorem op_inT (hu : X.A.units + 65 < cLine) : OpR X (compareOp .In) (rInT X.K false) := by
  intro pins s σ H x y v u Q I rx ry h
  obtain ⟨d, ds, hd, he, sd, se, q⟩ := h
  obtain ⟨as, r1⟩ := Dp.reads I d x v hd rx
  obtain ⟨bs, r2⟩ := Dp.reads I (.tuple ds) y u he ry
  exact SeqAt.in_tuple_reads r2 r1 (SeqAt.canLay_of_shaped se) (SeqAt.canLay_of_shaped sd) (room_in_shaped sd hu) ⟨.bl _, H, I, rfl, q⟩
theorem op_notInT (hu : X.A.units + 65 < cLine) : OpR X (compareOp .NotIn) (rInT X.K true) := by
  intro pins s σ H x y v u Q I rx ry h
  obtain ⟨d, ds, hd, he, sd, se, q⟩ := h
  obtain ⟨as, r1⟩ := Dp.reads I d x v hd rx
  obtain ⟨bs, r2⟩ := Dp.reads I (.tuple ds) y u he ry
  exact SeqAt.notIn_tuple_reads r2 r1 (SeqAt.canLay_of_shaped se) (SeqAt.canLay_of_shaped sd) (room_in_shaped sd hu) ⟨.bl _, H, I, rfl, q⟩
/-- k in d -/
def rInK (neg : Bool) : R2 := fun y x H Q => ∃ a o, x = .ref a ∧ DGet H a y o ∧ Q (.bl (if neg then !o.isSome else o.isSome)) H
theorem op_inK (hu : X.A.units + 1 < cLine) : OpR X (compareOp .In) (rInK false) := by
  intro pins s σ H y x v u Q I ry rx h
  obtain ⟨a, o, rfl, g, q⟩ := h
  obtain rfl : u = Value.ref a := rx
  exact d_in hu I g ry fun s3 I3 => ⟨.bl o.isSome, H, I3, rfl, q⟩
theorem op_notInK (hu : X.A.units + 1 < cLine) : OpR X (compareOp .NotIn) (rInK true) := by
  intro pins s σ H y x v u Q I ry rx h
  obtain ⟨a, o, rfl, g, q⟩ := h
  obtain rfl : u = Value.ref a := rx
  exact d_notIn hu I g ry fun s3 I3 => ⟨.bl (!o.isSome), H, I3, rfl, q⟩

/-! ### binary operations -/
def rBin (K : PySem.W.Frag) : Operator → R2
  | .Add => fun x y H Q => rI0 (fun i j => .int (i + j)) x y H Q ∨ rCatA K x y H Q ∨ rCatL K x y H Q
  | .Sub => rI0 fun i j => .int (i - j)
  | .Mult => rI CMul fun i j => .int (i * j)
  | .FloorDiv => rI CDiv fun i j => .int (i / j)
  | .Mod => rI (fun _ j => 0 < j) fun i j => .int (i % j)
  | .Pow => rI CPow fun i j => .int (i ^ j.toNat)
  | _ => rNo
theorem op_bin : ∀ op : Operator, OpR X (binaryOp op) (rBin X.K op)
  | .Add => op_add.or (op_catA.or op_catL)
  | .Sub => op_sub
  | .Mult => op_mul
  | .FloorDiv => op_fdiv
  | .Mod => op_mod
  | .Pow => op_pow
  | .MatMult => op_no | .Div => op_no | .LShift => op_no | .RShift => op_no | .BitOr => op_no | .BitXor => op_no | .BitAnd => op_no
def rCmp (K : PySem.W.Frag) : CmpOp → R2
  | .Eq => rEqD K
  | .NotEq => rNeD K
  | .Lt => rI0 fun i j => .bl (decide (i < j))
  | .LtE => rI0 fun i j => .bl (decide (i ≤ j))
  | .Gt => rI0 fun i j => .bl (decide (j < i))
  | .GtE => rI0 fun i j => .bl (decide (j ≤ i))
  | .In => fun x y H Q => rInD K x y H Q ∨ rInT K false x y H Q ∨ rInK false x y H Q
  | .NotIn => fun x y H Q => rNotInD K x y H Q ∨ rInT K true x y H Q ∨ rInK true x y H Q
  | .Is => fun x y H Q => (y = .non ∧ Q (.bl (decide (x = .non))) H) ∨ rIsB x y H Q
  | .IsNot => fun x y H Q => (y = .non ∧ Q (.bl (!decide (x = .non))) H) ∨ rNotB x y H Q
theorem op_cmp (hu : X.A.units + 65 < cLine) : ∀ op : CmpOp, OpR X (compareOp op) (rCmp X.K op)
  | .Eq => op_eqD (by omega)
  | .NotEq => op_neD (by omega)
  | .Lt => op_lt | .LtE => op_le | .Gt => op_gt | .GtE => op_ge
  | .In => (op_inD hu).or ((op_inT hu).or (op_inK (by omega)))
  | .NotIn => (op_notInD hu).or ((op_notInT hu).or (op_notInK (by omega)))
  | .Is => op_isN.or op_isBl
  | .IsNot => op_notN.or op_notBl
end
theorem _root_.L2.Room.u65 {k : Nat} {A : Around} (r : Room k A) : A.units + 65 < cLine := by have := r.un; omega
theorem lineN_eq : lineN = sizeLine := sizeLine_eq.symm
theorem okLen_le {n : Nat} (h : okLen n = true) : n ≤ sizeLine := by rw [← lineN_eq]; exact of_decide_eq_true h

/-! ### what data say -/
section
variable {X : Cx} {K : PySem.W.Frag} {mg : Str → Option Value} {W : WX} {q : Bool} {fr f0 : Fp} {fps : List Fp} {σ : L2.St} {H H' : Hp} {s : En} {Q : VK} {c : Fp}
/-- a value frozen, with its ownership given up, as the end wants it -/
theorem fz_of {m : Md} {d : D} {v : V} {f : Fp} (rel : Rel K (fr + f0) fps σ H s) (hf : ∀ a, f a ≤ f0 a) (nb : m.isB = false) (r : RepM K (cn (fr + f0) fps) H m d v f) : Rep K (cn fr fps) H d v := by
  have k : Kp (cn (fr + f0) fps) (cn fr fps) H H := ⟨fun _ _ e _ => e, fun a _ _ z => by rw [cn_zero] at z ⊢; rw [Fp.add_at] at z; omega⟩
  refine (r.mono k fun a o e _ => e).fz nb fun a z => ?_
  have h1 := rel.le a
  have h2 := hf a
  rw [Fp.add_at] at h1
  rw [cn_zero]; omega
theorem less_of {d : D} {v : V} (r : Rep K (cn (fr + f0) fps) H d v) : Rep K (cn fr fps) H d v :=
  Rep.mono ⟨fun _ _ e _ => e, fun a _ _ z => by rw [cn_zero] at z ⊢; rw [Fp.add_at] at z; omega⟩ _ _ r
theorem lesss_of {d : List D} {v : List V} (r : Reps K (cn (fr + f0) fps) H d v) : Reps K (cn fr fps) H d v :=
  Reps.mono ⟨fun _ _ e _ => e, fun a _ _ z => by rw [cn_zero] at z ⊢; rw [Fp.add_at] at z; omega⟩ _ _ r
/-- a list's items are frozen (but where its lists are owned) -/
theorem RepM.items {m : Md} {xs : List D} {v : V} {f : Fp} (n2 : m.is2 = false) (r : RepM K c H m (.list xs) v f) : ∃ a vs, v = .ref a ∧ SqL K H a vs ∧ Reps K c H xs vs := by
  cases m with
  | fz => obtain ⟨⟨a, vs, e, h, r⟩, _⟩ := r; exact ⟨a, vs, e, h.sq, r⟩
  | o1 => obtain ⟨p, ⟨e, vs, h, r⟩, _⟩ := r; exact ⟨p, vs, e, .of h, r⟩
  | b1 => obtain ⟨p, ⟨e, vs, h, r⟩, _⟩ := r; exact ⟨p, vs, e, .of h, r⟩
  | o2 => cases n2
  | b2 => cases n2
theorem RepM.itemsT {m : Md} {xs : List D} {v : V} {f : Fp} (r : RepM K c H m (.tuple xs) v f) : ∃ a vs, v = .ref a ∧ SqT K H a vs ∧ Reps K c H xs vs := by
  cases m with
  | fz => obtain ⟨⟨a, vs, e, h, r⟩, _⟩ := r; exact ⟨a, vs, e, h.sq, r⟩
  | o1 => obtain ⟨p, h, _⟩ := r; exact h.elim
  | b1 => obtain ⟨p, h, _⟩ := r; exact h.elim
  | o2 => obtain ⟨xs, p, vs, g, e1, _⟩ := r; cases e1
  | b2 => obtain ⟨xs, p, vs, g, e1, _⟩ := r; cases e1
theorem RepM.int {m : Md} {i : Int} {v : V} {f : Fp} (r : RepM K c H m (.int i) v f) : v = .int i := r.b
theorem RepM.bl {m : Md} {i : Bool} {v : V} {f : Fp} (r : RepM K c H m (.bool i) v f) : v = .bl i := r.b
theorem RepM.str {m : Md} {i : Str} {v : V} {f : Fp} (r : RepM K c H m (.str i) v f) : v = .str i := r.b
theorem RepM.non {m : Md} {v : V} {f : Fp} (r : RepM K c H m .none v f) : v = .non := r.b
theorem RepM.dp {m : Md} {d : D} {v : V} {f : Fp} (l : SeqAt.shaped d = true) (r : RepM K c H m d v f) : Dp K H v d := Rep.dp d v (SeqAt.canLay_of_shaped l) r.b

theorem bin_ok {op : Operator} {x y : MD} {v w : V} {f1 f2 : Fp} (rel : Rel K (fr + f0) fps σ H s) (h : EndG (rM K) K mg W q fr fps f0 σ H (ofO (binD op x.2 y.2) s) Q)
    (r1 : RepM K (cn (fr + f0) fps) H x.1 x.2 v f1) (r2 : RepM K (cn (fr + f0) fps) H y.1 y.2 w f2) (h1 : x.1.isB = false → ∀ a, f1 a ≤ f0 a) (n1 : x.1.is2 = false) (n2 : y.1.is2 = false) : rBin K op v w H Q := by
  obtain ⟨m1, d1⟩ := x
  obtain ⟨m2, d2⟩ := y
  dsimp only at h r1 r2
  cases e : binD op d1 d2 with
  | none => rw [e] at h; exact h.elim
  | some md =>
    rw [e] at h
    have h' : EndG (rM K) K mg W q fr fps f0 σ H (.ok md s) Q := h
    unfold binD at e
    split at e
    · cases e
      exact .inl ⟨_, _, r1.int, r2.int, EndG.int rel h'⟩
    · split at e
      · rename_i xs ys hl
        cases e
        obtain ⟨a, vs, e1, s1, i1⟩ := r1.itemsT
        obtain ⟨b, ws, e2, s2, i2⟩ := r2.itemsT
        have l1 := i1.len
        have l2 := i2.len
        have hz := okLen_le hl
        refine .inr (.inl ⟨a, b, vs, ws, e1, e2, s1, s2, by omega, fun z => ?_, fun z1 z2 => ?_, fun z1 z2 p hp => ?_⟩)
        · have : xs = [] := List.length_eq_zero_iff.mp (by rw [l1, z]; rfl)
          subst this
          subst e2
          obtain ⟨rr, _⟩ := (show RepM K (cn (fr + f0) fps) H .fz _ _ f2 from by
            have hm : m2 = .fz := by
              cases m2 with
              | fz => rfl
              | o1 => obtain ⟨p, h, _⟩ := r2; exact h.elim
              | b1 => obtain ⟨p, h, _⟩ := r2; exact h.elim
              | o2 => cases n2
              | b2 => cases n2
            subst hm; exact r2)
          exact EndG.fz0 rel h' Grw.refl rr
        · have : ys = [] := List.length_eq_zero_iff.mp (by rw [l2, z2]; rfl)
          subst this
          subst e1
          rw [List.append_nil] at h'
          obtain ⟨rr, _⟩ := (show RepM K (cn (fr + f0) fps) H .fz _ _ f1 from by
            have hm : m1 = .fz := by
              cases m1 with
              | fz => rfl
              | o1 => obtain ⟨p, h, _⟩ := r1; exact h.elim
              | b1 => obtain ⟨p, h, _⟩ := r1; exact h.elim
              | o2 => cases n1
              | b2 => cases n1
            subst hm; exact r1)
          exact EndG.fz0 rel h' Grw.refl rr
        · have k : Kp (cn (fr + f0) fps) (cn fr fps) H (upd H p (.tup (vs ++ ws))) := ⟨fun a o e _ => Grw.upd hp a o e, fun a _ _ z => by rw [cn_zero] at z ⊢; rw [Fp.add_at] at z; omega⟩
          refine EndG.fz rel h' (Grw.upd hp) ⟨p, _, rfl, .inl ⟨.inl upd_same, ?_⟩, Reps.mono k _ _ (i1.append i2)⟩
          cases z : cn fr fps p with
          | zero => rfl
          | succ n =>
            exact absurd hp (rel.lv p (by have z' : fr p + tot fps p = n + 1 := z; rw [Fp.add_at]; omega))
      · cases e
    · split at e
      · rename_i xs ys hl
        cases e
        obtain ⟨a, vs, e1, s1, i1⟩ := r1.items n1
        obtain ⟨b, ws, e2, s2, i2⟩ := r2.items n2
        have l1 := i1.len
        have l2 := i2.len
        have hz := okLen_le hl
        refine .inr (.inr ⟨a, b, vs, ws, e1, e2, s1, s2, by omega, fun p hp => ?_⟩)
        exact EndG.new rel h' (Grw.upd hp) hp ⟨rfl, _, upd_same, Reps.mono (Kp.new (Grw.upd hp) hp) _ _ (lesss_of (i1.append i2))⟩
      · cases e
    · cases e
      exact ⟨_, _, r1.int, r2.int, EndG.int rel h'⟩
    · split at e
      · rename_i hc
        cases e
        exact ⟨_, _, r1.int, r2.int, hc, EndG.int rel h'⟩
      · cases e
    · split at e
      · rename_i hc
        cases e
        exact ⟨_, _, r1.int, r2.int, hc, EndG.int rel h'⟩
      · cases e
    · split at e
      · rename_i hc
        cases e
        exact ⟨_, _, r1.int, r2.int, hc, EndG.int rel h'⟩
      · cases e
    · split at e
      · rename_i hc
        cases e
        exact ⟨_, _, r1.int, r2.int, hc, EndG.int rel h'⟩
      · cases e
    · cases e
end
end DV

set_option Elab.async false
set_option linter.all false
set_option maxRecDepth 100000
set_option maxHeartbeats 1000000
/-! DV5: rules that the layer lacks: min, max of tuples, enumerate of tuples, len(set(..)). -/
namespace PySem
open Sem (wp)
open AutoSeq1 (wpAny_loadPart')
namespace DVR
section
variable {prog : Program} {w : World} {A : Around} {E : Value → Shared → Prop} {s : Shared} {l : Addr} {xs : Array (Int × Tok)}
theorem iter_intTup {Q : Value → Shared → Prop} (hl : s.heap.IsTuple l (intItems xs))
    (h : ∀ s₂ : Shared, s₂ = { s with heap := s.heap.push { cls := .type "tuple_iterator", data := .fields #[.ref l, .int 0 0] } } →
      (s₂.heap.IsTupleIter s.heap.objs.size l 0 ∧ s₂.heap.IsTuple l (intItems xs)) → (∀ b ∈ [s.heap.objs.size, l], b < s₂.heap.objs.size) → l ≠ s.heap.objs.size → Q (.ref s.heap.objs.size) s₂) :
    wpAny (model prog w) A (pyIter (.ref l)) Q E s := by
  have hlt : l < s.heap.objs.size := by obtain ⟨_, e, _⟩ := hl; exact Heap.lt_size e
  refine wpAny_pyIter_tuple hl (h _ rfl ⟨⟨_, Heap.get?_push_size _ rfl, rfl, rfl⟩, hl.push _⟩ (fun b hb => ?_) (Nat.ne_of_lt hlt))
  show b < (s.heap.push _).objs.size
  rw [Heap.size_push]
  rcases List.mem_cons.mp hb with rfl | hb
  · exact Nat.lt_succ_self _
  · rcases List.mem_cons.mp hb with rfl | hb
    · exact Nat.lt_succ_of_lt hlt
    · cases hb
theorem old_keptT {h' : Heap} (hk : ∀ b o, b ∉ [s.heap.objs.size] → (s.heap.push { cls := .type "tuple_iterator", data := .fields #[.ref l, .int 0 0] }).get? b = some o → h'.get? b = some o) :
    ∀ b o, s.heap.get? b = some o → h'.get? b = some o := fun b o e => by
  refine hk b o (fun hm => ?_) (Heap.get?_push_of_some _ e)
  rcases List.mem_cons.mp hm with e1 | hm
  · exact absurd (e1 ▸ Heap.lt_size e) (Nat.lt_irrefl _)
  · cases hm
theorem max_intTup {Q : Value → Shared → Prop} (hh : A.handled = none) (hl : s.heap.IsTuple l (intItems xs)) (hne : 0 < xs.size)
    (h : ∀ v h' tk, (intItems xs)[argBest (fun i j => decide (numAt xs i > numAt xs j)) (xs.size - 1)]? = some v → (∀ b o, s.heap.get? b = some o → h'.get? b = some o) → Q v { s with heap := h', toks := tk }) :
    wpAny (model prog w) A (call (.builtin "max") [.ref l]) Q E s := by
  refine call_max_walk (iter_intTup hl fun s₂ e st hfp hlI => ?_)
  subst e
  refine ⟨_, _, _, _, _, _, _, rfl, Walks.tuple (A := A.in1) hh _ l hlI (intItems xs), st, hfp, by simpa [intItems] using hne, CmpOf.ints_gt (numAt xs) (fun _ _ => intItems_at), fun v h' tk hP hk => ?_⟩
  exact h v h' tk (by simpa [intItems] using hP) (old_keptT hk)
theorem min_intTup {Q : Value → Shared → Prop} (hh : A.handled = none) (hl : s.heap.IsTuple l (intItems xs)) (hne : 0 < xs.size)
    (h : ∀ v h' tk, (intItems xs)[argBest (fun i j => decide (numAt xs i < numAt xs j)) (xs.size - 1)]? = some v → (∀ b o, s.heap.get? b = some o → h'.get? b = some o) → Q v { s with heap := h', toks := tk }) :
    wpAny (model prog w) A (call (.builtin "min") [.ref l]) Q E s := by
  refine call_min_walk (iter_intTup hl fun s₂ e st hfp hlI => ?_)
  subst e
  refine ⟨_, _, _, _, _, _, _, rfl, Walks.tuple (A := A.in1) hh _ l hlI (intItems xs), st, hfp, by simpa [intItems] using hne, CmpOf.ints_lt (numAt xs) (fun _ _ => intItems_at), fun v h' tk hP hk => ?_⟩
  exact h v h' tk (by simpa [intItems] using hP) (old_keptT hk)
end
theorem meets_enumerate_newT (l : Addr) (items : Array Value) (n : Nat) (dct : Option Addr) (sl : Array (Option Value)) :
    Meets (Builtin.«enumerate.__new__» ⟨[.type "enumerate", .ref l], []⟩) (fun _ R s => s.heap.get? l = some { cls := .type "tuple", dict := dct, data := .seq items n, slots := sl } ∧
      R (.ok (.ret (.ref (s.heap.push { cls := .type "tuple_iterator", data := .fields #[.ref l, .int 0 0] }).objs.size)))
        { s with heap := (s.heap.push { cls := .type "tuple_iterator", data := .fields #[.ref l, .int 0 0] }).push { cls := .type "enumerate", data := .fields #[.none, .bool false, .ref s.heap.objs.size, rawInt 0, .none, .none] } }) :=
  .of_wp fun prog w A R s h => by
    obtain ⟨hp, g, d, tk, os⟩ := s; obtain ⟨hl, h⟩ := h
    have hsub := sub_enumerate
    have hL : Heap.IsTuple (Shared.heap ⟨hp, g, d, tk, os⟩) l items := ⟨_, hl, rfl, n, rfl⟩
    wp_walk using wpAny_loadPart' hl
    refine wpAny_stack_any fun st => wpAny_pure ?_
    split
    · rename_i c _ _ _ _ _
      cases (c == Value.type "enumerate")
      · wp_walk using wpAny_loadPart' hl, wpAny_pyIter_tuple hL
        exact ⟨_, rfl, h⟩
      · wp_walk using wpAny_loadPart' hl, wpAny_pyIter_tuple hL
        exact ⟨_, rfl, h⟩
    · wp_walk using wpAny_loadPart' hl, wpAny_pyIter_tuple hL
      exact ⟨_, rfl, h⟩
section
variable {prog : Program} {w : World} {A : Around} {E : Value → Shared → Prop} {s : Shared}
theorem call_enumerate_tup {l : Addr} {items : Array Value} {Q : Value → Shared → Prop} (hL : s.heap.IsTuple l items)
    (h : ∀ h', IsEnum h' (s.heap.objs.size + 1) s.heap.objs.size 0 .none → h'.IsTupleIter s.heap.objs.size l 0 → h'.objs.size = s.heap.objs.size + 2 →
      (∀ b o, s.heap.get? b = some o → h'.get? b = some o) → Q (.ref (s.heap.objs.size + 1)) { s with heap := h' }) :
    wpAny (model prog w) A (call (.type "enumerate") [.ref l]) Q E s := by
  obtain ⟨⟨c, dct, dt, sl⟩, hl, hc, n, hd⟩ := hL
  replace hc : c = .type "tuple" := hc
  replace hd : dt = .seq items n := hd
  subst hc hd
  refine callType_new F.called_enumerate (by decide) (F.typeCall_enumerate_1 _) (F.newCall_enumerate_1 _) (fun obj => F.args_object_init_2 obj _) F.entry_enumerate_new
    (meets_enumerate_newT l items n dct sl) ⟨hl, ?_⟩
  have hz : (s.heap.push { cls := .type "tuple_iterator", data := .fields #[.ref l, .int 0 0] }).objs.size = s.heap.objs.size + 1 := Heap.size_push ..
  show _ ∧ _
  rw [hz]
  have he : IsEnum ((s.heap.push { cls := .type "tuple_iterator", data := .fields #[.ref l, .int 0 0] }).push
      { cls := .type "enumerate", data := .fields #[.none, .bool false, .ref s.heap.objs.size, rawInt 0, .none, .none] }) (s.heap.objs.size + 1) s.heap.objs.size 0 .none := by
    have := Heap.get?_push_size (s.heap.push { cls := .type "tuple_iterator", data := .fields #[.ref l, .int 0 0] })
      (o := { cls := .type "enumerate", data := .fields #[.none, .bool false, .ref s.heap.objs.size, rawInt 0, .none, .none] }) rfl
    rw [hz] at this; exact this
  refine ⟨⟨_, he, rfl⟩, h _ he ⟨_, Heap.get?_push_of_some _ (Heap.get?_push_size _ rfl), rfl, rfl⟩ (by rw [Heap.size_push, hz]) fun b o x => Heap.get?_push_of_some _ (Heap.get?_push_of_some _ x)⟩
end
end DVR
end PySem
namespace DV
open PySem L2 PySem.Spec PyProof.Rows
section
variable {prog : Program} {w : World} {A : Around} {E : Value → Shared → Prop} {s : Shared} {l : Addr} {its : List Value} {ns : List Int} {Q : Value → Shared → Prop}
theorem max_rawT (hh : A.handled = none) (hl : s.heap.IsTuple l its.toArray) (hi : IntsAre its ns) (hne : 0 < ns.length)
    (h : ∀ h' tk M t', (∀ b o, s.heap.get? b = some o → h'.get? b = some o) → M ∈ ns → (∀ a, a ∈ ns → a ≤ M) → Q (.int M t') { s with heap := h', toks := tk }) : wpAny (model prog w) A (call (.builtin "max") [.ref l]) Q E s := by
  obtain ⟨xs, e⟩ := hi.allInts.items
  have hn : numsOf (intItems xs).toList = ns := by rw [← e]; exact hi.numsOf
  rw [nums_intItems] at hn
  subst hn
  rw [e] at hl
  have hsz : 0 < xs.size := by simpa using hne
  refine PySem.DVR.max_intTup hh hl hsz fun v h' tk hv hk => ?_
  obtain ⟨t, rfl⟩ := intItems_at hv
  obtain ⟨h1, h2⟩ := argBest_gt (numAt xs) (xs.size - 1)
  refine h h' tk _ t hk ?_ fun a ha => ?_
  · rw [numAt_eq]; exact PySem.getD_mem (by rw [List.length_map, Array.length_toList]; omega)
  · obtain ⟨j, hj, rfl⟩ := mem_getD ha
    rw [List.length_map, Array.length_toList] at hj
    rw [← numAt_eq]; exact h2 j (by omega)
theorem min_rawT (hh : A.handled = none) (hl : s.heap.IsTuple l its.toArray) (hi : IntsAre its ns) (hne : 0 < ns.length)
    (h : ∀ h' tk M t', (∀ b o, s.heap.get? b = some o → h'.get? b = some o) → M ∈ ns → (∀ a, a ∈ ns → M ≤ a) → Q (.int M t') { s with heap := h', toks := tk }) : wpAny (model prog w) A (call (.builtin "min") [.ref l]) Q E s := by
  obtain ⟨xs, e⟩ := hi.allInts.items
  have hn : numsOf (intItems xs).toList = ns := by rw [← e]; exact hi.numsOf
  rw [nums_intItems] at hn
  subst hn
  rw [e] at hl
  have hsz : 0 < xs.size := by simpa using hne
  refine PySem.DVR.min_intTup hh hl hsz fun v h' tk hv hk => ?_
  obtain ⟨t, rfl⟩ := intItems_at hv
  obtain ⟨h1, h2⟩ := argBest_lt (numAt xs) (xs.size - 1)
  refine h h' tk _ t hk ?_ fun a ha => ?_
  · rw [numAt_eq]; exact PySem.getD_mem (by rw [List.length_map, Array.length_toList]; omega)
  · obtain ⟨j, hj, rfl⟩ := mem_getD ha
    rw [List.length_map, Array.length_toList] at hj
    rw [← numAt_eq]; exact h2 j (by omega)
end
section
variable {X : Cx}
/-- max(xs), min(xs) of a list or tuple of ints -/
def rMaxS (K : PySem.W.Frag) : List V → Hp → VK → Prop := fun vs H Q => ∃ (a : Addr) (ns : List Int), vs = [V.ref a] ∧ (SqL K H a (ns.map V.int) ∨ SqT K H a (ns.map V.int)) ∧ 0 < ns.length ∧ ∀ m, m ∈ ns → (∀ y, y ∈ ns → y ≤ m) → Q (.int m) H
def rMinS (K : PySem.W.Frag) : List V → Hp → VK → Prop := fun vs H Q => ∃ (a : Addr) (ns : List Int), vs = [V.ref a] ∧ (SqL K H a (ns.map V.int) ∨ SqT K H a (ns.map V.int)) ∧ 0 < ns.length ∧ ∀ m, m ∈ ns → (∀ y, y ∈ ns → m ≤ y) → Q (.int m) H
theorem cr_maxS (hc : X.calm = true) : CallR X (.builtin "max") (rMaxS X.K) := by
  intro pins s σ H vs us Q I r h
  obtain ⟨a, ns, rfl, hs, hne, q⟩ := h
  rcases hs with hs | hs
  · exact cr_max hc pins s σ H _ us Q I r ⟨a, ns, rfl, hs, hne, q⟩
  · obtain ⟨its, rv, hl, _⟩ := I.tuple hs
    rw [Vals.ref1 r]
    exact max_rawT (I.ok.hd hc) (show s.heap.IsTuple a its.toArray from hl) rv.ints hne fun h' tk m t' hk h1 h2 => ⟨.int _, H, I.kept hk, ⟨_, rfl⟩, q m h1 h2⟩
theorem cr_minS (hc : X.calm = true) : CallR X (.builtin "min") (rMinS X.K) := by
  intro pins s σ H vs us Q I r h
  obtain ⟨a, ns, rfl, hs, hne, q⟩ := h
  rcases hs with hs | hs
  · exact cr_min hc pins s σ H _ us Q I r ⟨a, ns, rfl, hs, hne, q⟩
  · obtain ⟨its, rv, hl, _⟩ := I.tuple hs
    rw [Vals.ref1 r]
    exact min_rawT (I.ok.hd hc) (show s.heap.IsTuple a its.toArray from hl) rv.ints hne fun h' tk m t' hk h1 h2 => ⟨.int _, H, I.kept hk, ⟨_, rfl⟩, q m h1 h2⟩
theorem minI_spec : ∀ {ns : List Int}, 0 < ns.length → minI ns ∈ ns ∧ ∀ y ∈ ns, minI ns ≤ y
  | [x], _ => ⟨by simp [minI], fun y hy => by simp at hy; subst hy; exact Int.le_refl _⟩
  | x :: y :: r, _ => by
    have ih := minI_spec (ns := y :: r) (by simp)
    unfold minI
    dsimp only
    split
    · rename_i h
      refine ⟨List.mem_cons_self, fun z hz => ?_⟩
      rcases List.mem_cons.mp hz with e | hz
      · rw [e]; exact Int.le_refl _
      · exact Int.le_trans h (ih.2 z hz)
    · rename_i h
      refine ⟨List.mem_cons_of_mem _ ih.1, fun z hz => ?_⟩
      rcases List.mem_cons.mp hz with e | hz
      · rw [e]; omega
      · exact ih.2 z hz
theorem maxI_spec : ∀ {ns : List Int}, 0 < ns.length → maxI ns ∈ ns ∧ ∀ y ∈ ns, y ≤ maxI ns
  | [x], _ => ⟨by simp [maxI], fun y hy => by simp at hy; subst hy; exact Int.le_refl _⟩
  | x :: y :: r, _ => by
    have ih := maxI_spec (ns := y :: r) (by simp)
    unfold maxI
    dsimp only
    split
    · rename_i h
      refine ⟨List.mem_cons_self, fun z hz => ?_⟩
      rcases List.mem_cons.mp hz with e | hz
      · rw [e]; exact Int.le_refl _
      · exact Int.le_trans (ih.2 z hz) h
    · rename_i h
      refine ⟨List.mem_cons_of_mem _ ih.1, fun z hz => ?_⟩
      rcases List.mem_cons.mp hz with e | hz
      · rw [e]; omega
      · exact ih.2 z hz
theorem minI_one {ns : List Int} {m : Int} (h1 : m ∈ ns) (h2 : ∀ y ∈ ns, m ≤ y) : m = minI ns := by
  have h := minI_spec (List.length_pos_of_mem h1)
  have := h.2 m h1
  have := h2 _ h.1
  omega
theorem maxI_one {ns : List Int} {m : Int} (h1 : m ∈ ns) (h2 : ∀ y ∈ ns, y ≤ m) : m = maxI ns := by
  have h := maxI_spec (List.length_pos_of_mem h1)
  have := h.2 m h1
  have := h2 _ h.1
  omega

/-! ### len(set(xs)) -/
theorem firstMet_len (ns : List Int) : PyProof.Rows.firstMet (fun i => ns.getD i 0) ns.length = dedI ns := by
  have h0 : (List.range ns.length).map (fun i => ns.getD i 0) = ns := by
    apply List.ext_getElem
    · simp
    · intro i h1 h2
      simp at h1 ⊢
      simp [List.getD_eq_getElem?_getD, h1]
  unfold PyProof.Rows.firstMet
  rw [h0]
  rfl
def rLenSet (K : PySem.W.Frag) (x : V) (H : Hp) (Q : VK) : Prop := ∃ (l : Addr) (ns : List Int), x = .ref l ∧ SqL K H l (ns.map V.int) ∧ ns.length ≤ 4000 ∧ Q (.int (dedI ns).length) H
theorem pe_lenSet {a : Expr} {ta : TE} {p p2 q pos : Pos} (hg : Gl X "len") (hm : X.mg "len" = none) (hg2 : Gl X "set") (hm2 : X.mg "set" = none) (ha : PE X a ta) (hc : X.calm = true)
    (na : starEach [a] X.env = (false, eval a X.env) :: starEach [] X.env) : PE X (.Call (.Name "len" p) [.Call (.Name "set" p2) [a] [] q] [] pos) (fun σ H Q => ta σ H fun x H1 => rLenSet X.K x H1 Q) := by
  refine ⟨fun pins s σ H Q I h => ?_⟩
  refine Call_ (ld_blt I hg hm boot_len ?_)
  refine PyProof.Rows.callWith_builtin1 (PyProof.Rows.args_cons ?_ rfl) rfl rfl
  refine Call_ (ld_blt I hg2 hm2 boot_set ?_)
  refine PyProof.Rows.callWith_type1 (PyProof.Rows.args_cons (thn (ha.run pins s σ H _ I h) fun v s1 ⟨x, H1, I1, r1, q1⟩ => PyProof.Rows.args_nil ?_) na) na rfl
  obtain ⟨l, ns, rfl, hq, hl, q1⟩ := q1
  cases r1
  obtain ⟨its, r, pl, hz⟩ := I1.list hq
  have hlen : its.toArray.size = ns.length := by rw [List.size_toArray, ← r.length, List.length_map]
  refine call_set_list (I1.ok.hd hc) pl.isList (by simpa using intsAre_of r) (by rw [hlen]; unfold scanBound; omega) fun h' tk hS hk => ?_
  refine PyProof.Rows.args_nil ?_
  have hle := PyProof.Rows.firstMet_length_le (fun i => ns.getD i 0) ns.length
  rw [hlen, firstMet_len] at hS
  rw [firstMet_len] at hle
  obtain ⟨o, es, ep, t, ho, hex, hd, _, _, _, hf, hn⟩ := hS
  have I2 : Inv X pins σ H1 { s1 with heap := h', toks := tk } := I1.kept fun b o e => hk b o (Heap.lt_size e) e
  exact call_len_set ho hex hd hf (by rw [hn] <;> omega) ⟨.int (dedI ns).length, H1, I2.tok _, ⟨_, by rw [hn]⟩, q1⟩
/-! ### enumerate of a tuple -/
def IteT (K : PySem.W.Frag) (a : Addr) : It :=
  ⟨fun i H => ∃ xs x, SqT K H a xs ∧ xs[i]? = some x,
    fun i H v H' => ∃ T x, v = .ref T ∧ H T = none ∧ H' = upd H T (.tup [.int (i : Nat), x]) ∧ ∀ xs, SqT K H a xs → xs[i]? = some x,
    fun i H => ∃ xs, SqT K H a xs ∧ xs.length ≤ i⟩
theorem turn_enumT {P : Program} {w : World} {K : PySem.W.Frag} {elts : List Expr} {kk : Nat} {tpos : Pos} (a e it : Addr) :
    Turn P w K (.Tuple elts kk tpos) (IteT K a) [e, it] e (fun i h => (∃ old, IsEnum h e it ((i : Nat) : Int) old) ∧ h.IsTupleIter it a i ∧ e ≠ it ∧ a ≠ e ∧ a ≠ it) where
  mem := by simp
  obj := fun i h st b hb => by
    obtain ⟨⟨old, he⟩, ⟨o, ho, hc, hd⟩, _⟩ := st
    have e' : b = e ∨ b = it := by simpa using hb
    rcases e' with z | z
    · rw [z]; exact ⟨_, he, fun v q => nomatch q⟩
    · rw [z]; exact ⟨o, ho, fun v q => by rw [hd] at q; cases q⟩
  keep := fun i h h' st k => let ⟨⟨old, he⟩, hi, hne⟩ := st; ⟨⟨old, k e (by simp) _ he⟩, hi.at fun o q => k it (by simp) o q, hne⟩
  item := by
    intro X hP hw hK hc i pins s σ H E I hf st hg
    subst hP hw hK
    obtain ⟨⟨old, he⟩, hit, hne, hae, hai⟩ := st
    obtain ⟨xs, x, hq, hx⟩ := hg
    obtain ⟨its, rv, p, hz⟩ := I.tuple hq
    obtain ⟨u, hu, ru⟩ := rv.get hx
    have hel : e < s.heap.objs.size := Heap.lt_size he
    have hil : it < s.heap.objs.size := by obtain ⟨_, q, _⟩ := hit; exact Heap.lt_size q
    have p' : s.heap.IsTuple a its.toArray := p
    have hlt : i < its.toArray.size := by
      have h1 := rv.length
      have h2 := (List.getElem?_eq_some_iff.mp hx).1
      rw [List.size_toArray]; omega
    refine wpAny_pyNext_enum_itemD (PySem.Draws.tuple (A := X.A.in1) (I.ok.hd hc) it a hai its.toArray) he ⟨hit, p'⟩ hlt hne (by simp only [List.mem_cons, List.not_mem_nil, or_false, not_or]; exact ⟨hne, fun z => hae z.symm⟩) fun x' h' tk hP ho st' hT hsz hk => ?_
    obtain ⟨hit', _⟩ := st'
    have ex : x' = u := by
      have z : its.toArray[i]? = some u := by simpa using hu
      rw [z] at hP
      exact (Option.some.inj hP).symm
    subst ex
    refine ⟨_, rfl, wpAny_letOwnedTupleGo_enum (s := { s with heap := h', toks := tk + 1 }) ho fun h'' he' sb => ?_⟩
    have hT2 : h''.get? s.heap.objs.size = some { cls := .type "tuple", data := .seq #[.int i tk, x'] } := (sb.2 _ (Nat.ne_of_gt hel)).trans hT
    have new : ObjOk X.prog X.w (upd H s.heap.objs.size (.tup [.int (i : Nat), x])) h'' s.heap.objs.size (.tup [.int (i : Nat), x]) :=
      ⟨by show 2 ≤ sizeLine; decide, [.int i tk, x'], .cons ⟨_, rfl⟩ (.cons ru .nil), ⟨_, hT2, rfl, _, rfl⟩⟩
    have I1 : Inv X pins σ (upd H s.heap.objs.size (.tup [.int (i : Nat), x])) { s with heap := h'', toks := tk + 1 } :=
      I.turnedNew (ch := [e, it]) (fun b ob hb q => (sb.2 b (fun z => hb (by simp [z]))).trans (hk b ob (fun z => hb (by simp [z])) (fun z => hb (by simp [z])) q)) hf (Nat.le_refl _) new
    refine ⟨.ref s.heap.objs.size, _, I1, rfl, ⟨_, x, rfl, I.hok.fresh (Nat.le_refl _), rfl, fun ys hy => by rw [I.tuple_inj hy hq]; exact hx⟩, ⟨⟨x', ?_⟩, hit'.at fun o q => (sb.2 it (Ne.symm hne)).trans q, hne, hae, hai⟩, fun b hb => ?_⟩
    · have e1 : ((i + 1 : Nat) : Int) = (i : Int) + 1 := by omega
      rw [e1]; exact he'
    · have hb' : b < s.heap.objs.size := by
        have e' : b = e ∨ b = it := by simpa using hb
        rcases e' with z | z
        · rw [z]; exact hel
        · rw [z]; exact hil
      rw [upd_ne (Nat.ne_of_lt hb')]
      exact (hf b hb).1
  done := by
    intro X hP hw hK hc i pins s σ H E I hf st hg
    subst hP hw hK
    obtain ⟨⟨old, he⟩, hit, hne, hae, hai⟩ := st
    obtain ⟨xs, hq, hx⟩ := hg
    obtain ⟨its, rv, p, hz⟩ := I.tuple hq
    obtain ⟨f0, f1, f2, f3, f4, f5⟩ := hf it (by simp)
    have p' : s.heap.IsTuple a its.toArray := p
    have hl := rv.length
    have D0 := PySem.Draws.tuple (prog := X.prog) (w := X.w) (A := X.A.in1) (I.ok.hd hc) it a hai its.toArray
    have hT : s.TypeIs (.ref e) "enumerate" := ⟨_, he, rfl⟩
    unfold pyNext
    refine wpAny_bind (wpAny_attempt (wpAny_callSpecial?_slot (name := Str.ofString "__next__") hT PySem.F.slot_enumerate_next
      (wpAny_call_entry PySem.F.slot_enumerate_next hT PySem.F.entry_enumerate_next ?_ (PySem.F.args_enumerate_next_1 _))))
    show wpAny _ _ (field (.ref e) 2 >>= _) _ _ _
    refine wpAny_bind (wpAny_field he rfl (x := .ref it) rfl ?_)
    refine wpAny_bind (PySem.wpAny_nextOf_tuple_end (I.ok.hd hc) hit p' (by simp; omega) fun h' x he' hx' => ?_)
    obtain ⟨o, ho, hcx⟩ := hx'
    refine wpAny_bind (wpAny_isInstance (T := "StopIteration") (b := true) ⟨o, ho, hcx⟩ isSubtype_stop ?_)
    exact wpAny_pure ⟨rfl, I.turned (t' := s.toks) (fun b o hb q => he' b o hb q) f0 f1 f3 f4 f5⟩
  self := fun A i s Q E st h => let ⟨⟨_, he⟩, _⟩ := st; wpAny_pyIter_enum he h
def iEnumT (K : PySem.W.Frag) (ta : TA) : TI := fun σ H R => ta σ H fun vs H1 => ∃ a xs, vs = [.ref a] ∧ SqT K H1 a xs ∧ R (IteT K a) H1
theorem pi_enumT {e : Expr} {ta : TA} {p pos tpos : Pos} {elts : List Expr} {kk : Nat} (hg : Gl X "enumerate") (hm : X.mg "enumerate" = none) (ha : PA X [e] ta) (hs : starEach [e] X.env = [(false, eval e X.env)]) :
    PI X (.Tuple elts kk tpos) (.Call (.Name "enumerate" p) [e] [] pos) (iEnumT X.K ta) := by
  refine ⟨fun pins s σ H R I h => ?_⟩
  refine Call_ (ld_blt I hg hm boot_enumerate (PyProof.Rows.callWith_type1 (thn (ha.run pos pins s σ H _ I h) fun us s1 ⟨vs, H1, I1, r1, q1⟩ => ?_) hs rfl))
  obtain ⟨a, xs, ex, hq, q⟩ := q1
  subst ex
  cases r1 with
  | cons r rr =>
    cases rr
    cases r
    obtain ⟨its, rv, p', hz⟩ := I1.tuple hq
    have hlt : a < s1.heap.objs.size := p'.lt
    refine PySem.DVR.call_enumerate_tup (show s1.heap.IsTuple a its.toArray from p') fun h' he hit hsz hk => wpAny_pyIter_enum he ?_
    have I2 : Inv X pins σ H1 { s1 with heap := h' } := I1.kept (t' := s1.toks) hk
    refine ⟨s1.heap.objs.size + 1, [s1.heap.objs.size + 1, s1.heap.objs.size], _, _, H1, rfl, I2, turn_enumT a (s1.heap.objs.size + 1) s1.heap.objs.size, ⟨⟨.none, he⟩, hit, Nat.succ_ne_self _, Nat.ne_of_lt (Nat.lt_succ_of_lt hlt), Nat.ne_of_lt hlt⟩, fun b hb => ?_, q⟩
    have e' : b = s1.heap.objs.size + 1 ∨ b = s1.heap.objs.size := by simpa using hb
    have hle : s1.heap.objs.size ≤ b := by
      rcases e' with z | z
      · rw [z]; exact Nat.le_add_right _ _
      · rw [z]; exact Nat.le_refl _
    exact I1.fpOk hle (I1.hok.fresh hle)
end
end DV

set_option Elab.async false
set_option linter.all false
set_option maxRecDepth 100000
set_option maxHeartbeats 1000000
/-! DV6: what data say to the rules, further. -/
namespace DV
open PySem L2 PySem.Spec PyProof.Rows

/-! ### dicts -/
theorem eqv_key (a b : Key) : PyData.eqv (keyD a) (keyD b) = decide (a = b) := by
  cases a with
  | inl i =>
    cases b with
    | inl j =>
      show (i == j) = decide ((Sum.inl i : Key) = Sum.inl j)
      rw [key_ll]
    | inr y =>
      show false = decide ((Sum.inl i : Key) = Sum.inr y)
      rw [key_lr]
  | inr x =>
    cases b with
    | inl j =>
      show false = decide ((Sum.inr x : Key) = Sum.inl j)
      rw [key_rl]
    | inr y =>
      show (x == y) = decide ((Sum.inr x : Key) = Sum.inr y)
      rw [key_rr]
      rfl
section
variable {K : PySem.W.Frag} {c : Fp} {H : Hp}
theorem RepKs.any (k : Key) : ∀ {kvs : List (D × D)} {ks : List (Key × V)}, RepKs K c H kvs ks → (kvs.any fun p => PyData.eqv p.1 (keyD k)) = (valV ks k).isSome
  | [], _, h => by
    have e := h
    cases e
    rfl
  | (kd, d) :: r, _, ⟨key, v, q, e, ⟨ek, _⟩, h2⟩ => by
    subst e ek
    rw [List.any_cons, eqv_key]
    by_cases z : key = k
    · rw [valV_pos (p := (key, v)) z, decide_eq_true z]; rfl
    · rw [valV_neg (p := (key, v)) z, decide_eq_false z, Bool.false_or]; exact RepKs.any k h2
theorem RepKs.look (k : Key) : ∀ {kvs : List (D × D)} {ks : List (Key × V)} {d : D}, RepKs K c H kvs ks → look (keyD k) kvs = some d → ∃ v, valV ks k = some v ∧ Rep K c H d v
  | [], _, _, _, h => nomatch h
  | (kd, d0) :: r, _, d, ⟨key, v, q, e, ⟨ek, h1⟩, h2⟩, h => by
    subst e ek
    unfold DV.look at h
    rw [eqv_key] at h
    by_cases z : key = k
    · rw [decide_eq_true z, if_pos rfl] at h
      cases h
      exact ⟨v, valV_pos (p := (key, v)) z, h1⟩
    · rw [decide_eq_false z, if_neg Bool.false_ne_true] at h
      rw [valV_neg (p := (key, v)) z]
      exact RepKs.look k h2 h
theorem RepKs.anyK (k : Key) : ∀ {kvs : List (D × D)} {ks : List (Key × V)}, RepKs K c H kvs ks → (kvs.any fun p => PyData.eqv p.1 (keyD k)) = (ks.any fun kv => decide (kv.1 = k))
  | [], _, h => by
    have e := h
    cases e
    rfl
  | (kd, d) :: r, _, ⟨key, v, q, e, ⟨ek, _⟩, h2⟩ => by
    subst e ek
    rw [List.any_cons, List.any_cons, eqv_key, RepKs.anyK k h2]
theorem RepKs.mapK (k : Key) {d : D} {w : V} (hd : Rep K c H d w) : ∀ {kvs : List (D × D)} {ks : List (Key × V)}, RepKs K c H kvs ks → RepKs K c H (kvs.map fun p => if PyData.eqv p.1 (keyD k) = true then (p.1, d) else p) (ks.map fun kv => if kv.1 = k then (kv.1, w) else kv)
  | [], _, h => by
    have e := h
    cases e
    rfl
  | (kd, d0) :: r, _, ⟨key, v, q, e, ⟨ek, h1⟩, h2⟩ => by
    subst e ek
    rw [List.map_cons, List.map_cons, eqv_key]
    by_cases z : key = k
    · rw [decide_eq_true z, if_pos rfl, if_pos z]
      exact ⟨key, w, _, rfl, ⟨rfl, hd⟩, RepKs.mapK k hd h2⟩
    · rw [decide_eq_false z, if_neg Bool.false_ne_true, if_neg z]
      exact ⟨key, v, _, rfl, ⟨rfl, h1⟩, RepKs.mapK k hd h2⟩
theorem RepKs.snocK (k : Key) {d : D} {w : V} (hd : Rep K c H d w) : ∀ {kvs : List (D × D)} {ks : List (Key × V)}, RepKs K c H kvs ks → RepKs K c H (kvs ++ [(keyD k, d)]) (ks ++ [(k, w)])
  | [], _, h => by
    have e := h
    cases e
    exact ⟨k, w, [], rfl, ⟨rfl, hd⟩, rfl⟩
  | (kd, d0) :: r, _, ⟨key, v, q, e, h1, h2⟩ => by
    subst e
    exact ⟨key, v, _, rfl, h1, RepKs.snocK k hd h2⟩
theorem RepKs.put (k : Key) {d : D} {w : V} (hd : Rep K c H d w) {kvs : List (D × D)} {ks : List (Key × V)} (h : RepKs K c H kvs ks) : RepKs K c H (put (keyD k) d kvs) (putK ks k w) := by
  unfold DV.put putK
  rw [RepKs.anyK k h]
  split
  · exact RepKs.mapK k hd h
  · exact RepKs.snocK k hd h
theorem RepM.dict {m : Md} {kvs : List (D × D)} {v : V} {f : Fp} (r : RepM K c H m (.dict kvs) v f) : ∃ a ks, v = .ref a ∧ H a = some (.dK ks) ∧ RepKs K c H kvs ks := by
  cases m with
  | fz => obtain ⟨⟨a, ks, e, h, _, r⟩, _⟩ := r; exact ⟨a, ks, e, h, r⟩
  | o1 => obtain ⟨p, ⟨e, vs, h, r⟩, _⟩ := r; exact ⟨p, vs, e, h, r⟩
  | b1 => obtain ⟨p, ⟨e, vs, h, r⟩, _⟩ := r; exact ⟨p, vs, e, h, r⟩
  | o2 => obtain ⟨xs, p, vs, g, e1, _⟩ := r; cases e1
  | b2 => obtain ⟨xs, p, vs, g, e1, _⟩ := r; cases e1
theorem RepM.seq {m : Md} {xs : List D} {v : V} {f : Fp} (r : RepM K c H m (.list xs) v f) : ∃ a vs, v = .ref a ∧ SqL K H a vs ∧ xs.length = vs.length := by
  obtain ⟨a, vs, e, h, r⟩ := (show ∃ a vs, v = .ref a ∧ FzL K 0 H a vs ∧ Reps K 0 H xs vs from r.b)
  exact ⟨a, vs, e, h.sq, r.len⟩
theorem RepM.seqT {m : Md} {xs : List D} {v : V} {f : Fp} (r : RepM K c H m (.tuple xs) v f) : ∃ a vs, v = .ref a ∧ SqT K H a vs ∧ xs.length = vs.length := by
  obtain ⟨a, vs, e, h, r⟩ := (show ∃ a vs, v = .ref a ∧ FzT K 0 H a vs ∧ Reps K 0 H xs vs from r.b)
  exact ⟨a, vs, e, h.sq, r.len⟩
theorem tup_lay {ys : List D} (h : SeqAt.shaped (.list ys) = true) : (PyData.tuple ys).canLay0 = true := by
  have := SeqAt.canLay_of_shaped h
  simpa [PyData.canLay0] using this

theorem cmp_ok {op : CmpOp} {x y : MD} {v w : V} {f1 f2 : Fp} {r : Bool} {Q : VK} (e : cmpD op x.2 y.2 = some r) (r1 : RepM K c H x.1 x.2 v f1) (r2 : RepM K c H y.1 y.2 w f2) (hq : Q (.bl r) H) : rCmp K op v w H Q := by
  obtain ⟨m1, d1⟩ := x
  obtain ⟨m2, d2⟩ := y
  dsimp only at e r1 r2
  have refN : ∀ a : Addr, decide (V.ref a = V.non) = false := fun a => decide_eq_false fun z => nomatch z
  unfold cmpD at e
  split at e
  · unfold eqD at e
    split at e
    · rename_i hs
      rw [Bool.and_eq_true] at hs
      cases e
      exact ⟨_, _, r1.dp hs.1, r2.dp hs.2, hs.1, hs.2, hq⟩
    · cases e
  · unfold eqD at e
    split at e
    · rename_i hs
      rw [Bool.and_eq_true] at hs
      cases e
      exact ⟨_, _, r1.dp hs.1, r2.dp hs.2, hs.1, hs.2, hq⟩
    · cases e
  · cases e; exact ⟨_, _, r1.int, r2.int, hq⟩
  · cases e; exact ⟨_, _, r1.int, r2.int, hq⟩
  · cases e; exact ⟨_, _, r1.int, r2.int, hq⟩
  · cases e; exact ⟨_, _, r1.int, r2.int, hq⟩
  · split at e
    · rename_i hs
      rw [Bool.and_eq_true] at hs
      cases e
      exact .inl ⟨_, _, r1.dp hs.1, r2.dp hs.2, hs.1, hs.2, hq⟩
    · cases e
  · split at e
    · rename_i hs
      rw [Bool.and_eq_true] at hs
      cases e
      exact .inl ⟨_, _, r1.dp hs.1, r2.dp hs.2, hs.1, hs.2, hq⟩
    · cases e
  · split at e
    · rename_i hs
      rw [Bool.and_eq_true] at hs
      cases e
      exact .inr (.inl ⟨_, _, r1.dp hs.1, Rep.dp _ _ (tup_lay hs.2) r2.b, hs.1, hs.2, hq⟩)
    · cases e
  · split at e
    · rename_i hs
      rw [Bool.and_eq_true] at hs
      cases e
      exact .inr (.inl ⟨_, _, r1.dp hs.1, Rep.dp _ _ (tup_lay hs.2) r2.b, hs.1, hs.2, hq⟩)
    · cases e
  · rename_i k kvs
    cases e
    obtain ⟨a, ks, ea, h, rr⟩ := r2.dict
    refine .inr (.inr ⟨a, valV ks (.inr k), ea, by rw [r1.str]; exact DGet.k (k := Sum.inr k) h, ?_⟩)
    rw [← rr.any (.inr k)]; exact hq
  · rename_i k kvs
    cases e
    obtain ⟨a, ks, ea, h, rr⟩ := r2.dict
    refine .inr (.inr ⟨a, valV ks (.inl k), ea, by rw [r1.int]; exact DGet.k (k := Sum.inl k) h, ?_⟩)
    rw [← rr.any (.inl k)]; exact hq
  · rename_i k kvs
    cases e
    obtain ⟨a, ks, ea, h, rr⟩ := r2.dict
    refine .inr (.inr ⟨a, valV ks (.inr k), ea, by rw [r1.str]; exact DGet.k (k := Sum.inr k) h, ?_⟩)
    rw [← rr.any (.inr k)]; exact hq
  · rename_i k kvs
    cases e
    obtain ⟨a, ks, ea, h, rr⟩ := r2.dict
    refine .inr (.inr ⟨a, valV ks (.inl k), ea, by rw [r1.int]; exact DGet.k (k := Sum.inl k) h, ?_⟩)
    rw [← rr.any (.inl k)]; exact hq
  · cases e; rw [r1.non]; exact .inl ⟨r2.non, hq⟩
  · cases e; exact .inr ⟨_, _, r1.bl, r2.bl, hq⟩
  · cases e; rw [r1.int]; exact .inl ⟨r2.non, hq⟩
  · cases e; rw [r1.bl]; exact .inl ⟨r2.non, hq⟩
  · cases e; rw [r1.str]; exact .inl ⟨r2.non, hq⟩
  · cases e; obtain ⟨a, _, ea, _⟩ := r1.seqT; rw [ea]; exact .inl ⟨r2.non, hq⟩
  · cases e; obtain ⟨a, _, ea, _⟩ := r1.seq; rw [ea]; exact .inl ⟨r2.non, hq⟩
  · cases e; rw [r1.non]; exact .inl ⟨r2.non, hq⟩
  · cases e; exact .inr ⟨_, _, r1.bl, r2.bl, hq⟩
  · cases e; rw [r1.int]; exact .inl ⟨r2.non, hq⟩
  · cases e; rw [r1.bl]; exact .inl ⟨r2.non, hq⟩
  · cases e; rw [r1.str]; exact .inl ⟨r2.non, hq⟩
  · cases e; obtain ⟨a, _, ea, _⟩ := r1.seqT; rw [ea]; exact .inl ⟨r2.non, hq⟩
  · cases e; obtain ⟨a, _, ea, _⟩ := r1.seq; rw [ea]; exact .inl ⟨r2.non, hq⟩
  · cases e
end

/-! ### subscripts -/
theorem ixI_eq (n : Nat) (i : Int) : ixI n i = ixN n i := rfl
theorem atD_at {K : PySem.W.Frag} {c : Fp} {H : Hp} {xs : List D} {vs : List V} {i : Int} {d : D} (r : Reps K c H xs vs) (e : atD xs i = some d) : ∃ v, atI vs i = some v ∧ Rep K c H d v := by
  unfold atD at e
  obtain ⟨j, h1, h2⟩ := Option.bind_eq_some_iff.mp e
  obtain ⟨v, h3, h4⟩ := r.get h2
  refine ⟨v, ?_, h4⟩
  unfold atI
  rw [← r.len, ← ixI_eq, h1]
  exact h3
section
variable {X : Cx}
def rIxK (K : PySem.W.Frag) : R2 := fun x y H Q => ∃ a v, x = .ref a ∧ DGet H a y (some v) ∧ Q v H
theorem ix_dict (hu : X.A.units + 1 < cLine) : IxR X (rIxK X.K) := by
  intro value slice pins s σ H x y v u Q I rx ry h hs
  obtain ⟨a, z, rfl, g, q⟩ := h
  obtain rfl : v = Value.ref a := rx
  exact tail_any (dict_typeIs I g) PySem.F.slot_dict_getitem.lookup (d_getItem hu I g ry fun w' s3 I3 rw' => ⟨z, H, I3, rw', q⟩) hs
def rIxA (K : PySem.W.Frag) : R2 := fun x y H Q => rIxL K x y H Q ∨ rIxT K x y H Q ∨ rIxK K x y H Q
theorem ix_any (hu : X.A.units + 1 < cLine) : IxR X (rIxA X.K) := ix_list.or (ix_tup.or (ix_dict hu))
end
section
variable {K : PySem.W.Frag} {mg : Str → Option Value} {W : WX} {q : Bool} {fr f0 : Fp} {fps : List Fp} {σ : L2.St} {H H' : Hp} {s : En} {Q : VK} {c : Fp}
/-- the end with a value that is borrowed (or frozen) as it stands -/
theorem EndG.bw {m : Md} {d : D} {u : V} (rel : Rel K (fr + f0) fps σ H s) (h : EndG (rM K) K mg W q fr fps f0 σ H (.ok (m, d) s) Q) (r : RepM K (cn fr fps) H m d u 0) : Q u H := by
  refine h u H fps 0 ⟨fun a => ?_, fun a z => ?_, fun a z => ?_, fun a o e _ => e⟩ (rel.sl.less fun a z => ?_) ?_
  · have := rel.le a; rw [Fp.add_at] at this; show fr a + 0 + _ ≤ 1; omega
  · have z' : 0 < fr a + 0 + tot fps a := z
    exact rel.lv a (by rw [Fp.add_at]; omega)
  · have z' : 0 < 0 + tot fps a := z
    left; omega
  · rw [cn_zero] at z ⊢; rw [Fp.add_at] at z; rw [Fp.add_zero]; omega
  · rw [Fp.add_zero]; exact r
theorem less_ofM {m : Md} {d : D} {v : V} {f : Fp} (r : RepM K (cn (fr + f0) fps) H m d v f) : RepM K (cn fr fps) H m d v f :=
  r.mono ⟨fun _ _ e _ => e, fun a _ _ z => by rw [cn_zero] at z ⊢; rw [Fp.add_at] at z; omega⟩ fun _ _ e _ => e
theorem ix_ok {x y : MD} {v w : V} {f1 f2 : Fp} (rel : Rel K (fr + f0) fps σ H s) (h : EndG (rM K) K mg W q fr fps f0 σ H (ofO (ixR x y) s) Q)
    (r1 : RepM K (cn (fr + f0) fps) H x.1 x.2 v f1) (r2 : RepM K (cn (fr + f0) fps) H y.1 y.2 w f2) : rIxA K v w H Q := by
  obtain ⟨m1, d1⟩ := x
  obtain ⟨m2, d2⟩ := y
  dsimp only at h r1 r2
  cases e : ixR (m1, d1) (m2, d2) with
  | none => rw [e] at h; exact h.elim
  | some md =>
    rw [e] at h
    have h' : EndG (rM K) K mg W q fr fps f0 σ H (.ok md s) Q := h
    unfold ixR at e
    dsimp only at e
    split at e
    · rename_i xs k
      obtain ⟨d, hd, e⟩ := Option.bind_eq_some_iff.mp e
      rw [r2.int]
      cases m1 with
      | b2 =>
        obtain ⟨xs', p, vs, g, e1, e2, hp, re, _⟩ := less_ofM r1
        cases e1
        have e' : some (if imm d = true then Md.fz else Md.b1, d) = some md := e
        cases e'
        obtain ⟨j, h1, h2⟩ := Option.bind_eq_some_iff.mp hd
        obtain ⟨u, g', e3, re', _⟩ := re.get h2
        refine .inl ⟨p, vs, k, u, e2, rfl, .of hp, ?_, ?_⟩
        · unfold atI
          rw [← re.len, ← ixI_eq, h1]
          exact e3
        · rcases re' with ⟨i, rr, _⟩ | ⟨i, p', rr, _⟩
          · rw [if_pos i] at h'
            exact EndG.fz rel h' Grw.refl rr
          · rw [i, if_neg Bool.false_ne_true] at h'
            exact EndG.bw rel h' ⟨p', rr, rfl⟩
      | o2 =>
        obtain ⟨xs', p, vs, g, e1, e2, hp, re, _⟩ := less_ofM r1
        cases e1
        obtain ⟨j, h1, h2⟩ := Option.bind_eq_some_iff.mp hd
        obtain ⟨u, g', e3, re', _⟩ := re.get h2
        by_cases i : imm d = true
        · have e' : (if imm d = true then some (Md.fz, d) else none) = some md := e
          rw [if_pos i] at e'
          cases e'
          refine .inl ⟨p, vs, k, u, e2, rfl, .of hp, ?_, ?_⟩
          · unfold atI
            rw [← re.len, ← ixI_eq, h1]
            exact e3
          · rcases re' with ⟨i, rr, _⟩ | ⟨i', p', rr, _⟩
            · exact EndG.fz rel h' Grw.refl rr
            · rw [i] at i'; cases i'
        · have e' : (if imm d = true then some (Md.fz, d) else none) = some md := e
          rw [if_neg i] at e'; cases e'
      | fz =>
        cases e
        obtain ⟨a, vs, e1, hs, rr⟩ := r1.items rfl
        obtain ⟨u, hu, ru⟩ := atD_at rr hd
        exact .inl ⟨a, vs, k, u, e1, rfl, hs, hu, EndG.fz0 rel h' Grw.refl ru⟩
      | o1 =>
        cases e
        obtain ⟨a, vs, e1, hs, rr⟩ := r1.items rfl
        obtain ⟨u, hu, ru⟩ := atD_at rr hd
        exact .inl ⟨a, vs, k, u, e1, rfl, hs, hu, EndG.fz0 rel h' Grw.refl ru⟩
      | b1 =>
        cases e
        obtain ⟨a, vs, e1, hs, rr⟩ := r1.items rfl
        obtain ⟨u, hu, ru⟩ := atD_at rr hd
        exact .inl ⟨a, vs, k, u, e1, rfl, hs, hu, EndG.fz0 rel h' Grw.refl ru⟩
    · rename_i xs k
      obtain ⟨d, hd, e⟩ := Option.map_eq_some_iff.mp e
      subst e
      obtain ⟨a, vs, e1, hs, rr⟩ := r1.itemsT
      obtain ⟨u, hu, ru⟩ := atD_at rr hd
      exact .inr (.inl ⟨a, vs, k, u, e1, r2.int, hs, hu, EndG.fz0 rel h' Grw.refl ru⟩)
    · rename_i kvs k
      obtain ⟨d, hd, e⟩ := Option.map_eq_some_iff.mp e
      subst e
      obtain ⟨a, ks, e1, hs, rr⟩ := r1.dict
      obtain ⟨u, hu, ru⟩ := rr.look (.inr k) hd
      refine .inr (.inr ⟨a, u, e1, ?_, EndG.fz0 rel h' Grw.refl ru⟩)
      rw [r2.str, ← hu]
      exact DGet.k (k := Sum.inr k) hs
    · rename_i kvs k
      obtain ⟨d, hd, e⟩ := Option.map_eq_some_iff.mp e
      subst e
      obtain ⟨a, ks, e1, hs, rr⟩ := r1.dict
      obtain ⟨u, hu, ru⟩ := rr.look (.inl k) hd
      refine .inr (.inr ⟨a, u, e1, ?_, EndG.fz0 rel h' Grw.refl ru⟩)
      rw [r2.int, ← hu]
      exact DGet.k (k := Sum.inl k) hs
    · cases e

/-! ### isinstance -/
def tyS : Ty → String
  | .int => "int" | .bool => "bool" | .str => "str" | .list => "list" | .tuple => "tuple"
/-- the type of data, by name -/
def dTy : D → String
  | .none => "NoneType" | .bool _ => "bool" | .int _ => "int" | .str _ => "str" | .list _ => "list" | .tuple _ => "tuple" | .dict _ => "dict"
theorem rep_ty {d : D} {v : V} (r : Rep K c H d v) : TyX K H v (.type (dTy d)) := by
  cases d with
  | none => cases r; exact .base .non
  | bool b => cases r; exact .base (.bl b)
  | int i => cases r; exact .base (.int i)
  | str i => cases r; exact .base (.str i)
  | list xs =>
    obtain ⟨a, vs, e, h, _⟩ := r
    subst e
    rcases h with ⟨h | ⟨o, h⟩, _⟩ | ⟨o, its, n, h, hc, _⟩
    · exact .base (.lst h)
    · exact .base (.frz h)
    · exact .kList h hc
  | tuple xs =>
    obtain ⟨a, vs, e, h, _⟩ := r
    subst e
    rcases h with ⟨h | ⟨o, h⟩, _⟩ | ⟨o, its, n, h, hc, _⟩
    · exact .base (.tup h)
    · exact .fTuple h
    · exact .kTuple h hc
  | dict kvs =>
    obtain ⟨a, ks, e, h, _⟩ := r
    subst e
    exact .base (.dK h)
theorem kit_d {K : PySem.W.Frag} (d : D) (t : Ty) : PySem.W.kitOne K (.type (dTy d)) (.type (tyS t)) = some (tyD d t) := by
  cases d <;> cases t <;> exact kit_ty (by dsimp only [dTy, tyS, tyD]; decide +kernel)
theorem kit_ds {K : PySem.W.Frag} (d : D) : ∀ ts : List Ty, PySem.W.kitAny K (.type (dTy d)) (ts.map fun t => Value.type (tyS t)) = some (ts.any (tyD d))
  | [] => kitAny_nil
  | t :: ts => by
    rw [List.map_cons, List.any_cons]
    refine kitAny_cons (kit_d d t) (fun z => ?_) fun z => ?_
    · rw [z, Bool.false_or]; exact kit_ds d ts
    · rw [z, Bool.true_or]
end
end DV

set_option Elab.async false
set_option linter.all false
set_option maxRecDepth 100000
set_option maxHeartbeats 1000000
/-! DV7: the rules of expressions, I. -/
namespace DV
open PySem L2 PySem.Spec PyProof.Rows

theorem and_l {a b : Bool} (h : (a && b) = true) : a = true := (Bool.and_eq_true a b ▸ h : a = true ∧ b = true).1
theorem and_r {a b : Bool} (h : (a && b) = true) : b = true := (Bool.and_eq_true a b ▸ h : a = true ∧ b = true).2

section
variable {K : PySem.W.Frag} {mg : Str → Option Value} {W : WX} {q q1 : Bool} {fr f0 f : Fp} {fps : List Fp} {σ σ' : L2.St} {H H' : Hp} {s : En} {Q : VK} {c c' : Fp}
/-- the end with an owned value -/
theorem EndG.own {m : Md} {d : D} {v : V} (rel : Rel K (fr + f0) fps σ H s) (h : EndG (rM K) K mg W q fr fps f0 σ H (.ok (m, d) s) Q) (g : Grw H H') (hf : ∀ a, 0 < f a → 0 < f0 a ∨ H a = none)
    (h1 : ∀ a, fr a + f a + tot fps a ≤ 1) (r : RepM K (cn (fr + f) fps) H' m d v f) : Q v H' := by
  refine h v H' fps f ⟨fun a => h1 a, fun a z => ?_, fun a z => ?_, fun a o e _ => g a o e⟩ (rel.sl.mono ⟨fun a o e _ => g a o e, fun a o e z => ?_⟩ fun a o e _ => g a o e) r
  · by_cases z2 : 0 < f a
    · exact r.there z2
    · have := rel.lv a (by rw [Fp.add_at]; omega)
      cases e : H a with
      | none => exact absurd e this
      | some o => rw [g a o e]; exact fun y => nomatch y
  · by_cases z2 : 0 < f a
    · exact (hf a z2).imp (fun y => by omega) id
    · left; omega
  · rw [cn_zero] at z ⊢
    rw [Fp.add_at] at z ⊢
    refine ⟨?_, z.2⟩
    by_cases z2 : 0 < f a
    · rcases hf a z2 with y | y
      · omega
      · rw [e] at y; cases y
    · omega
theorem Slots.put {i : Nat} (h : Slots K c σ H s fps) (hl : σ'.length = σ.length) (ho : ∀ j, j ≠ i → σ'[j]? = σ[j]?) (o : Option MD) (hi : i < s.length → ∀ m d, o = some (m, d) → ∃ v, σ'[i]? = some (some v) ∧ m.isB = false ∧ RepM K c H m d v f) :
    Slots K c σ' H (s.set i o) (fps.set i f) := by
  refine ⟨by rw [List.length_set, List.length_set]; exact h.ln, by rw [List.length_set, hl]; exact h.ls, fun j m d e => ?_⟩
  by_cases z : j = i
  · subst z
    have hlt : j < s.length := by
      by_cases y : j < s.length
      · exact y
      · rw [List.getElem?_eq_none (by rw [List.length_set]; omega)] at e; cases e
    rw [List.getElem?_set_self hlt] at e
    obtain ⟨v, e1, e2, e3⟩ := hi hlt m d (Option.some.inj e)
    exact ⟨v, f, e1, List.getElem?_set_self (by rw [← h.ln]; exact hlt), e2, e3⟩
  · rw [List.getElem?_set_ne (Ne.symm z)] at e
    rw [ho j z, List.getElem?_set_ne (Ne.symm z)]
    exact h.at_ j m d e
theorem tot_set0 {i : Nat} {g : Fp} (e : fps[i]? = some g) (a : Addr) : tot (fps.set i 0) a + g a = tot fps a := by
  have := tot_set (0 : Fp) a e
  rw [Fp.zero_at] at this
  omega
theorem tot_set0_le (i : Nat) (a : Addr) : tot (fps.set i 0) a ≤ tot fps a := by
  cases e : fps[i]? with
  | some g => have := tot_set0 e a; omega
  | none => rw [List.set_eq_of_length_le (List.getElem?_eq_none_iff.mp e)]; exact Nat.le_refl _
end

/-! ### what each reading of a core expression asks -/
abbrev TEc (X : Cx) (G : List Info) (W : WX) (c : Ce) : TE := tG (rM X.K) X.K X.mg W (qt c) (ev G c)
abbrev TTc (X : Cx) (G : List Info) (W : WX) (c : Ce) : TT := tG rB X.K X.mg W (qt c) fun s => tbR (ev G c s)
abbrev TAc (X : Cx) (G : List Info) (W : WX) (c : Ces) : TA := tG (rMs X.K) X.K X.mg W (qts c) (evs G c)
abbrev TOc (X : Cx) (G : List Info) (W : WX) (c : Co) : TO := tG rOI X.K X.mg W (qto c) (evo G c)

section
variable {X : Cx} {G : List Info} {W : WX} {c ca cb cc : Ce} {cs : Ces} {a b e : Expr} {pos p p2 : Pos}

theorem r_const {v : V} {d : D} (h : PE X e (tC v)) (hev : ∀ s, ev G c s = .ok (fzv d) s) (hr : ∀ c' H, Rep X.K c' H d v) : PE X e (TEc X G W c) :=
  h.imp fun σ H Q q => by
    obtain ⟨fr, fps, s, rel, hE⟩ := tG_in q
    rw [hev] at hE
    exact EndG.fz rel hE Grw.refl (hr _ _)
theorem r_int {n : Int} {j pos} : PE X (.Constant (.int n) j pos) (TEc X G W (.int n)) := r_const pe_int (fun _ => rfl) fun _ _ => rfl
theorem r_str {n : Str} {j pos} : PE X (.Constant (.str n) j pos) (TEc X G W (.str n)) := r_const pe_str (fun _ => rfl) fun _ _ => rfl
theorem r_bl {n : Bool} {j pos} : PE X (.Constant (.bool n) j pos) (TEc X G W (.bl n)) := r_const pe_bl (fun _ => rfl) fun _ _ => rfl
theorem r_non {j pos} : PE X (.Constant .none j pos) (TEc X G W .non) := r_const pe_non (fun _ => rfl) fun _ _ => rfl
theorem r_glo {x : Str} {n : Int} {t : Tok} (hg : Gl X x) (hm : X.mg x = some (.int n t)) (hd : (x == ("__debug__" : Str)) = false := by decide) : PE X (.Name x pos) (TEc X G W (.glo x n)) :=
  r_const (pe_glob (v := .int n) hg hm ⟨t, rfl⟩ hd) (fun _ => rfl) fun _ _ => rfl

theorem r_var {i : Nat} {x : Str} (hN : X.N[i]? = some x) (hv : Vis X.env.scope x) (hd : (x == ("__debug__" : Str)) = false := by decide) (hcd : (x == ("__classdict__" : Str)) = false := by decide) : PE X (.Name x pos) (TEc X G W (.var i)) :=
  (pe_var hN hv hd hcd).imp fun σ H Q q => by
    obtain ⟨fr, fps, s, rel, hE⟩ := tG_in q
    have hE' : EndG (rM X.K) X.K X.mg W true fr fps 0 σ H (rdv i s) Q := hE
    unfold rdv at hE'
    split at hE'
    · rename_i m d e
      obtain ⟨v, f, e1, e2, e3, r⟩ := rel.sl.at_ i m d e
      exact ⟨v, e1, EndG.bw rel hE' r.rd⟩
    · exact hE'.elim
theorem r_mv {i : Nat} {x : Str} (hN : X.N[i]? = some x) (hv : Vis X.env.scope x) (hd : (x == ("__debug__" : Str)) = false := by decide) (hcd : (x == ("__classdict__" : Str)) = false := by decide) : PE X (.Name x pos) (TEc X G W (.mv i)) :=
  (pe_var hN hv hd hcd).imp fun σ H Q q => by
    obtain ⟨fr, fps, s, rel, hE⟩ := tG_in q
    have hE' : EndG (rM X.K) X.K X.mg W true fr fps 0 σ H (mvv i s) Q := hE
    unfold mvv at hE'
    split at hE'
    · rename_i m d e
      obtain ⟨v, f, e1, e2, e3, r⟩ := rel.sl.at_ i m d e
      have cc : cn (fr + f) (fps.set i 0) = cn fr fps := funext fun a => by
        show fr a + f a + _ = fr a + _
        have := tot_set0 e2 a; omega
      refine ⟨v, e1, hE' v H (fps.set i 0) f ⟨fun a => ?_, fun a z => rel.lv a ?_, fun a z => ?_, fun a o e _ => e⟩ ?_ ?_⟩
      · have h1 : fr a + 0 + _ ≤ 1 := rel.le a
        have := tot_set0 e2 a; omega
      · show 0 < fr a + 0 + _
        have := tot_set0 e2 a; omega
      · left
        have := tot_set0 e2 a; omega
      · rw [cc]
        exact rel.sl.put rfl (fun _ _ => rfl) none fun _ _ _ z => nomatch z
      · rw [cc]; exact r
    · exact hE'.elim
theorem r_frz {i : Nat} {x : Str} (hN : X.N[i]? = some x) (hv : Vis X.env.scope x) (hd : (x == ("__debug__" : Str)) = false := by decide) (hcd : (x == ("__classdict__" : Str)) = false := by decide) : PE X (.Name x pos) (TEc X G W (.frz i)) :=
  (pe_var hN hv hd hcd).imp fun σ H Q q => by
    obtain ⟨fr, fps, s, rel, hE⟩ := tG_in q
    have hE' : EndG (rM X.K) X.K X.mg W true fr fps 0 σ H (frv i s) Q := hE
    unfold frv at hE'
    split at hE'
    · rename_i d e
      obtain ⟨v, f, e1, e2, e3, r⟩ := rel.sl.at_ i _ d e
      exact ⟨v, e1, EndG.bw rel hE' r.rd⟩
    · rename_i m d _ e
      obtain ⟨v, f, e1, e2, e3, r⟩ := rel.sl.at_ i m d e
      have kp : Kp (cn fr fps) (cn fr (fps.set i 0)) H H := ⟨fun _ _ e _ => e, fun a _ _ z => by
        rw [cn_zero] at z ⊢
        have := tot_set0_le (fps := fps) i a; omega⟩
      have rz : Rep X.K (cn fr (fps.set i 0)) H d v := RepM.fz e3 (fun a z => by
        rw [cn_zero]
        have h1 : fr a + 0 + _ ≤ 1 := rel.le a
        have := tot_set0 e2 a
        omega) (r.mono kp fun _ _ e _ => e)
      refine ⟨v, e1, hE' v H (fps.set i 0) 0 ⟨fun a => ?_, fun a z => rel.lv a ?_, fun a z => ?_, fun a o e _ => e⟩ ?_ ?_⟩
      · have h1 : fr a + 0 + _ ≤ 1 := rel.le a
        show fr a + 0 + _ ≤ 1
        have := tot_set0 e2 a; omega
      · have z' : 0 < fr a + 0 + tot (fps.set i 0) a := z
        show 0 < fr a + 0 + _
        have := tot_set0 e2 a; omega
      · have z' : 0 < 0 + tot (fps.set i 0) a := z
        left
        show 0 < 0 + _
        have := tot_set0 e2 a; omega
      · refine Slots.put (rel.sl.mono kp fun _ _ e _ => e) rfl (fun _ _ => rfl) _ fun _ m' d' z => ?_
        cases z
        exact ⟨v, e1, rfl, rz, rfl⟩
      · exact ⟨rz, rfl⟩
    · exact hE'.elim

/-! ### operations -/
theorem r_bin {op : Operator} (ha : PE X a (TEc X G W ca)) (hb : PE X b (TEc X G W cb)) : PE X (.BinOp a op b pos) (TEc X G W (.bin op ca cb)) :=
  (pe_op (op_bin op) ha hb).imp fun σ H Q q => by
    obtain ⟨fr, fps, s, rel, hE⟩ := tG_in q
    refine tG_step rel and_l hE fun x s1 v H1 fps1 f1 e1 st1 rel1 r1 h1 => ?_
    split at h1
    · exact h1.elim
    · rename_i nb
      refine tG_step rel1 and_r h1 fun y s2 u H2 fps2 f2 e2 st2 rel2 r2 h2 => ?_
      split at h2
      · exact h2.elim
      · rename_i n2
        rw [Bool.or_eq_true, not_or] at n2
        refine bin_ok rel2 h2 (st2.keepM rel1.le (fun a => by simp only [Fp.add_at, Fp.zero_at]; omega) (fun z => ?_) r1) r2 (fun _ a => by simp only [Fp.add_at, Fp.zero_at]; omega) (Bool.eq_false_iff.mpr n2.1) (Bool.eq_false_iff.mpr n2.2)
        cases hq : qt cb with
        | true => rfl
        | false => rw [z, hq] at nb; exact absurd rfl nb
theorem r_neg (ha : PE X a (TEc X G W ca)) : PE X (.UnaryOp .USub a pos) (TEc X G W (.neg ca)) :=
  (pe_un un_neg ha).imp fun σ H Q q => by
    obtain ⟨fr, fps, s, rel, hE⟩ := tG_in q
    refine tG_step rel id hE fun x s1 v H1 fps1 f1 e1 st1 rel1 r1 h1 => ?_
    obtain ⟨m, d⟩ := x
    split at h1
    · rename_i e
      cases e
      exact ⟨_, RepM.int r1, EndG.int rel1 h1⟩
    · exact h1.elim
theorem cmp_in {op : CmpOp} {k : Nat} (hr : Room k X.A) (ha : PE X a (TEc X G W ca)) (hb : PE X b (TEc X G W cb)) (σ : L2.St) (H : Hp) (Q : VK) (q : TEc X G W (.cmp op ca cb) σ H Q) : tOp (rCmp X.K op) (TEc X G W ca) (TEc X G W cb) σ H Q := by
  obtain ⟨fr, fps, s, rel, hE⟩ := tG_in q
  refine tG_step rel and_l hE fun x s1 v H1 fps1 f1 e1 st1 rel1 r1 h1 => ?_
  split at h1
  · exact h1.elim
  · rename_i nb
    refine tG_step rel1 and_r h1 fun y s2 u H2 fps2 f2 e2 st2 rel2 r2 h2 => ?_
    cases ec : cmpD op x.2 y.2 with
    | none => rw [ec] at h2; exact h2.elim
    | some r =>
      rw [ec] at h2
      refine cmp_ok ec (st2.keepM rel1.le (fun a => by simp only [Fp.add_at, Fp.zero_at]; omega) (fun z => ?_) r1) r2 (EndG.bl rel2 h2)
      cases hq : qt cb with
      | true => rfl
      | false => rw [z, hq] at nb; exact absurd rfl nb
theorem r_cmp {op : CmpOp} {k : Nat} (hr : Room k X.A) (ha : PE X a (TEc X G W ca)) (hb : PE X b (TEc X G W cb)) (hm : behindInMarks op b = false := by first | exact nomark _ | rfl) : PE X (.Compare a [op] [b] pos) (TEc X G W (.cmp op ca cb)) :=
  (pe_cmpR (op_cmp hr.u65 op) ha hb hm).imp (cmp_in hr ha hb)
end
end DV

set_option Elab.async false
set_option linter.all false
set_option maxRecDepth 100000
set_option maxHeartbeats 1000000
/-! DV8: the rules of expressions, II. -/
namespace DV
open PySem L2 PySem.Spec PyProof.Rows

theorem Rs.bind_assoc {α β γ : Type} (r : Rs α) (k : α → En → Rs β) (l : β → En → Rs γ) : (r.bind k).bind l = r.bind fun a s => (k a s).bind l := by
  cases r <;> rfl
theorem if_bind {α β : Type} (c : Bool) (r : Rs α) (k : α → En → Rs β) : (if c = true then .no else r).bind k = if c = true then .no else r.bind k := by
  cases c <;> rfl

section
variable {K : PySem.W.Frag} {mg : Str → Option Value} {W : WX} {q q1 : Bool} {fr f0 f : Fp} {fps : List Fp} {σ σ' : L2.St} {H H' : Hp} {s : En} {c c' : Fp}
section
variable {α β : Type} {RR : Fp → Hp → α → β → Fp → Prop}
/-- the rest is read as it stands: temporary values are dropped -/
theorem tG_last {m : En → Rs α} {Q : β → Hp → Prop} (hR : ∀ c c' H x v f, (∀ a, c a = 0 → c' a = 0) → RR c H x v f → RR c' H x v f) (rel : Rel K (fr + f0) fps σ H s) (hq : q = true → q1 = true) (h : EndG RR K mg W q fr fps f0 σ H (m s) Q) : tG RR K mg W q1 m σ H Q := by
  refine ⟨fr + f0, fps, s, rel, ?_⟩
  have st' : ∀ {q2 : Bool} {H' fps' f}, (q = true → q2 = true) → Stp q2 (fr + f0) fps 0 H H' fps' f → Stp q fr fps f0 H H' fps' f := fun hq st =>
    ⟨fun a => by have := st.le a; rw [Fp.add_at] at this; omega, fun a z => st.lv a (by rw [Fp.add_at]; omega), fun a z => (st.nw a z).imp (fun y => by have y' : 0 < 0 + tot fps a := y; omega) id,
      fun a o e z => st.kp a o e (z.imp hq fun y => by show 0 + _ = 0; omega)⟩
  have c0 : ∀ {g : Fp} {fps' : List Fp} (a : Addr), cn (fr + f0 + g) fps' a = 0 → cn (fr + g) fps' a = 0 := fun a z => by
    rw [cn_zero] at z ⊢; rw [Fp.add_at, Fp.add_at] at z; rw [Fp.add_at]; omega
  cases e : m s with
  | no => rw [e] at h; exact h.elim
  | exc x s' =>
    rw [e] at h
    have h' : ExcP K mg W fr fps f0 σ H x s' := h
    exact fun H' fps' dx C w st sl hm hr hs hd => h' H' fps' dx C w ⟨fun a => by have := st.le a; rw [Fp.add_at] at this; show fr a + 0 + _ ≤ 1; omega,
      fun a z => st.lv a (by have z' : 0 < fr a + 0 + tot fps' a := z; rw [Fp.add_at]; omega), fun a z => (st.nw a z).imp (fun y => by have y' : 0 < 0 + tot fps a := y; omega) id,
      fun a o eo z => st.kp a o eo (z.imp id fun y => by show 0 + _ = 0; omega)⟩ (sl.less fun a z => by rw [cn_zero] at z ⊢; rw [Fp.add_at] at z; omega) hm hr hs hd
  | ok x s1 =>
    rw [e] at h
    exact fun v H' fps' f st sl hr => h v H' fps' f (st' hq st) (sl.less fun a z => c0 a z) (hR _ _ _ _ _ _ (fun a z => c0 a z) hr)
end
theorem lessM : ∀ c c' H x v f, (∀ a, c a = 0 → c' a = 0) → rM K c H x v f → rM K c' H x v f := fun _ _ _ _ _ _ hc h =>
  RepM.mono ⟨fun _ _ e _ => e, fun a _ _ z => hc a z⟩ (fun _ _ e _ => e) h
theorem lessMs : ∀ c c' H x v f, (∀ a, c a = 0 → c' a = 0) → rMs K c H x v f → rMs K c' H x v f := fun _ _ _ _ _ _ hc h =>
  RepMs.mono ⟨fun _ _ e _ => e, fun a _ _ z => hc a z⟩ (fun _ _ e _ => e) h
theorem lessB : ∀ c c' H x v f, (∀ a, c a = 0 → c' a = 0) → rB c H x v f → rB c' H x v f := fun _ _ _ _ _ _ _ h => h
theorem lessOI : ∀ c c' H x v f, (∀ a, c a = 0 → c' a = 0) → rOI c H x v f → rOI c' H x v f := fun _ _ _ _ _ _ _ h => h
/-- the end with a plain result, nothing changed -/
theorem EndG.pl {α β : Type} {RR : Fp → Hp → α → β → Fp → Prop} {Q : β → Hp → Prop} {x : α} {v : β} (rel : Rel K (fr + f0) fps σ H s) (h : EndG RR K mg W q fr fps f0 σ H (.ok x s) Q) (r : RR (cn (fr + 0) fps) H x v 0) : Q v H := by
  refine h v H fps 0 ⟨fun a => ?_, fun a z => ?_, fun a z => ?_, fun a o e _ => e⟩ (rel.sl.less fun a z => ?_) r
  · have := rel.le a; rw [Fp.add_at] at this; show fr a + 0 + _ ≤ 1; omega
  · have z' : 0 < fr a + 0 + tot fps a := z
    exact rel.lv a (by rw [Fp.add_at]; omega)
  · have z' : 0 < 0 + tot fps a := z
    left; omega
  · rw [cn_zero] at z ⊢; rw [Fp.add_at] at z; rw [Fp.add_zero]; omega
variable {Q : VK}
theorem Rel.new0 (rel : Rel K (fr + f0) fps σ H s) {p : Addr} (n : H p = none) : cn (fr + f0) fps p = 0 := by
  rw [cn_zero]
  by_cases z : 0 < (fr + f0) p + tot fps p
  · exact absurd n (rel.lv p z)
  · omega
theorem EndG.newL {xs : List D} {vs : List V} (rel : Rel K (fr + f0) fps σ H s) (h : EndG (rM K) K mg W q fr fps f0 σ H (.ok (.o1, .list xs) s) Q) (r : Reps K (cn fr fps) H xs vs) (p : Addr) (hp : H p = none) : Q (.ref p) (upd H p (.lst vs)) :=
  EndG.new rel h (Grw.upd hp) hp ⟨rfl, vs, upd_same, Reps.mono (Kp.new (Grw.upd hp) hp) _ _ r⟩
theorem EndG.newT {xs : List D} {vs : List V} (rel : Rel K (fr + f0) fps σ H s) (h : EndG (rM K) K mg W q fr fps f0 σ H (.ok (fzv (.tuple xs)) s) Q) (r : Reps K (cn fr fps) H xs vs) (p : Addr) (hp : H p = none) : Q (.ref p) (upd H p (.tup vs)) := by
  have z0 := rel.new0 hp
  refine EndG.fz rel h (Grw.upd hp) ⟨p, vs, rfl, .inl ⟨.of upd_same, ?_⟩, Reps.mono ⟨fun a o e _ => Grw.upd hp a o e, fun a _ _ z => z⟩ _ _ r⟩
  rw [cn_zero] at z0 ⊢
  rw [Fp.add_at] at z0
  omega
theorem fzs_of {ds : List MD} {vs : List V} (rel : Rel K (fr + f0) fps σ H s) (hf : ∀ a, f a ≤ f0 a) (nb : ds.any (·.1.isB) = false) (r : RepMs K (cn (fr + f0) fps) H ds vs f) : Reps K (cn fr fps) H (ds.map (·.2)) vs := by
  refine RepMs.fz nb (fun a z => ?_) (r.mono ⟨fun _ _ e _ => e, fun a _ _ z => by rw [cn_zero] at z ⊢; rw [Fp.add_at] at z; omega⟩ fun _ _ e _ => e)
  have h1 := rel.le a
  have h2 := hf a
  rw [Fp.add_at] at h1
  rw [cn_zero]
  omega
theorem RepM.tup {m : Md} {xs : List D} {v : V} {f : Fp} (r : RepM K c H m (.tuple xs) v f) : Rep K c H (.tuple xs) v := by
  cases m with
  | fz => exact r.1
  | o1 => obtain ⟨p, h, _⟩ := r; exact h.elim
  | b1 => obtain ⟨p, h, _⟩ := r; exact h.elim
  | o2 => obtain ⟨xs, p, vs, g, e1, _⟩ := r; cases e1
  | b2 => obtain ⟨xs, p, vs, g, e1, _⟩ := r; cases e1
end

section
variable {X : Cx} {G : List Info} {W : WX} {c ca cb cc : Ce} {cs : Ces} {a b e e1 e2 e3 : Expr} {es : List Expr} {pos p p2 : Pos}

theorem tb_in {σ : L2.St} {H : Hp} {Q : Bool → Hp → Prop} (h : TTc X G W c σ H Q) : TEc X G W c σ H fun x H' => ∃ k, x = .bl k ∧ Q k H' := by
  obtain ⟨fr, fps, s, rel, hE⟩ := tG_in h
  unfold tbR at hE
  refine tG_step rel id hE fun x s1 v H1 fps1 f1 e1 st1 rel1 r1 h1 => ?_
  split at h1
  · exact ⟨_, RepM.bl r1, EndG.pl rel1 h1 ⟨rfl, rfl⟩⟩
  · exact h1.elim
theorem rt_val (h : PE X e (TEc X G W c)) (he : ∀ whole, isTrue e X.env whole = (do let v ← whole; standAt e.pos; holding [v] (truthy v)) := by intro _; rfl) : PT X e (TTc X G W c) :=
  (pt_val h he).imp fun σ H Q q => tb_in q
theorem rt_cmp {op : CmpOp} {k : Nat} (hr : Room k X.A) (ha : PE X a (TEc X G W ca)) (hb : PE X b (TEc X G W cb)) (hm : behindInMarks op b = false := by first | exact nomark _ | rfl) : PT X (.Compare a [op] [b] pos) (TTc X G W (.cmp op ca cb)) :=
  (pt_cmpR (op_cmp hr.u65 op) ha hb hm).imp fun σ H Q q => cmp_in hr ha hb σ H _ (tb_in q)
theorem chn_in {op op' : CmpOp} (σ : L2.St) (H : Hp) (Q : VK) (q : TEc X G W (.chn op op' ca cb cc) σ H Q) : tChain (rCmp X.K op) (rCmp X.K op') (TEc X G W ca) (TEc X G W cb) (TEc X G W cc) σ H Q := by
  obtain ⟨fr, fps, s, rel, hE⟩ := tG_in q
  refine tG_step rel (fun z => and_l (and_l z)) hE fun x s1 v H1 fps1 f1 e1 st1 rel1 r1 h1 => ?_
  split at h1
  · exact h1.elim
  · rename_i nb
    refine tG_step rel1 (fun z => and_r (and_l z)) h1 fun y s2 u H2 fps2 f2 e2 st2 rel2 r2 h2 => ?_
    cases ec : cmpD op x.2 y.2 with
    | none => rw [ec] at h2; exact h2.elim
    | some r =>
      rw [ec] at h2
      refine cmp_ok ec (st2.keepM rel1.le (fun a => by simp only [Fp.add_at, Fp.zero_at]; omega) (fun z => ?_) r1) r2 ⟨r, rfl, ?_⟩
      · cases hq : qt cb with
        | true => rfl
        | false => rw [z, hq] at nb; exact absurd rfl nb
      · cases r with
        | false => exact EndG.bl rel2 h2
        | true =>
          have h2' : EndG (rM X.K) X.K X.mg W _ fr fps2 (0 + f1 + f2) σ H2 (if (y.1.isB && !qt cc) = true then .no else (ev G cc s2).bind fun z s4 => (ofO (cmpD op' y.2 z.2) s4).bind fun r' s5 => .ok (fzv (.bool r')) s5) Q := h2
          show TEc X G W cc σ H2 _
          split at h2'
          · exact h2'.elim
          · rename_i nc
            refine tG_step rel2 and_r h2' fun z s3 w H3 fps3 f3 e3 st3 rel3 r3 h3 => ?_
            cases ec' : cmpD op' y.2 z.2 with
            | none => rw [ec'] at h3; exact h3.elim
            | some r' =>
              rw [ec'] at h3
              refine cmp_ok ec' (st3.keepM rel2.le (fun a => by simp only [Fp.add_at, Fp.zero_at]; omega) (fun z => ?_) r2) r3 (EndG.bl rel3 h3)
              cases hq : qt cc with
              | true => rfl
              | false => rw [z, hq] at nc; exact absurd rfl nc
theorem r_chn {op op' : CmpOp} {k : Nat} (hr : Room k X.A) (ha : PE X e1 (TEc X G W ca)) (hb : PE X e2 (TEc X G W cb)) (hc : PE X e3 (TEc X G W cc)) (hm : lastMarks [op, op'] [e2, e3] = false := by with_unfolding_all rfl) :
    PE X (.Compare e1 [op, op'] [e2, e3] pos) (TEc X G W (.chn op op' ca cb cc)) := (pe_chain (op_cmp hr.u65 op) (op_cmp hr.u65 op') ha hb hc hm).imp chn_in
theorem rt_chn {op op' : CmpOp} {k : Nat} (hr : Room k X.A) (ha : PE X e1 (TEc X G W ca)) (hb : PE X e2 (TEc X G W cb)) (hc : PE X e3 (TEc X G W cc)) (hm : lastMarks [op, op'] [e2, e3] = false := by with_unfolding_all rfl) :
    PT X (.Compare e1 [op, op'] [e2, e3] pos) (TTc X G W (.chn op op' ca cb cc)) := (pt_chain (op_cmp hr.u65 op) (op_cmp hr.u65 op') ha hb hc hm).imp fun σ H Q q => chn_in σ H _ (tb_in q)

/-! ### and, or, not, if -/
variable {c' : Ce} {rest : List Expr}
theorem r_and1 (ha : PE X a (TEc X G W c)) : PE X (.BoolOp .And [a] pos) (TEc X G W (.and (.cons c .nil))) :=
  (pe_one ha).imp fun σ H Q q => by
    have q' : tG (rM X.K) X.K X.mg W (qt c && true) (ev G c) σ H Q := q
    rw [Bool.and_true] at q'; exact q'
theorem r_or1 (ha : PE X a (TEc X G W c)) : PE X (.BoolOp .Or [a] pos) (TEc X G W (.or (.cons c .nil))) :=
  (pe_one ha).imp fun σ H Q q => by
    have q' : tG (rM X.K) X.K X.mg W (qt c && true) (ev G c) σ H Q := q
    rw [Bool.and_true] at q'; exact q'
/-- a test's value is read -/
theorem tb_step {α β : Type} {RR : Fp → Hp → α → β → Fp → Prop} {k : Bool → En → Rs α} {q : Bool} {fr f0 : Fp} {fps : List Fp} {σ : L2.St} {H : Hp} {s : En} {Q : β → Hp → Prop} (rel : Rel X.K (fr + f0) fps σ H s) (hq : q = true → qt c = true) (h : EndG RR X.K X.mg W q fr fps f0 σ H ((tbR (ev G c s)).bind k) Q)
    {Q' : V → Hp → Prop} (hQ : ∀ b s1 H1 fps1 f1, Stp (qt c) (fr + f0) fps 0 H H1 fps1 f1 → Rel X.K (fr + (f0 + f1)) fps1 σ H1 s1 → EndG RR X.K X.mg W q fr fps1 (f0 + f1) σ H1 (k b s1) Q → Q' (.bl b) H1) : TEc X G W c σ H Q' := by
  unfold tbR at h
  rw [Rs.bind_assoc] at h
  refine tG_step rel hq h fun x s1 v H1 fps1 f1 e1 st1 rel1 r1 h1 => ?_
  obtain ⟨m, d⟩ := x
  cases d with
  | bool b =>
    obtain rfl : v = .bl b := RepM.bl r1
    exact hQ b s1 H1 fps1 f1 st1 rel1 h1
  | none => exact h1.elim
  | int _ => exact h1.elim
  | str _ => exact h1.elim
  | list _ => exact h1.elim
  | tuple _ => exact h1.elim
  | dict _ => exact h1.elim
theorem r_and (ha : PE X a (TEc X G W c)) (hb : PE X (.BoolOp .And (b :: rest) pos) (TEc X G W (.and (.cons c' cs)))) : PE X (.BoolOp .And (a :: b :: rest) pos) (TEc X G W (.and (.cons c (.cons c' cs)))) :=
  (pe_and ha hb).imp fun σ H Q q => by
    obtain ⟨fr, fps, s, rel, hE⟩ := tG_in q
    refine tb_step rel and_l hE fun t s1 H1 fps1 f1 st1 rel1 h1 => ⟨t, rfl, ?_⟩
    cases t with
    | true => exact tG_last (m := ev G (.and (.cons c' cs))) lessM rel1 and_r h1
    | false => exact EndG.bl rel1 h1
theorem r_or (ha : PE X a (TEc X G W c)) (hb : PE X (.BoolOp .Or (b :: rest) pos) (TEc X G W (.or (.cons c' cs)))) : PE X (.BoolOp .Or (a :: b :: rest) pos) (TEc X G W (.or (.cons c (.cons c' cs)))) :=
  (pe_or ha hb).imp fun σ H Q q => by
    obtain ⟨fr, fps, s, rel, hE⟩ := tG_in q
    refine tb_step rel and_l hE fun t s1 H1 fps1 f1 st1 rel1 h1 => ⟨t, rfl, ?_⟩
    cases t with
    | true => exact EndG.bl rel1 h1
    | false => exact tG_last (m := ev G (.or (.cons c' cs))) lessM rel1 and_r h1
theorem r_not (ha : PE X a (TEc X G W c)) : PE X (.UnaryOp .Not a pos) (TEc X G W (.not c)) :=
  (pe_not ha).imp fun σ H Q q => by
    obtain ⟨fr, fps, s, rel, hE⟩ := tG_in q
    refine tb_step rel id hE fun t s1 H1 fps1 f1 st1 rel1 h1 => ⟨t, rfl, EndG.bl rel1 h1⟩
theorem tbR_not (r : Rs MD) : tbR ((tbR r).bind fun b s1 => .ok (fzv (.bool (!b))) s1) = (tbR r).bind fun b s1 => .ok (!b) s1 := by
  unfold tbR
  rw [Rs.bind_assoc]
  cases r with
  | ok x s => obtain ⟨m, d⟩ := x; cases d <;> rfl
  | exc x s => rfl
  | no => rfl
theorem tbR_and (r : Rs MD) (k : En → Rs MD) : tbR ((tbR r).bind fun b s1 => if b = true then k s1 else .ok (fzv (.bool false)) s1) = (tbR r).bind fun b s1 => if b = true then tbR (k s1) else .ok false s1 := by
  unfold tbR
  rw [Rs.bind_assoc]
  cases r with
  | ok x s =>
    obtain ⟨m, d⟩ := x
    cases d with
    | bool b => cases b <;> rfl
    | none => rfl
    | int _ => rfl
    | str _ => rfl
    | list _ => rfl
    | tuple _ => rfl
    | dict _ => rfl
  | exc x s => rfl
  | no => rfl
theorem tbR_or (r : Rs MD) (k : En → Rs MD) : tbR ((tbR r).bind fun b s1 => if b = true then .ok (fzv (.bool true)) s1 else k s1) = (tbR r).bind fun b s1 => if b = true then .ok true s1 else tbR (k s1) := by
  unfold tbR
  rw [Rs.bind_assoc]
  cases r with
  | ok x s =>
    obtain ⟨m, d⟩ := x
    cases d with
    | bool b => cases b <;> rfl
    | none => rfl
    | int _ => rfl
    | str _ => rfl
    | list _ => rfl
    | tuple _ => rfl
    | dict _ => rfl
  | exc x s => rfl
  | no => rfl
theorem rt_not (ha : PT X a (TTc X G W c)) : PT X (.UnaryOp .Not a pos) (TTc X G W (.not c)) :=
  (pt_not ha).imp fun σ H Q q => by
    obtain ⟨fr, fps, s, rel, hE⟩ := tG_in q
    have hE' : EndG rB X.K X.mg W (qt c) fr fps 0 σ H (tbR ((tbR (ev G c s)).bind fun b s1 => .ok (fzv (.bool (!b))) s1)) Q := hE
    rw [tbR_not] at hE'
    refine tG_step (R1 := rB) rel id hE' fun x s1 v H1 fps1 f1 e1 st1 rel1 r1 h1 => ?_
    obtain ⟨rfl, rfl⟩ := r1
    exact EndG.pl rel1 h1 ⟨rfl, rfl⟩
abbrev TWa (X : Cx) (G : List Info) (W : WX) (cs : Ces) : TT := tG rB X.K X.mg W (qts cs) fun s => tbR (evAnd G cs s)
abbrev TWo (X : Cx) (G : List Info) (W : WX) (cs : Ces) : TT := tG rB X.K X.mg W (qts cs) fun s => tbR (evOr G cs s)
theorem _root_.L2.PW.imp {X : Cx} {e : Expr} {t t' : TT} (h : PW X e t) (hi : ∀ σ H Q, t' σ H Q → t σ H Q) : PW X e t' := ⟨fun w pins s σ H Q I q => h.run w pins s σ H Q I (hi σ H Q q)⟩
theorem rw_and1 (ha : PT X a (TTc X G W c)) : PW X (.BoolOp .And [a] pos) (TWa X G W (.cons c .nil)) :=
  (pw_and1 ha).imp fun σ H Q q => by
    have q' : tG rB X.K X.mg W (qt c && true) (fun s => tbR (ev G c s)) σ H Q := q
    rw [Bool.and_true] at q'; exact q'
theorem rw_or1 (ha : PT X a (TTc X G W c)) : PW X (.BoolOp .Or [a] pos) (TWo X G W (.cons c .nil)) :=
  (pw_or1 ha).imp fun σ H Q q => by
    have q' : tG rB X.K X.mg W (qt c && true) (fun s => tbR (ev G c s)) σ H Q := q
    rw [Bool.and_true] at q'; exact q'
theorem rw_and (ha : PT X a (TTc X G W c)) (hb : PW X (.BoolOp .And (b :: rest) pos) (TWa X G W (.cons c' cs))) : PW X (.BoolOp .And (a :: b :: rest) pos) (TWa X G W (.cons c (.cons c' cs))) :=
  (pw_and ha hb).imp fun σ H Q q => by
    obtain ⟨fr, fps, s, rel, hE⟩ := tG_in q
    have hE' : EndG rB X.K X.mg W (qt c && qts (.cons c' cs)) fr fps 0 σ H (tbR ((tbR (ev G c s)).bind fun b s1 => if b = true then evAnd G (.cons c' cs) s1 else .ok (fzv (.bool false)) s1)) Q := hE
    rw [tbR_and] at hE'
    refine tG_step (R1 := rB) rel and_l hE' fun x s1 v H1 fps1 f1 e1 st1 rel1 r1 h1 => ?_
    obtain ⟨rfl, rfl⟩ := r1
    cases v with
    | true => exact tG_last (m := fun s => tbR (evAnd G (.cons c' cs) s)) lessB rel1 and_r h1
    | false => exact EndG.pl rel1 h1 ⟨rfl, rfl⟩
theorem rw_or (ha : PT X a (TTc X G W c)) (hb : PW X (.BoolOp .Or (b :: rest) pos) (TWo X G W (.cons c' cs))) : PW X (.BoolOp .Or (a :: b :: rest) pos) (TWo X G W (.cons c (.cons c' cs))) :=
  (pw_or ha hb).imp fun σ H Q q => by
    obtain ⟨fr, fps, s, rel, hE⟩ := tG_in q
    have hE' : EndG rB X.K X.mg W (qt c && qts (.cons c' cs)) fr fps 0 σ H (tbR ((tbR (ev G c s)).bind fun b s1 => if b = true then .ok (fzv (.bool true)) s1 else evOr G (.cons c' cs) s1)) Q := hE
    rw [tbR_or] at hE'
    refine tG_step (R1 := rB) rel and_l hE' fun x s1 v H1 fps1 f1 e1 st1 rel1 r1 h1 => ?_
    obtain ⟨rfl, rfl⟩ := r1
    cases v with
    | true => exact EndG.pl rel1 h1 ⟨rfl, rfl⟩
    | false => exact tG_last (m := fun s => tbR (evOr G (.cons c' cs) s)) lessB rel1 and_r h1
theorem rt_and (h : PW X e (TWa X G W cs)) : PT X e (TTc X G W (.and cs)) := ⟨fun pins s σ H Q I q => h.run _ pins s σ H Q I q⟩
theorem rt_or (h : PW X e (TWo X G W cs)) : PT X e (TTc X G W (.or cs)) := ⟨fun pins s σ H Q I q => h.run _ pins s σ H Q I q⟩
theorem r_ite (hc : PT X e (TTc X G W cc)) (ha : PE X a (TEc X G W ca)) (hb : PE X b (TEc X G W cb)) : PE X (.IfExp e a b pos) (TEc X G W (.ite cc ca cb)) :=
  (pe_ifExp hc ha hb).imp fun σ H Q q => by
    obtain ⟨fr, fps, s, rel, hE⟩ := tG_in q
    refine tG_step (R1 := rB) rel (fun z => and_l (and_l z)) hE fun x s1 v H1 fps1 f1 e1 st1 rel1 r1 h1 => ?_
    obtain ⟨rfl, rfl⟩ := r1
    cases v with
    | true => exact tG_last (m := ev G ca) lessM rel1 (fun z => and_r (and_l z)) h1
    | false => exact tG_last (m := ev G cb) lessM rel1 (fun z => and_r z) h1

/-! ### subscripts, slices -/
theorem r_ix {k : Nat} (hr : Room k X.A) (ha : PE X a (TEc X G W ca)) (hb : PE X b (TEc X G W cb)) (hs : PlainIx b := by intro _ _; rfl) : PE X (.Subscript a b pos) (TEc X G W (.ix ca cb)) :=
  (pe_ix (ix_any (by have := hr.u65; omega)) ha hb hs).imp fun σ H Q q => by
    obtain ⟨fr, fps, s, rel, hE⟩ := tG_in q
    refine tG_step rel and_l hE fun x s1 v H1 fps1 f1 e1 st1 rel1 r1 h1 => ?_
    split at h1
    · exact h1.elim
    · rename_i nb
      refine tG_step rel1 and_r h1 fun y s2 u H2 fps2 f2 e2 st2 rel2 r2 h2 => ?_
      refine ix_ok rel2 h2 (st2.keepM rel1.le (fun a => by simp only [Fp.add_at, Fp.zero_at]; omega) (fun z => ?_) r1) r2
      cases hq : qt cb with
      | true => rfl
      | false => rw [z, hq] at nb; exact absurd rfl nb
theorem ro_none : PO X none (TOc X G W .none) := ⟨fun pins s σ H Q I q => po_none.run pins s σ H Q I (by
  obtain ⟨fr, fps, s, rel, hE⟩ := tG_in q
  exact EndG.pl (v := none) rel hE ⟨rfl, rfl⟩)⟩
theorem ro_some (h : PE X e (TEc X G W c)) : PO X (some e) (TOc X G W (.some c)) := ⟨fun pins s σ H Q I q => (po_some h).run pins s σ H Q I (by
  obtain ⟨fr, fps, s, rel, hE⟩ := tG_in q
  refine tG_step rel id hE fun x s1 v H1 fps1 f1 e1 st1 rel1 r1 h1 => ?_
  obtain ⟨m, d⟩ := x
  split at h1
  · rename_i e
    cases e
    exact ⟨_, RepM.int r1, EndG.pl rel1 h1 ⟨rfl, rfl⟩⟩
  · exact h1.elim)⟩
def rSlB (K : PySem.W.Frag) : V → Option Int → Option Int → Hp → VK → Prop := fun x lo hi H Q => rSlL K x lo hi H Q ∨ rSlA K x lo hi H Q
theorem sl_any : SlR X (rSlB X.K) := fun pins s σ H x v vl vu lo hi sl Q I r h p1 p2 q => q.elim (sl_list pins s σ H x v vl vu lo hi sl Q I r h p1 p2) (sl_tupA pins s σ H x v vl vu lo hi sl Q I r h p1 p2)
theorem r_sl {lo hi : Option Expr} {cl ch : Co} (ha : PE X a (TEc X G W ca)) (hl : PO X lo (TOc X G W cl)) (hh : PO X hi (TOc X G W ch)) : PE X (.Subscript a (.Slice lo hi none p2) pos) (TEc X G W (.sl ca cl ch)) :=
  (pe_slice sl_any ha hl hh).imp fun σ H Q q => by
    obtain ⟨fr, fps, s, rel, hE⟩ := tG_in q
    refine tG_step rel (fun z => and_l (and_l z)) hE fun x s1 v H1 fps1 f1 e1 st1 rel1 r1 h1 => ?_
    split at h1
    · exact h1.elim
    · rename_i nb
      rw [Bool.or_eq_true, not_or] at nb
      have hq : x.1.isB = true → (qto cl && qto ch) = true := fun z => by
        cases hq : (qto cl && qto ch) with
        | true => rfl
        | false => rw [z, hq] at nb; exact absurd rfl nb.1
      refine tG_step (R1 := rOI) rel1 (fun z => and_r (and_l z)) h1 fun l s2 l' H2 fps2 f2 e2 st2 rel2 r2 h2 => ?_
      obtain ⟨rfl, rfl⟩ := r2
      have r1' := st2.keepM rel1.le (fun a => by simp only [Fp.add_at, Fp.zero_at]; omega) (fun z => and_l (hq z)) r1
      refine tG_step (R1 := rOI) rel2 (fun z => and_r z) h2 fun l s3 h' H3 fps3 f3 e3 st3 rel3 r3 h3 => ?_
      obtain ⟨rfl, rfl⟩ := r3
      have r1'' := st3.keepM rel2.le (fun a => by simp only [Fp.add_at, Fp.zero_at]; omega) (fun z => and_r (hq z)) r1'
      obtain ⟨m, d⟩ := x
      cases d with
      | list xs =>
        obtain ⟨a, vs, ea, hs, rr⟩ := RepM.items (Bool.eq_false_iff.mpr nb.2) r1''
        have h3' := h3
        refine .inl ⟨a, vs, ea, hs, fun p hp => EndG.newL rel3 (xs := cutD xs l' h') h3' ?_ p hp⟩
        have rl := lesss_of rr
        unfold cutD cutV
        rw [← rr.len]
        exact (rl.drop _).take _
      | tuple xs =>
        obtain ⟨a, vs, ea, hs, rr⟩ := RepM.itemsT r1''
        have h3' : EndG (rM X.K) X.K X.mg W _ fr fps3 _ σ H3 (.ok (fzv (.tuple (cutD xs l' h'))) s3) Q := h3
        refine .inr ⟨a, vs, ea, hs, fun z => ?_, fun z p hp => EndG.newT rel3 h3' ?_ p hp⟩
        · rw [← rr.len] at z
          have e : cutD xs l' h' = xs := by
            unfold cutD
            rw [z.1, z.2, List.drop_zero, Nat.sub_zero, List.take_length]
          rw [e] at h3'
          have := RepM.tup r1''
          rw [ea] at this
          exact EndG.fz0 rel3 h3' Grw.refl this
        · have rl := lesss_of rr
          unfold cutD cutV
          rw [← rr.len]
          exact (rl.drop _).take _
      | none => exact h3.elim
      | bool _ => exact h3.elim
      | int _ => exact h3.elim
      | str _ => exact h3.elim
      | dict _ => exact h3.elim
theorem r_rev {k : Nat} {p1 p3 : Pos} (ha : PE X a (TEc X G W ca)) : PE X (.Subscript a (.Slice none none (some (.UnaryOp .USub (.Constant (.int 1) k p1) p2)) p3) pos) (TEc X G W (.rev ca)) :=
  (pe_revL ha).imp fun σ H Q q => by
    obtain ⟨fr, fps, s, rel, hE⟩ := tG_in q
    refine tG_step rel id hE fun x s1 v H1 fps1 f1 e1 st1 rel1 r1 h1 => ?_
    have key : ∀ m xs, m.is2 = false → x = (m, .list xs) → EndG (rM X.K) X.K X.mg W (qt ca) fr fps1 (0 + f1) σ H1 (.ok (.o1, .list xs.reverse) s1) Q → ∃ a xs, v = .ref a ∧ SqL X.K H1 a xs ∧ ∀ p, H1 p = none → Q (.ref p) (upd H1 p (.lst xs.reverse)) := fun m xs n2 ex h => by
      subst ex
      obtain ⟨a, vs, ea, hs, rr⟩ := RepM.items n2 r1
      exact ⟨a, vs, ea, hs, fun p hp => EndG.newL rel1 h (lesss_of rr).reverse p hp⟩
    split at h1
    · exact key _ _ rfl rfl h1
    · exact key _ _ rfl rfl h1
    · exact key _ _ rfl rfl h1
    · exact h1.elim

/-! ### arguments, displays -/
theorem rA_nil : PA X [] (TAc X G W .nil) := ⟨fun pos pins s σ H Q I q => pa_nil.run pos pins s σ H Q I (by
  obtain ⟨fr, fps, s, rel, hE⟩ := tG_in q
  exact EndG.pl rel hE ⟨rfl, rfl⟩)⟩
/-- arguments: the values are held one behind the other -/
theorem cons_in (σ : L2.St) (H : Hp) (Q : List V → Hp → Prop) (q : TAc X G W (.cons c cs) σ H Q) : tCons (TEc X G W c) (TAc X G W cs) σ H Q := by
  obtain ⟨fr, fps, s, rel, hE⟩ := tG_in q
  refine tG_step rel and_l hE fun x s1 v H1 fps1 f1 e1 st1 rel1 r1 h1 => ?_
  split at h1
  · exact h1.elim
  · rename_i nb
    refine tG_step (R1 := rMs X.K) rel1 and_r h1 fun y s2 u H2 fps2 f2 e2 st2 rel2 r2 h2 => ?_
    have r1' := st2.keepM rel1.le (fun a => by simp only [Fp.add_at, Fp.zero_at]; omega) (fun z => (by
      cases hq : qts cs with
      | true => rfl
      | false => rw [z, hq] at nb; exact absurd rfl nb)) r1
    have ez : (0 : Fp) + f1 + f2 = f1 + f2 := by rw [Fp.zero_add]
    rw [ez] at rel2 h2 r2
    have r1'' : RepM X.K (cn (fr + (f1 + f2)) fps2) H2 x.1 x.2 v f1 := by rw [← ez]; exact r1'
    refine h2 (v :: u) H2 fps2 (f1 + f2) ⟨fun a => by have := rel2.le a; rw [Fp.add_at] at this; exact this, fun a z => rel2.lv a (by rw [Fp.add_at]; exact z), fun a z => .inl z, fun a o e _ => e⟩ rel2.sl ⟨v, u, f1, f2, rfl, r1'', r2, rfl⟩
theorem rA_cons (ha : PE X e (TEc X G W c)) (hr : PA X es (TAc X G W cs)) (hs : starEach (e :: es) X.env = (false, eval e X.env) :: starEach es X.env := by rfl) : PA X (e :: es) (TAc X G W (.cons c cs)) :=
  ⟨fun pos pins s σ H Q I q => (pa_cons ha hr hs).run pos pins s σ H Q I (cons_in σ H Q q)⟩
theorem r_tup {x1} (h : PA X es (TAc X G W cs)) : PE X (.Tuple es x1 pos) (TEc X G W (.tup cs)) :=
  (pe_tup h).imp fun σ H Q q => by
    obtain ⟨fr, fps, s, rel, hE⟩ := tG_in q
    refine tG_step (R1 := rMs X.K) rel id hE fun x s1 v H1 fps1 f1 e1 st1 rel1 r1 h1 => ?_
    split at h1
    · exact h1.elim
    · rename_i nb
      split at h1
      · rename_i hl
        have rr := fzs_of rel1 (fun a => by simp only [Fp.add_at, Fp.zero_at]; omega) (Bool.eq_false_iff.mpr nb) r1
        exact ⟨by rw [← RepMs.len r1]; exact okLen_le hl, fun p hp => EndG.newT rel1 h1 rr p hp⟩
      · exact h1.elim
end
end DV

set_option Elab.async false
set_option linter.all false
set_option maxRecDepth 100000
set_option maxHeartbeats 1000000
/-! DV9: the rules of expressions, III. -/
namespace DV
open PySem L2 PySem.Spec PyProof.Rows

section
variable {K : PySem.W.Frag} {mg : Str → Option Value} {W : WX} {q q1 : Bool} {fr f0 f : Fp} {fps : List Fp} {σ σ' : L2.St} {H H' : Hp} {s : En} {c c' : Fp} {Q : VK}
theorem RepMs.es : ∀ {vs : List MD} {us : List V} {f : Fp}, vs.all (fun v => decide (v.1 = .o1) || imm v.2) = true → RepMs K c H vs us f → RepEs K c H (vs.map (·.2)) us f
  | [], _, _, _, h => h
  | (m, d) :: vs, _, _, ha, ⟨v, r, g, h, e, h1, h2, ef⟩ => by
    rw [List.all_cons, Bool.and_eq_true] at ha
    refine ⟨v, r, g, h, e, ?_, RepMs.es ha.2 h2, ef⟩
    by_cases i : imm d = true
    · obtain rfl := RepM.scal h1 i
      exact .inl ⟨i, h1⟩
    · have hm : m = .o1 := by
        have := ha.1
        rw [Bool.eq_false_iff.mpr i, Bool.or_false] at this
        exact of_decide_eq_true this
      subst hm
      exact .inr ⟨Bool.eq_false_iff.mpr i, h1⟩
theorem EndG.new2 {ds : List MD} {vs : List V} (rel : Rel K (fr + f0) fps σ H s) (h : EndG (rM K) K mg W q fr fps f0 σ H (.ok (.o2, .list (ds.map (·.2))) s) Q) (ha : ds.all (fun v => decide (v.1 = .o1) || imm v.2) = true) (hf : ∀ a, f a ≤ f0 a)
    (r : RepMs K (cn (fr + f0) fps) H ds vs f) (p : Addr) (hp : H p = none) : Q (.ref p) (upd H p (.lst vs)) := by
  have z0 := rel.new0 hp
  rw [cn_zero, Fp.add_at] at z0
  refine EndG.own (f := single p + f) rel h (Grw.upd hp) (fun a z => ?_) (fun a => ?_) ⟨_, p, vs, f, rfl, rfl, upd_same, (RepMs.es ha r).mono ⟨fun a o e _ => Grw.upd hp a o e, fun a o e z => ?_⟩ fun a o _ e => Grw.upd hp a o e, rfl⟩
  · rw [Fp.add_at] at z
    by_cases e : a = p
    · subst e; exact .inr hp
    · rw [single_ne e] at z
      have := hf a
      left; omega
  · have h1 := rel.le a
    have h2 := hf a
    rw [Fp.add_at] at h1 ⊢
    by_cases e : a = p
    · subst e; rw [single_at]; omega
    · rw [single_ne e]; omega
  · have ne : a ≠ p := fun y => by subst y; rw [hp] at e; cases e
    have h2 := hf a
    rw [cn_zero, Fp.add_at] at z
    rw [cn_zero, Fp.add_at, Fp.add_at, single_ne ne]
    omega
end

section
variable {X : Cx} {G : List Info} {W : WX} {c ca cb cc : Ce} {cs : Ces} {a b e e1 e2 e3 : Expr} {es : List Expr} {pos p p2 : Pos}
theorem r_lst (h : PA X es (TAc X G W cs)) : PE X (.List es pos) (TEc X G W (.lst false cs)) :=
  (pe_lst h).imp fun σ H Q q => by
    obtain ⟨fr, fps, s, rel, hE⟩ := tG_in q
    refine tG_step (R1 := rMs X.K) rel id hE fun x s1 v H1 fps1 f1 e1 st1 rel1 r1 h1 => ?_
    split at h1
    · exact h1.elim
    · rename_i nb
      split at h1
      · rename_i hl
        have rr := fzs_of rel1 (fun a => by simp only [Fp.add_at, Fp.zero_at]; omega) (Bool.eq_false_iff.mpr nb) r1
        have h1' : EndG (rM X.K) X.K X.mg W _ fr fps1 (0 + f1) σ H1 (.ok (.o1, .list (x.map (·.2))) s1) Q := h1
        exact ⟨by rw [← RepMs.len r1]; exact okLen_le hl, fun p hp => EndG.newL rel1 h1' rr p hp⟩
      · exact h1.elim
theorem r_lst2 (h : PA X es (TAc X G W cs)) : PE X (.List es pos) (TEc X G W (.lst true cs)) :=
  (pe_lst h).imp fun σ H Q q => by
    obtain ⟨fr, fps, s, rel, hE⟩ := tG_in q
    refine tG_step (R1 := rMs X.K) rel id hE fun x s1 v H1 fps1 f1 e1 st1 rel1 r1 h1 => ?_
    split at h1
    · exact h1.elim
    · rename_i nb
      split at h1
      · rename_i hl
        have h1' : EndG (rM X.K) X.K X.mg W _ fr fps1 (0 + f1) σ H1 (if x.all (fun v => decide (v.1 = .o1) || imm v.2) = true then .ok (.o2, .list (x.map (·.2))) s1 else .no) Q := h1
        split at h1'
        · rename_i ha
          exact ⟨by rw [← RepMs.len r1]; exact okLen_le hl, fun p hp => EndG.new2 rel1 h1' ha (fun a => by simp only [Fp.add_at, Fp.zero_at]; omega) r1 p hp⟩
        · exact h1'.elim
      · exact h1.elim

/-! ### builtins -/
def biF : Bi → Value
  | .len => .builtin "len" | .abs => .builtin "abs" | .all => .builtin "all" | .any => .builtin "any" | .min => .builtin "min" | .max => .builtin "max" | .min2 => .builtin "min" | .max2 => .builtin "max" | .sum => .builtin "sum"
  | .int => .type "int" | .list => .type "list" | .tuple => .type "tuple"
  | _ => .none
def rBi (K : PySem.W.Frag) : Bi → List V → Hp → VK → Prop
  | .len => fun xs H Q => ∃ x n, xs = [x] ∧ LenV K x H n ∧ Q (.int n) H
  | .abs => fun xs H Q => ∃ i, xs = [.int i] ∧ Q (.int (if i < 0 then -i else i)) H
  | .int => fun xs H Q => (∃ i, xs = [.int i] ∧ Q (.int i) H) ∨ ∃ k, xs = [.bl k] ∧ Q (.int (if k then 1 else 0)) H
  | .all => rAll K | .any => rAny K | .min => rMinS K | .max => rMaxS K
  | .min2 => fun xs H Q => ∃ i j, xs = [.int i, .int j] ∧ Q (.int (if j < i then j else i)) H
  | .max2 => fun xs H Q => ∃ i j, xs = [.int i, .int j] ∧ Q (.int (if j > i then j else i)) H
  | .sum => rSum K
  | .list => fun xs H Q => ∃ p ys, xs = [.ref p] ∧ (SqL K H p ys ∨ SqT K H p ys) ∧ ∀ l, H l = none → Q (.ref l) (upd H l (.lst ys))
  | .tuple => fun xs H Q => ∃ p ys, xs = [.ref p] ∧ ((SqL K H p ys ∧ ∀ l, H l = none → Q (.ref l) (upd H l (.tup ys))) ∨ (SqT K H p ys ∧ Q (.ref p) H))
  | _ => fun _ _ _ => False
theorem cr_bi (hc : X.calm = true) : ∀ b, CallR X (biF b) (rBi X.K b)
  | .len => call_len | .abs => call_abs | .int => call_int1 | .all => cr_all hc | .any => cr_any hc | .min => cr_minS hc | .max => cr_maxS hc | .min2 => call_min2 hc | .max2 => call_max2 hc | .sum => cr_sum hc
  | .list => call_list_of | .tuple => call_tuple_of
  | .listRg => fun _ _ _ _ _ _ _ _ _ h => h.elim | .tupRg => fun _ _ _ _ _ _ _ _ _ h => h.elim | .lenSet => fun _ _ _ _ _ _ _ _ _ h => h.elim | .listRev => fun _ _ _ _ _ _ _ _ _ h => h.elim
section
variable {K : PySem.W.Frag} {mg : Str → Option Value} {q : Bool} {fr f0 f : Fp} {fps : List Fp} {σ : L2.St} {H : Hp} {s : En} {Q : VK} {cn' : Fp}
theorem one_of {vs : List MD} {d : D} {us : List V} (e : vs.map (·.2) = [d]) (r : RepMs K cn' H vs us f) : ∃ m u g, us = [u] ∧ RepM K cn' H m d u g ∧ (vs.any (·.1.is2) = false → m.is2 = false) := by
  cases vs with
  | nil => cases e
  | cons x r' =>
    cases r' with
    | cons y z => cases e
    | nil =>
      obtain ⟨m, d'⟩ := x
      cases e
      obtain ⟨v, r, g, h, eu, h1, ⟨h2, _⟩, _⟩ := r
      subst h2
      exact ⟨m, v, g, eu, h1, fun z => by rw [List.any_cons, List.any_nil, Bool.or_false] at z; exact z⟩
theorem two_of {vs : List MD} {d d' : D} {us : List V} (e : vs.map (·.2) = [d, d']) (r : RepMs K cn' H vs us f) : ∃ m u g m' u' g', us = [u, u'] ∧ RepM K cn' H m d u g ∧ RepM K cn' H m' d' u' g' := by
  cases vs with
  | nil => cases e
  | cons x r' =>
    cases r' with
    | nil => cases e
    | cons y z =>
      cases z with
      | cons _ _ => cases e
      | nil =>
        obtain ⟨m, d1⟩ := x
        obtain ⟨m', d2⟩ := y
        cases e
        obtain ⟨v, r, g, h, eu, h1, ⟨v', r', g', h', eu', h1', ⟨h2, _⟩, _⟩, _⟩ := r
        subst h2
        subst eu'
        exact ⟨m, v, g, m', v', g', eu, h1, h1'⟩
theorem bi_ok {b : Bi} {vs : List MD} {us : List V} (rel : Rel K (fr + f0) fps σ H s) (h : EndG (rM K) K mg W q fr fps f0 σ H (ofO (biD b (vs.map (·.2))) s) Q) (r : RepMs K (cn (fr + f0) fps) H vs us f)
    (n2 : vs.any (·.1.is2) = true → b = .len) (hx : b ≠ .listRg ∧ b ≠ .tupRg ∧ b ≠ .lenSet) : rBi K b us H Q := by
  cases e : biD b (vs.map (·.2)) with
  | none => rw [e] at h; exact h.elim
  | some md =>
    rw [e] at h
    have h' : EndG (rM K) K mg W q fr fps f0 σ H (.ok md s) Q := h
    have n2' : b ≠ .len → vs.any (·.1.is2) = false := fun z => Bool.eq_false_iff.mpr fun y => z (n2 y)
    unfold biD at e
    split at e
    · rename_i xs hd
      cases e
      obtain ⟨m, u, g, rfl, r1, _⟩ := one_of hd r
      obtain ⟨a, vs', ea, hs, hl⟩ := r1.seq
      subst ea
      exact ⟨_, _, rfl, .inl ⟨vs', hs, hl⟩, EndG.int rel h'⟩
    · rename_i xs hd
      cases e
      obtain ⟨m, u, g, rfl, r1, _⟩ := one_of hd r
      obtain ⟨a, vs', ea, hs, hl⟩ := r1.seqT
      subst ea
      exact ⟨_, _, rfl, .inr ⟨vs', hs, hl⟩, EndG.int rel h'⟩
    · rename_i i hd
      cases e
      obtain ⟨m, u, g, rfl, r1, _⟩ := one_of hd r
      exact ⟨i, by rw [r1.int], EndG.int rel h'⟩
    · rename_i i hd
      cases e
      obtain ⟨m, u, g, rfl, r1, _⟩ := one_of hd r
      exact .inl ⟨i, by rw [r1.int], EndG.int rel h'⟩
    · rename_i i hd
      cases e
      obtain ⟨m, u, g, rfl, r1, _⟩ := one_of hd r
      exact .inr ⟨i, by rw [r1.bl], EndG.int rel h'⟩
    · rename_i xs hd
      obtain ⟨bs, hb, e⟩ := Option.map_eq_some_iff.mp e
      subst e
      obtain ⟨m, u, g, rfl, r1, z⟩ := one_of hd r
      obtain ⟨a, vs', ea, hs, rr⟩ := r1.items (z (n2' (by decide)))
      subst ea
      exact ⟨a, bs, rfl, by rw [← rr.bools hb]; exact hs, EndG.bl rel h'⟩
    · rename_i xs hd
      obtain ⟨bs, hb, e⟩ := Option.map_eq_some_iff.mp e
      subst e
      obtain ⟨m, u, g, rfl, r1, z⟩ := one_of hd r
      obtain ⟨a, vs', ea, hs, rr⟩ := r1.items (z (n2' (by decide)))
      subst ea
      exact ⟨a, bs, rfl, by rw [← rr.bools hb]; exact hs, EndG.bl rel h'⟩
    · rename_i xs hd
      obtain ⟨ns, hb, e⟩ := Option.bind_eq_some_iff.mp e
      split at e
      · rename_i hl
        cases e
        obtain ⟨m, u, g, rfl, r1, z⟩ := one_of hd r
        obtain ⟨a, vs', ea, hs, rr⟩ := r1.items (z (n2' (by decide)))
        subst ea
        refine ⟨a, ns, rfl, .inl (by rw [← rr.ints hb]; exact hs), hl, fun m h1 h2 => ?_⟩
        rw [minI_one h1 h2]; exact EndG.int rel h'
      · cases e
    · rename_i xs hd
      obtain ⟨ns, hb, e⟩ := Option.bind_eq_some_iff.mp e
      split at e
      · rename_i hl
        cases e
        obtain ⟨m, u, g, rfl, r1, z⟩ := one_of hd r
        obtain ⟨a, vs', ea, hs, rr⟩ := r1.items (z (n2' (by decide)))
        subst ea
        refine ⟨a, ns, rfl, .inl (by rw [← rr.ints hb]; exact hs), hl, fun m h1 h2 => ?_⟩
        rw [maxI_one h1 h2]; exact EndG.int rel h'
      · cases e
    · rename_i xs hd
      obtain ⟨ns, hb, e⟩ := Option.bind_eq_some_iff.mp e
      split at e
      · rename_i hl
        cases e
        obtain ⟨m, u, g, rfl, r1, z⟩ := one_of hd r
        obtain ⟨a, vs', ea, hs, rr⟩ := r1.itemsT
        subst ea
        refine ⟨a, ns, rfl, .inr (by rw [← rr.ints hb]; exact hs), hl, fun m h1 h2 => ?_⟩
        rw [minI_one h1 h2]; exact EndG.int rel h'
      · cases e
    · rename_i xs hd
      obtain ⟨ns, hb, e⟩ := Option.bind_eq_some_iff.mp e
      split at e
      · rename_i hl
        cases e
        obtain ⟨m, u, g, rfl, r1, z⟩ := one_of hd r
        obtain ⟨a, vs', ea, hs, rr⟩ := r1.itemsT
        subst ea
        refine ⟨a, ns, rfl, .inr (by rw [← rr.ints hb]; exact hs), hl, fun m h1 h2 => ?_⟩
        rw [maxI_one h1 h2]; exact EndG.int rel h'
      · cases e
    · rename_i i j hd
      cases e
      obtain ⟨m, u, g, m', u', g', rfl, r1, r2⟩ := two_of hd r
      exact ⟨i, j, by rw [r1.int, r2.int], EndG.int rel h'⟩
    · rename_i i j hd
      cases e
      obtain ⟨m, u, g, m', u', g', rfl, r1, r2⟩ := two_of hd r
      exact ⟨i, j, by rw [r1.int, r2.int], EndG.int rel h'⟩
    · rename_i xs hd
      obtain ⟨ns, hb, e⟩ := Option.map_eq_some_iff.mp e
      subst e
      obtain ⟨m, u, g, rfl, r1, z⟩ := one_of hd r
      obtain ⟨a, vs', ea, hs, rr⟩ := r1.items (z (n2' (by decide)))
      subst ea
      exact ⟨a, ns, rfl, by rw [← rr.ints hb]; exact hs, EndG.int rel h'⟩
    · rename_i xs hd
      cases e
      obtain ⟨m, u, g, rfl, r1, z⟩ := one_of hd r
      obtain ⟨a, vs', ea, hs, rr⟩ := r1.items (z (n2' (by decide)))
      subst ea
      exact ⟨a, vs', rfl, .inl hs, fun p hp => EndG.newL rel h' (lesss_of rr) p hp⟩
    · rename_i xs hd
      cases e
      obtain ⟨m, u, g, rfl, r1, z⟩ := one_of hd r
      obtain ⟨a, vs', ea, hs, rr⟩ := r1.itemsT
      subst ea
      exact ⟨a, vs', rfl, .inr hs, fun p hp => EndG.newL rel h' (lesss_of rr) p hp⟩
    · rename_i xs hd
      cases e
      obtain ⟨m, u, g, rfl, r1, z⟩ := one_of hd r
      obtain ⟨a, vs', ea, hs, rr⟩ := r1.items (z (n2' (by decide)))
      subst ea
      exact ⟨a, vs', rfl, .inl ⟨hs, fun p hp => EndG.newT rel h' (lesss_of rr) p hp⟩⟩
    · rename_i xs hd
      cases e
      obtain ⟨m, u, g, rfl, r1, z⟩ := one_of hd r
      have rt := r1.tup
      obtain ⟨a, vs', ea, hs, rr⟩ := r1.itemsT
      subst ea
      exact ⟨a, vs', rfl, .inr ⟨hs, EndG.fz0 rel h' Grw.refl rt⟩⟩
    · exact absurd rfl hx.1
    · exact absurd rfl hx.2.1
    · exact absurd rfl hx.2.2
    · cases e
end
theorem bi_in {b : Bi} (hx : b ≠ .listRg ∧ b ≠ .tupRg ∧ b ≠ .lenSet) (σ : L2.St) (H : Hp) (Q : VK) (q : TEc X G W (.bi b cs) σ H Q) : tCB (rBi X.K b) (TAc X G W cs) σ H Q := by
  obtain ⟨fr, fps, s, rel, hE⟩ := tG_in q
  refine tG_step (R1 := rMs X.K) rel id hE fun x s1 v H1 fps1 f1 e1 st1 rel1 r1 h1 => ?_
  split at h1
  · exact h1.elim
  · rename_i nb
    refine bi_ok rel1 h1 r1 (fun z => ?_) hx
    rw [z, Bool.true_and, decide_eq_true_eq] at nb
    exact Decidable.not_not.mp nb
theorem r_biB {b : Bi} {id : String} {x : Str} (hc : X.calm = true) (hg : Gl X x) (hm : X.mg x = none) (ha : PA X (e :: es) (TAc X G W cs)) (hv : bootBuiltins x = some (.builtin id) := by rfl) (hf : biF b = .builtin id := by rfl) (hx : b ≠ .listRg ∧ b ≠ .tupRg ∧ b ≠ .lenSet := by decide)
    (hn : x ≠ "__name__" := by decide) (hdb : (x == ("__debug__" : Str)) = false := by decide) (he : starEach (e :: es) X.env = (false, eval e X.env) :: starEach es X.env := by rfl) (hpl : (backTo pos (starEach es X.env)).any (·.1) = false := by rfl) :
    PE X (.Call (.Name x p) (e :: es) [] pos) (TEc X G W (.bi b cs)) := (pe_callB (by rw [← hf]; exact cr_bi hc b) hg hm hv ha hn hdb he hpl).imp (bi_in hx)
theorem r_biT {b : Bi} {T : String} {x : Str} (hc : X.calm = true) (hg : Gl X x) (hm : X.mg x = none) (ha : PA X (e :: es) (TAc X G W cs)) (hv : bootBuiltins x = some (.type T) := by rfl) (hf : biF b = .type T := by rfl) (hx : b ≠ .listRg ∧ b ≠ .tupRg ∧ b ≠ .lenSet := by decide)
    (hn : x ≠ "__name__" := by decide) (hdb : (x == ("__debug__" : Str)) = false := by decide) (he : starEach (e :: es) X.env = (false, eval e X.env) :: starEach es X.env := by rfl) (hpl : (backTo pos (starEach es X.env)).any (·.1) = false := by rfl) :
    PE X (.Call (.Name x p) (e :: es) [] pos) (TEc X G W (.bi b cs)) := (pe_callTy (by rw [← hf]; exact cr_bi hc b) hg hm hv ha hn hdb he hpl).imp (bi_in hx)
end
end DV

set_option Elab.async false
set_option linter.all false
set_option maxRecDepth 100000
set_option maxHeartbeats 1000000
/-! DV10: the rules of expressions, IV. -/
namespace DV
open PySem L2 PySem.Spec PyProof.Rows

section
variable {K : PySem.W.Frag} {mg : Str → Option Value} {W : WX} {q q1 : Bool} {fr f0 f fi fi' : Fp} {fps : List Fp} {σ σ' : L2.St} {H H' : Hp} {s : En} {c c' : Fp} {Q : VK} {i : Nat} {p : Addr}
theorem RepEs.chg : ∀ {ds : List D} {vs : List V} {f : Fp} {i : Nat} {d : D}, RepEs K c H ds vs f → ds[i]? = some d → (∀ a, f a ≤ 1) → ∃ v g h, vs[i]? = some v ∧ RepE K c H d v g ∧ (∀ a, f a = g a + h a) ∧
    ∀ (c' : Fp) (H' : Hp) (q : Addr) (d' : D) (g' : Fp), 0 < g q → Kp c c' H H' → (∀ a, a ≠ q → H' a = H a) → RepE K c' H' d' v g' → RepEs K c' H' (ds.set i d') vs (g' + h)
  | [], _, _, i, d, _, h, _ => by simp at h
  | x :: xs, _, _, 0, d, ⟨v, r, g, h, e, h1, h2, ef⟩, q, le => by
    have z : x = d := Option.some.inj q
    subst z e ef
    refine ⟨v, g, h, rfl, h1, fun a => rfl, fun c' H' q d' g' hq k hH hr => ⟨v, r, g', h, rfl, hr, h2.mono k fun a o z e => ?_, rfl⟩⟩
    rw [hH a fun y => by subst y; have := le a; rw [Fp.add_at] at this; omega]; exact e
  | x :: xs, _, _, i + 1, d, ⟨v, r, g, h, e, h1, h2, ef⟩, q, le => by
    subst e ef
    obtain ⟨w, gw, hw, e1, e2, e3, e4⟩ := RepEs.chg (i := i) h2 q fun a => by have := le a; rw [Fp.add_at] at this; omega
    refine ⟨w, gw, g + hw, e1, e2, fun a => ?_, fun c' H' q d' g' hq k hH hr => ⟨v, r, g, g' + hw, rfl, h1.mono k fun a o z e => ?_, e4 c' H' q d' g' hq k hH hr, ?_⟩⟩
    · have := e3 a
      show g a + h a = gw a + (g a + hw a)
      omega
    · rw [hH a fun y => by subst y; have := le a; have := e3 a; rw [Fp.add_at] at *; omega]; exact e
    · exact Fp.ext fun a => by show g' a + (g a + hw a) = g a + (g' a + hw a); omega
/-- a slot's owned thing is changed, at p -/
theorem chg_kp (rel : Rel K (fr + f0) fps σ H s) (ei : fps[i]? = some fi) (hp : 0 < fi p) (hH : ∀ a, a ≠ p → H' a = H a) (hf : ∀ a, fi' a ≤ fi a + f0 a) : Kp (cn (fr + f0) fps) (cn fr (fps.set i fi')) H H' := by
  have ts := fun a => tot_set fi' a ei
  refine ⟨fun a o e z => ?_, fun a o e z => ?_⟩
  · rw [hH a fun y => ?_]; exact e
    subst y
    have := tot_le a ei
    rw [cn_zero] at z
    omega
  · rw [cn_zero, Fp.add_at] at z
    rw [cn_zero]
    have := ts a
    have := hf a
    omega
theorem chg {m' : Md} {d' : D} {v : V} (rel : Rel K (fr + f0) fps σ H s) (ei : fps[i]? = some fi) (hp : 0 < fi p) (hH : ∀ a, a ≠ p → H' a = H a) (hHp : H' p ≠ none) (hf : ∀ a, fi' a ≤ fi a + f0 a) (hv : σ[i]? = some (some v)) (nb : m'.isB = false)
    (r : RepM K (cn fr (fps.set i fi')) H' m' d' v fi') : Stp false fr fps f0 H H' (fps.set i fi') 0 ∧ Slots K (cn fr (fps.set i fi')) σ H' (s.set i (some (m', d'))) (fps.set i fi') := by
  have ts := fun a => tot_set fi' a ei
  have k := chg_kp rel ei hp hH hf
  refine ⟨⟨fun a => ?_, fun a z => ?_, fun a z => ?_, fun a o e z => ?_⟩, ?_, ?_, fun j m d e => ?_⟩
  · have := ts a
    have := hf a
    have h := rel.le a
    rw [Fp.add_at] at h
    show fr a + 0 + _ ≤ 1
    omega
  · by_cases e : a = p
    · subst e; exact hHp
    · rw [hH a e]
      have z' : 0 < fr a + 0 + tot (fps.set i fi') a := z
      have := ts a
      have := hf a
      exact rel.lv a (by rw [Fp.add_at]; omega)
  · have z' : 0 < 0 + tot (fps.set i fi') a := z
    have := ts a
    have := hf a
    have := tot_le a ei
    left; omega
  · rw [hH a fun y => ?_]; exact e
    subst y
    have := tot_le a ei
    rcases z with z | z
    · cases z
    · omega
  · rw [List.length_set, List.length_set]; exact rel.sl.ln
  · rw [List.length_set]; exact rel.sl.ls
  · by_cases z : j = i
    · subst z
      have hlt : j < s.length := by
        by_cases y : j < s.length
        · exact y
        · rw [List.getElem?_eq_none (by rw [List.length_set]; omega)] at e; cases e
      rw [List.getElem?_set_self hlt] at e
      cases e
      exact ⟨v, fi', hv, List.getElem?_set_self (by rw [← rel.sl.ln]; exact hlt), nb, r⟩
    · rw [List.getElem?_set_ne (Ne.symm z)] at e
      rw [List.getElem?_set_ne (Ne.symm z)]
      obtain ⟨u, fj, e1, e2, e3, e4⟩ := rel.sl.at_ j m d e
      refine ⟨u, fj, e1, e2, e3, e4.mono k fun a o eo y => ?_⟩
      rcases y with y | y
      · rw [hH a fun y' => ?_]; exact eo
        subst y'
        have := tot_le2 a z e2 ei
        have h := rel.le a
        omega
      · rw [e3] at y; cases y
theorem EndG.chg {m' : Md} {d' dr : D} {v u : V} (rel : Rel K (fr + f0) fps σ H s) (h : EndG (rM K) K mg W false fr fps f0 σ H (.ok (fzv dr) (s.set i (some (m', d')))) Q) (ei : fps[i]? = some fi) (hp : 0 < fi p) (hH : ∀ a, a ≠ p → H' a = H a) (hHp : H' p ≠ none)
    (hf : ∀ a, fi' a ≤ fi a + f0 a) (hv : σ[i]? = some (some v)) (nb : m'.isB = false) (r : RepM K (cn fr (fps.set i fi')) H' m' d' v fi') (hr : Rep K (cn fr (fps.set i fi')) H' dr u) : Q u H' := by
  obtain ⟨st, sl⟩ := DV.chg rel ei hp hH hHp hf hv nb r
  exact h u H' _ 0 st (by rw [Fp.add_zero]; exact sl) ⟨by rw [Fp.add_zero]; exact hr, rfl⟩
theorem ownedL_1 {m : Md} {xs : List D} (h : ownedL i s = some (m, xs)) : s[i]? = some (some (m, .list xs)) := by
  unfold ownedL at h
  split at h
  · rename_i e; cases h; exact e
  · rename_i e; cases h; exact e
  · cases h
theorem lastPop_1 {xs : List D} {d : D} {r : List D} (h : lastPop xs = some (d, r)) : xs[xs.length - 1]? = some d ∧ r = xs.dropLast := by
  cases xs with
  | nil => cases h
  | cons x xs =>
    cases h
    rw [← List.getLast?_eq_getElem?]
    exact ⟨List.getLast?_eq_some_getLast _, rfl⟩
theorem _root_.DV.Reps.dropLast {ds : List D} {vs : List V} (h : Reps K c H ds vs) : Reps K c H ds.dropLast vs.dropLast := by
  rw [List.dropLast_eq_take, List.dropLast_eq_take, h.len]
  exact h.take _
theorem hasE_v {b : Fp} (sl : Slots K c σ H s fps) (h : hasE s i = true) : ∃ v, σ[i]? = some (some v) := by
  unfold hasE at h
  split at h
  · rename_i x e
    obtain ⟨m, d⟩ := x
    obtain ⟨v, f, e1, _⟩ := sl.at_ i m d e
    exact ⟨v, e1⟩
  · cases h
end

section
variable {X : Cx} {G : List Info} {W : WX} {c ca cb cc : Ce} {cs : Ces} {a b e e1 e2 e3 : Expr} {es : List Expr} {pos p p2 : Pos}
theorem pv_at {i : Nat} {x : Str} (hN : X.N[i]? = some x) (hv : Vis X.env.scope x) (hd : (x == ("__debug__" : Str)) = false := by decide) (hcd : (x == ("__classdict__" : Str)) = false := by decide) : PE X (.Name x pos) (tVar i) := pe_var hN hv hd hcd
/-- x.pop() -/
theorem r_pop {i : Nat} {o : Expr} {apos : Pos} (ho : PE X o (tVar i)) (hbase : attributeBase o "pop" X.env (eval o X.env) = eval o X.env := by rfl) (hline : (apos.endLine == pos.line) = true := by rfl) :
    PE X (.Call (.Attribute o "pop" apos) [] [] pos) (TEc X G W (.pop i)) :=
  (pe_bm0 PySem.F.plainAttrs_list PySem.F.slot_list_pop PySem.F.type_list_pop mt_pop ho hbase hline).imp fun σ H Q q => by
    obtain ⟨fr, fps, s, rel, hE⟩ := tG_in q
    have hE' : EndG (rM X.K) X.K X.mg W false fr fps 0 σ H (match ownedL i s with
      | some (.o1, xs) => match lastPop xs with
        | some (x, r) => .ok (fzv x) (s.set i (some (.o1, .list r)))
        | none => .no
      | _ => .no) Q := hE
    split at hE'
    · rename_i xs e
      split at hE'
      · rename_i d r el
        obtain ⟨v, f, e1, e2, e3, p, ⟨ev, vs, hv, rr⟩, ef⟩ := rel.sl.at_ i _ _ (ownedL_1 e)
        subst ev ef
        obtain ⟨hl, er⟩ := lastPop_1 el
        obtain ⟨w, hw, rw_⟩ := rr.get hl
        have hH : ∀ a, a ≠ p → upd H p (.lst vs.dropLast) a = H a := fun a h => upd_ne h
        have k := chg_kp (fi' := single p) rel e2 (by rw [single_at]; exact Nat.one_pos) hH fun a => by omega
        refine ⟨_, e1, .inl ⟨rfl, vs, .of hv⟩, p, vs, w, rfl, rfl, hv, by rw [← rr.len]; exact hw, ?_⟩
        refine EndG.chg (fi' := single p) rel hE' e2 (by rw [single_at]; exact Nat.one_pos) hH (by rw [upd_same]; exact fun z => nomatch z) (fun a => by omega) e1 rfl ⟨p, ⟨rfl, _, upd_same, ?_⟩, rfl⟩ (Rep.mono k _ _ rw_)
        rw [er]
        exact (Reps.mono k _ _ rr).dropLast
      · exact hE'.elim
    · exact hE'.elim
/-- x[j].pop() -/
theorem r_pop2 {i : Nat} {o : Expr} {apos : Pos} (ho : PE X o (tVar i)) (hj : PE X b (TEc X G W cb)) (hs : PlainIx b := by intro _ _; rfl) (hbase : attributeBase (.Subscript o b p) "pop" X.env (eval (.Subscript o b p) X.env) = eval (.Subscript o b p) X.env := by rfl) (hline : (apos.endLine == pos.line) = true := by rfl) :
    PE X (.Call (.Attribute (.Subscript o b p) "pop" apos) [] [] pos) (TEc X G W (.pop2 i cb)) :=
  (pe_bm0 PySem.F.plainAttrs_list PySem.F.slot_list_pop PySem.F.type_list_pop mt_pop (pe_ix ix_list ho hj hs) hbase hline).imp fun σ H Q q => by
    obtain ⟨fr, fps, s, rel, hE⟩ := tG_in q
    have hE' : EndG (rM X.K) X.K X.mg W false fr fps 0 σ H (if (qt cb && hasE s i) = true then (ev G cb s).bind fun k s1 => match k.2, ownedL i s1 with
      | .int k, some (.o2, xs) => match ixI xs.length k with
        | none => .no
        | some n => match xs[n]? with
          | some (.list ys) => match lastPop ys with
            | some (y, r) => .ok (fzv y) (s1.set i (some (.o2, .list (xs.set n (.list r)))))
            | none => .no
          | _ => .no
      | _, _ => .no
      else .no) Q := hE
    split at hE'
    · rename_i hq
      rw [Bool.and_eq_true] at hq
      obtain ⟨v, hσ⟩ := hasE_v (b := 0) rel.sl hq.2
      refine ⟨v, hσ, ?_⟩
      refine tG_step (q := false) rel (fun z => Bool.noConfusion z) hE' fun x s1 u H1 fps1 f1 ee st1 rel1 r1 h1 => ?_
      split at h1
      · rename_i kk xs ek e
        split at h1
        · exact h1.elim
        · rename_i n hn
          split at h1
          · rename_i ys hys
            split at h1
            · rename_i d r el
              obtain ⟨v', f, e1, e2, e3, xs', p, vs, g, exs, ev, hv, rr, ef⟩ := rel1.sl.at_ i _ _ (ownedL_1 e)
              cases exs
              rw [hσ] at e1
              cases e1
              subst ev ef
              have le1 : ∀ a, g a ≤ 1 := fun a => by
                have := tot_le a e2
                have h := rel1.le a
                rw [Fp.add_at (single p)] at this
                omega
              obtain ⟨w, gi, gh, hw, re, eg, up⟩ := rr.chg hys le1
              rcases re with ⟨im, _⟩ | ⟨_, l, ⟨ew, zs, hz, rz⟩, egi⟩
              · cases im
              · subst ew egi
                obtain ⟨hl, er⟩ := lastPop_1 el
                obtain ⟨y, hy, ry⟩ := rz.get hl
                have gl : 0 < single l l := by rw [single_at]; exact Nat.one_pos
                have hfl : 0 < (single p + g) l := by rw [Fp.add_at]; have := eg l; omega
                have hH : ∀ a, a ≠ l → upd H1 l (.lst zs.dropLast) a = H1 a := fun a h => upd_ne h
                have k := chg_kp (fi' := single p + g) rel1 e2 hfl hH fun a => by omega
                have pl : p ≠ l := fun z => by
                  subst z
                  have := tot_le p e2
                  have h := rel1.le p
                  rw [Fp.add_at (single p), single_at] at this
                  have := eg p
                  rw [single_at] at this
                  omega
                have hu : u = .int kk := (show RepM X.K _ H1 x.1 (.int kk) u f1 from by rw [← ek]; exact r1).int
                refine ⟨p, vs, kk, .ref l, rfl, hu, .of hv, ?_, .inl ⟨rfl, zs, .of hz⟩, l, zs, y, rfl, rfl, hz, by rw [← rz.len]; exact hy, ?_⟩
                · unfold atI
                  rw [← rr.len, ← ixI_eq, hn]
                  exact hw
                · have eg' : single l + gh = g := Fp.ext fun a => (eg a).symm
                  refine EndG.chg (fi' := single p + g) rel1 h1 e2 hfl hH (by rw [upd_same]; exact fun z => nomatch z) (fun a => by omega) hσ rfl ⟨_, p, vs, g, rfl, rfl, ?_, ?_, rfl⟩ (Rep.mono k _ _ ry)
                  · rw [upd_ne pl]; exact hv
                  · rw [← eg'] at k ⊢
                    refine up _ _ l _ (single l) gl k hH (.inr ⟨rfl, l, ⟨rfl, _, upd_same, ?_⟩, rfl⟩)
                    rw [er]
                    exact (Reps.mono k _ _ rz).dropLast
            · exact h1.elim
          · exact h1.elim
      · exact h1.elim
    · exact hE'.elim
end
end DV

set_option Elab.async false
set_option linter.all false
set_option maxRecDepth 100000
set_option maxHeartbeats 1000000
/-! DV11: the rules of expressions, V. -/
namespace DV
open PySem L2 PySem.Spec PyProof.Rows

section
variable {X : Cx} {G : List Info} {W : WX} {c ca cb cc : Ce} {cs : Ces} {a b e e1 e2 e3 : Expr} {es : List Expr} {pos p p2 q2 : Pos}
theorem evs_one (s : En) : evs G (.cons c .nil) s = (ev G c s).bind fun x s1 => .ok [x] s1 := by
  show ((ev G c s).bind fun x s1 => if (x.1.isB && !qts .nil) = true then .no else (evs G .nil s1).bind fun xs s2 => .ok (x :: xs) s2) = _
  cases ev G c s with
  | ok x s1 =>
    show (if (x.1.isB && false) = true then Rs.no else _) = _
    rw [Bool.and_false]
    rfl
  | exc x s => rfl
  | no => rfl
theorem bi_one {b : Bi} (s : En) : ev G (.bi b (.cons c .nil)) s = (ev G c s).bind fun x s1 => if (x.1.is2 && decide (b ≠ .len)) = true then .no else ofO (biD b [x.2]) s1 := by
  show ((evs G (.cons c .nil) s).bind fun vs s1 => if (vs.any (·.1.is2) && decide (b ≠ .len)) = true then .no else ofO (biD b (vs.map (·.2))) s1) = _
  rw [evs_one, Rs.bind_assoc]
  cases ev G c s with
  | ok x s1 =>
    show (if ([x].any (·.1.is2) && _) = true then Rs.no else _) = _
    rw [List.any_cons, List.any_nil, Bool.or_false]
    rfl
  | exc x s => rfl
  | no => rfl
theorem qt1 : qt (.bi b' (.cons c .nil)) = qt c := Bool.and_true _
theorem r_lenSet (hg : Gl X "len") (hm : X.mg "len" = none) (hg2 : Gl X "set") (hm2 : X.mg "set" = none) (ha : PE X a (TEc X G W c)) (hc : X.calm = true)
    (na : starEach [a] X.env = (false, eval a X.env) :: starEach [] X.env := by rfl) : PE X (.Call (.Name "len" p) [.Call (.Name "set" p2) [a] [] q2] [] pos) (TEc X G W (.bi .lenSet (.cons c .nil))) :=
  (pe_lenSet hg hm hg2 hm2 ha hc na).imp fun σ H Q q => by
    obtain ⟨fr, fps, s, rel, hE⟩ := tG_in q
    rw [bi_one, qt1] at hE
    refine tG_step rel id hE fun x s1 v H1 fps1 f1 e1 st1 rel1 r1 h1 => ?_
    obtain ⟨m, d⟩ := x
    split at h1
    · exact h1.elim
    · rename_i n2
      cases d with
      | list xs =>
        have h1' : EndG (rM X.K) X.K X.mg W _ fr fps1 (0 + f1) σ H1 (ofO ((intsD xs).bind fun ns => if ns.length ≤ 4000 then some (fzv (.int (dedI ns).length)) else none) s1) Q := h1
        cases ei : intsD xs with
        | none => rw [ei] at h1'; exact h1'.elim
        | some ns =>
          rw [ei, Option.bind_some] at h1'
          split at h1'
          · rename_i hl
            obtain ⟨l, vs, ea, hs, rr⟩ := RepM.items (by
              have := Bool.eq_false_iff.mpr n2
              rw [show decide (Bi.lenSet ≠ .len) = true from rfl, Bool.and_true] at this
              exact this) r1
            exact ⟨l, ns, ea, by rw [← rr.ints ei]; exact hs, hl, EndG.int rel1 h1'⟩
          · exact h1'.elim
      | none => exact h1.elim
      | bool _ => exact h1.elim
      | int _ => exact h1.elim
      | str _ => exact h1.elim
      | tuple _ => exact h1.elim
      | dict _ => exact h1.elim
theorem okRg_is {a b : Int} (h : okRg a b = true) : RgOk a b := by
  obtain ⟨h1, h2, h3, h4, h5⟩ := of_decide_eq_true h
  exact ⟨h1, h2, h3, h4, h5⟩
theorem reps_range {K : PySem.W.Frag} {c : Fp} {H : Hp} (a b : Int) : Reps K c H (rangeD a b) (rgV a b) := by
  have := Reps.of_ints (K := K) (c := c) (H := H) ((List.range (b - a).toNat).map fun (i : Nat) => a + (i : Int))
  rw [List.map_map, List.map_map] at this
  exact this
theorem r_listRg (hc : X.calm = true) (hg : Gl X "list") (hm : X.mg "list" = none) (hg2 : Gl X "range") (hm2 : X.mg "range" = none) (ha : PE X a (TEc X G W c)) (na : starEach [a] X.env = (false, eval a X.env) :: starEach [] X.env := by rfl) :
    PE X (.Call (.Name "list" p) [.Call (.Name "range" p2) [a] [] q2] [] pos) (TEc X G W (.bi .listRg (.cons c .nil))) :=
  (pe_listRg hc hg hm (prg_1 hg2 hm2 ha na)).imp fun σ H Q q => by
    obtain ⟨fr, fps, s, rel, hE⟩ := tG_in q
    rw [bi_one, qt1] at hE
    refine tG_step rel id hE fun x s1 v H1 fps1 f1 e1 st1 rel1 r1 h1 => ?_
    obtain ⟨m, d⟩ := x
    split at h1
    · exact h1.elim
    · cases d with
      | int i =>
        have h1' : EndG (rM X.K) X.K X.mg W _ fr fps1 (0 + f1) σ H1 (ofO (if okRg 0 i = true then some (.o1, .list (rangeD 0 i)) else none) s1) Q := h1
        split at h1'
        · rename_i ok
          exact ⟨i, RepM.int r1, okRg_is ok, fun q hq => EndG.newL rel1 h1' (reps_range 0 i) q hq⟩
        · exact h1'.elim
      | none => exact h1.elim
      | bool _ => exact h1.elim
      | list _ => exact h1.elim
      | str _ => exact h1.elim
      | tuple _ => exact h1.elim
      | dict _ => exact h1.elim
theorem r_tupRg (hc : X.calm = true) (hg : Gl X "tuple") (hm : X.mg "tuple" = none) (hg2 : Gl X "range") (hm2 : X.mg "range" = none) (ha : PE X a (TEc X G W c)) (na : starEach [a] X.env = (false, eval a X.env) :: starEach [] X.env := by rfl) :
    PE X (.Call (.Name "tuple" p) [.Call (.Name "range" p2) [a] [] q2] [] pos) (TEc X G W (.bi .tupRg (.cons c .nil))) :=
  (pe_tupRg hc hg hm (prg_1 hg2 hm2 ha na)).imp fun σ H Q q => by
    obtain ⟨fr, fps, s, rel, hE⟩ := tG_in q
    rw [bi_one, qt1] at hE
    refine tG_step rel id hE fun x s1 v H1 fps1 f1 e1 st1 rel1 r1 h1 => ?_
    obtain ⟨m, d⟩ := x
    split at h1
    · exact h1.elim
    · cases d with
      | int i =>
        have h1' : EndG (rM X.K) X.K X.mg W _ fr fps1 (0 + f1) σ H1 (ofO (if okRg 0 i = true then some (fzv (.tuple (rangeD 0 i))) else none) s1) Q := h1
        split at h1'
        · rename_i ok
          exact ⟨i, RepM.int r1, okRg_is ok, fun q hq => EndG.newT rel1 h1' (reps_range 0 i) q hq⟩
        · exact h1'.elim
      | none => exact h1.elim
      | bool _ => exact h1.elim
      | list _ => exact h1.elim
      | str _ => exact h1.elim
      | tuple _ => exact h1.elim
      | dict _ => exact h1.elim

/-! ### isinstance -/
def tTys (ts : List Ty) : TA := fun _ H Q => Q (ts.map fun t => V.ty (tyS t)) H
theorem rTy_nil : PA X [] (tTys []) := pa_nil
theorem r_ty {t : Ty} {x : Str} (hg : Gl X x) (hm : X.mg x = none) (hv : bootBuiltins x = some (.type (tyS t)) := by rfl) (hn : x ≠ "__name__" := by decide) (hd : (x == ("__debug__" : Str)) = false := by decide) : PE X (.Name x pos) (tC (.ty (tyS t))) :=
  pe_bltn hg hm hv rfl hn hd
theorem rTy_cons {t : Ty} {ts : List Ty} {x : Str} (h : PE X (.Name x pos) (tC (.ty (tyS t)))) (hr : PA X es (tTys ts)) : PA X (.Name x pos :: es) (tTys (t :: ts)) := pa_cons h hr
theorem paired_ty : ∀ ts : List Ty, Paired ClsV (ts.map fun t => V.ty (tyS t)) (ts.map fun t => Value.type (tyS t))
  | [] => .nil
  | t :: ts => .cons (.ty _) (paired_ty ts)
theorem RepM.tyx {K : PySem.W.Frag} {c : Fp} {H : Hp} {m : Md} {d : D} {v : V} {f : Fp} (r : RepM K c H m d v f) : TyX K H v (.type (dTy d)) := rep_ty r.b
theorem r_isi {t : Ty} {x : Str} (hg : Gl X "isinstance") (hm : X.mg "isinstance" = none) (ha : PE X a (TEc X G W c)) (ht : PE X (.Name x p2) (tC (.ty (tyS t))))
    (hs : starEach [a, .Name x p2] X.env = (false, eval a X.env) :: starEach [.Name x p2] X.env := by rfl) (hpl : (backTo pos (starEach [.Name x p2] X.env)).any (·.1) = false := by rfl) :
    PE X (.Call (.Name "isinstance" p) [a, .Name x p2] [] pos) (TEc X G W (.isi c [t])) :=
  (pe_callB call_isi hg hm rfl (pa_cons ha (pa_cons ht pa_nil) hs) (by decide) (by decide) hs hpl).imp fun σ H Q q => by
    obtain ⟨fr, fps, s, rel, hE⟩ := tG_in q
    refine tG_step rel id hE fun y s1 v H1 fps1 f1 e1 st1 rel1 r1 h1 => ?_
    have h1' : EndG (rM X.K) X.K X.mg W _ fr fps1 (0 + f1) σ H1 (.ok (fzv (.bool ([t].any (tyD y.2)))) s1) Q := h1
    rw [List.any_cons, List.any_nil, Bool.or_false] at h1'
    exact ⟨v, _, _, _, _, rfl, .ty _, RepM.tyx r1, kit_d y.2 t, EndG.bl rel1 h1'⟩
theorem r_isiT {ts : List Ty} {x1} (hg : Gl X "isinstance") (hm : X.mg "isinstance" = none) (ha : PE X a (TEc X G W c)) (ht : PA X es (tTys ts)) (hl : ts.length ≤ 10 := by decide)
    (hs : starEach [a, .Tuple es x1 p2] X.env = (false, eval a X.env) :: starEach [.Tuple es x1 p2] X.env := by rfl) (hpl : (backTo pos (starEach [.Tuple es x1 p2] X.env)).any (·.1) = false := by rfl) :
    PE X (.Call (.Name "isinstance" p) [a, .Tuple es x1 p2] [] pos) (TEc X G W (.isi c ts)) :=
  (pe_callB call_isiT hg hm rfl (pa_cons ha (pa_cons (pe_tup ht) pa_nil) hs) (by decide) (by decide) hs hpl).imp fun σ H Q q => by
    obtain ⟨fr, fps, s, rel, hE⟩ := tG_in q
    refine tG_step rel id hE fun y s1 v H1 fps1 f1 e1 st1 rel1 r1 h1 => ?_
    refine ⟨by rw [List.length_map]; exact Nat.le_trans hl (by decide +kernel), fun q hq => ?_⟩
    have g := Grw.upd (o := .tup (ts.map fun t => V.ty (tyS t))) hq
    refine ⟨v, q, _, _, _, _, rfl, upd_same, paired_ty ts, rep_ty (Rep.mono (c' := 0) ⟨fun a o e _ => g a o e, fun _ _ _ _ => rfl⟩ _ _ (RepM.b r1)), kit_ds y.2 ts, EndG.fz rel1 h1 g rfl⟩

/-! ### list.index -/
theorem r_index {o e : Expr} {apos : Pos} (ho : PE X o (TEc X G W ca)) (ha : PA X [e] (TAc X G W (.cons c .nil)))
    (hbase : attributeBase o "index" X.env (eval o X.env) = eval o X.env := by rfl)
    (hfew : ((backTo pos (starEach [e] X.env)).all (fun x => !x.1) && (backToKw pos (keywordEach [] X.env)).all (fun x => x.1.isSome) && decide ([e].length + ([] : List Keyword).length + (if ([] : List Keyword).isEmpty then 0 else 1) < 30)) = true := by rfl)
    (hline : (apos.endLine == pos.line) = true := by rfl) (hs : starEach [e] X.env = (false, eval e X.env) :: starEach [] X.env := by rfl) (hpl : (backTo pos (starEach [] X.env)).any (·.1) = false := by rfl) :
    PE X (.Call (.Attribute o "index" apos) [e] [] pos) (TEc X G W (.mth 0 ca (.cons c .nil))) :=
  (pe_bm PySem.F.plainAttrs_list PySem.F.slot_list_index PySem.F.type_list_index mt_index ho ha hbase hfew hline hs hpl).imp fun σ H Q q => by
    obtain ⟨fr, fps, s, rel, hE⟩ := tG_in q
    refine tG_step rel and_l hE fun x s1 v H1 fps1 f1 e1 st1 rel1 r1 h1 => ?_
    split at h1
    · exact h1.elim
    · rename_i nb
      rw [Bool.or_eq_true, not_or] at nb
      obtain ⟨m, d⟩ := x
      have key : ∃ xs, d = .list xs := by
        have := nb.2
        cases d with
        | list xs => exact ⟨xs, rfl⟩
        | _ => exact absurd rfl this
      obtain ⟨xs, rfl⟩ := key
      · obtain ⟨a, vs, ea, hs', hl⟩ := RepM.seq r1
        refine ⟨by rw [ea]; exact .inl ⟨rfl, vs, hs'⟩, ?_⟩
        refine tG_step (R1 := rMs X.K) rel1 and_r h1 fun y s2 u H2 fps2 f2 e2 st2 rel2 r2 h2 => ?_
        split at h2
        · exact h2.elim
        · have r1' := st2.keepM rel1.le (fun a => by simp only [Fp.add_at, Fp.zero_at]; omega) (fun z => (by
            cases hq : qts (.cons c .nil) with
            | true => rfl
            | false => have n1 := nb.1; rw [z, hq] at n1; exact absurd rfl n1)) r1
          cases em : mthD 0 (.list xs) (y.map (·.2)) with
          | none =>
            have h2' := h2
            rw [em] at h2'; exact h2'.elim
          | some md =>
            have h2' := h2
            rw [em] at h2'
            unfold mthD at em
            split at em
            · rename_i xs' k _ ex ek
              cases ex
              obtain ⟨ns, hns, em⟩ := Option.bind_eq_some_iff.mp em
              obtain ⟨j, hj, em⟩ := Option.map_eq_some_iff.mp em
              subst em
              obtain ⟨m', u', g, rfl, ru, _⟩ := one_of ek r2
              have ru' := ru.int
              subst ru'
              have rb : Reps X.K 0 H2 xs _ := (show ∃ a vs, v = .ref a ∧ FzL X.K 0 H2 a vs ∧ Reps X.K 0 H2 xs vs from RepM.b r1').choose_spec.choose_spec.2.2
              obtain ⟨a2, vs2, ea2, hs2, rr2⟩ := (show ∃ a vs, v = .ref a ∧ FzL X.K 0 H2 a vs ∧ Reps X.K 0 H2 xs vs from RepM.b r1')
              have ev2 := rr2.ints hns
              subst ev2
              obtain ⟨h3, h4, h5⟩ := List.idxOf?_eq_some_iff.mp hj
              refine ⟨a2, _, .int k, j, .int k, ea2, rfl, hs2.sq, rfl, ?_, ?_, by show (k == k) = true; exact beq_self_eq_true k, ?_, EndG.int rel2 h2'⟩
              · rw [List.all_map]; exact List.all_eq_true.mpr fun _ _ => rfl
              · rw [List.getElem?_map, List.getElem?_eq_getElem h3, h4]; rfl
              · intro n z hn hz
                rw [List.getElem?_map] at hz
                obtain ⟨i, hi, rfl⟩ := Option.map_eq_some_iff.mp hz
                show (i == k) = false
                rw [beq_eq_false_iff_ne]
                intro e
                subst e
                obtain ⟨hl, hi⟩ := List.getElem?_eq_some_iff.mp hi
                exact h5 n hn hi
            · cases em
end
end DV

set_option Elab.async false
set_option linter.all false
set_option maxRecDepth 100000
set_option maxHeartbeats 1000000
/-! DV12: dict displays, calls. -/
namespace DV
open PySem L2 PySem.Spec PyProof.Rows

theorem tG_mono {α β : Type} {RR : Fp → Hp → α → β → Fp → Prop} {K : PySem.W.Frag} {mg : Str → Option Value} {W : WX} {q : Bool} {m : En → Rs α} {σ : L2.St} {H : Hp} {Q Q' : β → Hp → Prop} (h : tG RR K mg W q m σ H Q) (hq : ∀ v H, Q v H → Q' v H) : tG RR K mg W q m σ H Q' := by
  obtain ⟨fr, fps, s, rel, hE⟩ := h
  refine ⟨fr, fps, s, rel, ?_⟩
  cases e : m s with
  | ok x s1 => rw [e] at hE; exact fun v H' fps' f st sl hr => hq _ _ (hE v H' fps' f st sl hr)
  | exc x s1 => rw [e] at hE; exact hE
  | no => rw [e] at hE; exact hE

/-! ### dict displays -/
def trsOf (X : Cx) (G : List Info) (W : WX) : List Str → Ces → List (TE × TE)
  | k :: ks, .cons c cs => (tC (.str k), TEc X G W c) :: trsOf X G W ks cs
  | _, _ => []
def lenC : Ces → Nat
  | .nil => 0
  | .cons _ cs => lenC cs + 1
section
variable {X : Cx} {G : List Info} {W : WX} {c ca cb cc : Ce} {cs : Ces} {a b e e1 e2 e3 : Expr} {es : List Expr} {pos p p2 q2 : Pos}
theorem pairs_in : ∀ (ks : List Str) (cs : Ces) (σ : L2.St) (H : Hp) (Q : List (V × V) → Hp → Prop), ks.length = lenC cs → TAc X G W cs σ H (fun us H1 => Q ((ks.map V.str).zip us) H1) → tPairs (trsOf X G W ks cs) σ H Q
  | [], .nil, σ, H, Q, _, h => by
    obtain ⟨fr, fps, s, rel, hE⟩ := tG_in h
    exact EndG.pl (RR := rMs X.K) (x := []) (v := []) (Q := fun us H1 => Q (([] : List V).zip us) H1) rel hE ⟨rfl, rfl⟩
  | k :: ks, .cons c cs, σ, H, Q, hl, h => by
    refine tG_mono (cons_in σ H _ h) fun v H1 h1 => ?_
    exact pairs_in ks cs σ H1 _ (Nat.succ.inj hl) (tG_mono h1 fun us H2 h2 => h2)
theorem rD_nil : PPs X pos [] [] (trsOf X G W [] .nil) := pps_nil
theorem rD_cons {k : Str} {j} {kp : Pos} {v : Expr} {ks : List (Option Expr)} {kss : List Str} {vs : List Expr} (hv : PE X v (TEc X G W c)) (hr : PPs X pos ks vs (trsOf X G W kss cs)) :
    PPs X pos (some (.Constant (.str k) j kp) :: ks) (v :: vs) (trsOf X G W (k :: kss) (.cons c cs)) := pps_cons pe_str hv hr
section
variable {K : PySem.W.Frag} {mg : Str → Option Value} {q : Bool} {fr f0 f : Fp} {fps : List Fp} {σ : L2.St} {H H' : Hp} {s : En} {Q : VK} {cn' : Fp}
theorem alloc {o : HO} (rel : Rel K (fr + f0) fps σ H s) {p : Addr} (hp : H p = none) : Stp q (fr + f0) fps 0 H (upd H p o) fps (single p) ∧ Rel K (fr + (f0 + single p)) fps σ (upd H p o) s := by
  have z0 := rel.new0 hp
  rw [cn_zero] at z0
  have st : Stp q (fr + f0) fps 0 H (upd H p o) fps (single p) := by
    refine ⟨fun a => ?_, fun a z => ?_, fun a z => ?_, fun a o e _ => Grw.upd hp a o e⟩
    · have := rel.le a
      by_cases e : a = p
      · subst e; rw [single_at]; omega
      · rw [single_ne e]; omega
    · by_cases e : a = p
      · subst e; rw [upd_same]; exact fun y => nomatch y
      · rw [upd_ne e]; rw [single_ne e] at z; exact rel.lv a z
    · by_cases e : a = p
      · subst e; exact .inr hp
      · rw [single_ne e] at z; exact .inl z
  refine ⟨st, st.rel (rel.sl.mono ⟨fun a o e _ => Grw.upd hp a o e, fun a o e z => ?_⟩ fun a o e _ => Grw.upd hp a o e)⟩
  have ne : a ≠ p := fun y => by subst y; rw [hp] at e; cases e
  rw [cn_zero] at z ⊢
  rw [Fp.add_at (fr + f0), single_ne ne]
  exact ⟨z.1, z.2⟩
theorem repKs_zip {c : Fp} : ∀ {ks : List Str} {ds : List D} {us : List V}, ks.length = us.length → Reps K c H ds us → RepKs K c H ((ks.map PyData.str).zip ds) ((ks.map fun k => (Sum.inr k : Key)).zip us)
  | [], ds, us, hl, r => by
    cases us with
    | nil => rfl
    | cons _ _ => cases hl
  | k :: ks, ds, us, hl, r => by
    cases us with
    | nil => cases hl
    | cons u us =>
      cases ds with
      | nil => cases r
      | cons d ds =>
        obtain ⟨v, r', e, h1, h2⟩ := r
        cases e
        exact ⟨Sum.inr k, u, _, rfl, ⟨rfl, h1⟩, repKs_zip (Nat.succ.inj hl) h2⟩
theorem merge_nil : ∀ (kvs : List (Key × V)) (acc : List (Key × V)), ((acc ++ kvs).map (·.1)).Nodup → kvs.foldl (fun acc kv => putK acc kv.1 kv.2) acc = acc ++ kvs
  | [], acc, _ => by rw [List.append_nil]; rfl
  | kv :: kvs, acc, nd => by
    have hn : (acc.any fun x => decide (x.1 = kv.1)) = false := by
      rw [List.any_eq_false]
      intro x hx
      rw [decide_eq_true_eq]
      intro e
      rw [List.map_append, List.map_cons] at nd
      have := (List.nodup_append.mp nd).2.2 x.1 (List.mem_map.mpr ⟨x, hx, rfl⟩) kv.1 List.mem_cons_self
      exact this e
    have e1 : putK acc kv.1 kv.2 = acc ++ [kv] := by
      unfold putK
      rw [hn, if_neg Bool.false_ne_true]
    rw [List.foldl_cons, e1, merge_nil kvs (acc ++ [kv]) (by rw [List.append_assoc]; exact nd), List.append_assoc]
    rfl
end
theorem r_dct {keys : List (Option Expr)} {values : List Expr} {ks : List Str} (h : PPs X pos keys values (trsOf X G W ks cs)) (hk : ks.length = lenC cs := by rfl) (hall : keys.all (·.isSome) = true := by rfl) (hl : keys.length = values.length := by rfl) (h0 : keys ≠ [] := by exact fun z => nomatch z)
    (h15 : keys.length ≤ 15 := by decide) (h16 : ks.length ≤ 15 := by decide) : PE X (.Dict keys values pos) (TEc X G W (.dct ks cs)) :=
  (pe_disp h hall hl h0 h15).imp fun σ H Q q p hp => by
    obtain ⟨fr, fps, s, rel, hE⟩ := tG_in q
    refine pairs_in ks cs σ _ _ hk ?_
    obtain ⟨sta, rela⟩ := alloc (q := true) (o := .dK []) rel hp
    have rela' : Rel X.K (fr + single p) fps σ (upd H p (.dK [])) s := by rw [Fp.zero_add] at rela; exact rela
    have Hu : ∀ a o, H a = some o → upd H p (.dK []) a = some o := fun a o e => Grw.upd hp a o e
    have pz : fr p + tot fps p = 0 := by have := rel.new0 hp; rw [cn_zero] at this; have h2 : fr p + 0 = 0 := this.1; omega
    have nw' : ∀ {P : Prop} {a : Addr}, (P ∨ upd H p (.dK []) a = none) → P ∨ H a = none := fun {P a} h => h.imp id fun y => by
      by_cases z : a = p
      · subst z; exact hp
      · rw [upd_ne z] at y; exact y
    refine ⟨fr + single p, fps, s, rela', ?_⟩
    have hE' : EndG (rM X.K) X.K X.mg W (qts cs) fr fps 0 σ H ((evs G cs s).bind fun vs s1 => if vs.any (·.1.isB) = true then .no else if ks.length = vs.length ∧ ks.Nodup then .ok (.o1, .dict ((ks.map PyData.str).zip (vs.map (·.2)))) s1 else .no) Q := hE
    cases ee : evs G cs s with
    | no => rw [ee] at hE'; exact hE'.elim
    | exc x s' =>
      rw [ee] at hE'
      have h' : ExcP X.K X.mg W fr fps 0 σ H x s' := hE'
      exact fun H' fps' dx C w st sl hm hr hs hd => h' H' fps' dx C w ⟨fun a => by have := st.le a; rw [Fp.add_at] at this; omega,
        fun a z => st.lv a (by rw [Fp.add_at]; omega), fun a z => nw' (st.nw a z), fun a o eo z => st.kp a o (Hu a o eo) z⟩ (sl.less fun a z => by rw [cn_zero] at z ⊢; rw [Fp.add_at] at z; omega) hm hr hs hd
    | ok x s1 =>
      rw [ee] at hE'
      intro us H1 fps1 f1 st1 sl1 r1
      have rel1 := st1.rel (f0 := 0) (fr := fr + single p) sl1
      rw [Fp.zero_add] at rel1
      have h1 : EndG (rM X.K) X.K X.mg W (qts cs) fr fps 0 σ H (if x.any (·.1.isB) = true then .no else if ks.length = x.length ∧ ks.Nodup then .ok (.o1, .dict ((ks.map PyData.str).zip (x.map (·.2)))) s1 else .no) Q := hE'
      split at h1
      · exact h1.elim
      · rename_i nb
        split at h1
        · rename_i hn
          have rr := fzs_of (fr := fr + single p) (f0 := f1) rel1 (fun a => Nat.le_refl _) (Bool.eq_false_iff.mpr nb) r1
          have hlu : ks.length = us.length := by rw [hn.1]; exact RepMs.len r1
          have lep : ∀ a, fr a + single p a + f1 a + tot fps1 a ≤ 1 := fun a => st1.le a
          have t0 : tot fps1 p = 0 := by have := lep p; rw [single_at] at this; omega
          have hp1 : H1 p = some (.dK []) := st1.kp p _ upd_same (.inr (by show 0 + tot fps p = 0; omega))
          refine ⟨hp1, (ks.map fun k => (Sum.inr k : Key)).zip us, ?_, ?_, ?_⟩
          · rw [List.zip_map_left, List.zip_map_left, List.map_map]; rfl
          · rw [List.length_zip, List.length_map]; omega
          · have hnd : (((ks.map fun k => (Sum.inr k : Key)).zip us).map (·.1)).Nodup := by
              rw [List.map_fst_zip (by rw [List.length_map]; omega)]
              exact List.Pairwise.map _ (fun a b h z => h (Sum.inr.inj z)) hn.2
            have em : mergeK [] ((ks.map fun k => (Sum.inr k : Key)).zip us) = (ks.map fun k => (Sum.inr k : Key)).zip us := merge_nil _ [] hnd
            rw [em]
            have hH : ∀ a o, a ≠ p → H1 a = some o → upd H1 p (.dK ((ks.map fun k => (Sum.inr k : Key)).zip us)) a = some o := fun a o n e => by rw [upd_ne n]; exact e
            have ne_p : ∀ {a}, cn (fr + single p + f1) fps1 a = 0 → a ≠ p := fun {a} z y => by
              subst y
              have z2 : fr a + single a a + f1 a + tot fps1 a = 0 := z
              rw [single_at] at z2; omega
            refine h1 (.ref p) _ fps1 (single p) ⟨fun a => ?_, fun a z => ?_, fun a z => ?_, fun a o e z => ?_⟩ (sl1.mono ⟨fun a o e z => hH a o (ne_p z) e, fun a o e z => ?_⟩ fun a o e z => hH a o (fun y => by subst y; omega) e) ⟨p, ⟨rfl, _, upd_same, ?_⟩, rfl⟩
            · have := lep a; omega
            · by_cases y : a = p
              · subst y; rw [upd_same]; exact fun y => nomatch y
              · rw [upd_ne y]; exact st1.lv a (by show 0 < fr a + single p a + f1 a + tot fps1 a; omega)
            · by_cases y : a = p
              · subst y; exact .inr hp
              · rw [single_ne y] at z
                exact nw' (st1.nw a (by omega))
            · refine hH a o (fun y => ?_) (st1.kp a o (Hu a o e) z)
              subst y
              rw [hp] at e; cases e
            · have z2 : fr a + single p a + f1 a + tot fps1 a = 0 := z
              show fr a + single p a + tot fps1 a = 0
              omega
            · refine RepKs.mono ⟨fun a o e z => hH a o (fun y => ?_) e, fun a o e z => z⟩ _ _ (repKs_zip hlu rr)
              subst y
              have z2 : fr a + single a a + tot fps1 a = 0 := z
              rw [single_at] at z2; omega
        · exact h1.elim
end
end DV

set_option Elab.async false
set_option linter.all false
set_option maxRecDepth 100000
set_option maxHeartbeats 1000000
/-! DV13: calls. -/
namespace DV
open PySem L2 PySem.Spec PyProof.Rows

/-- a def's promise -/
def spI (K : PySem.W.Frag) (mg : Str → Option Value) (i : Info) : Sp := fun vs H Q E => vs.length = i.ps.length ∧ ∃ as fr f0, RepMs K (cn fr [f0]) H as vs f0 ∧ (∀ a, fr a + f0 a ≤ 1) ∧ (∀ a, 0 < fr a + f0 a → H a ≠ none) ∧ as.any (·.1.isB) = false ∧
  match i.sem as with
  | .ret v outs => ∀ u H' f fo, Stp false fr [f0] 0 H H' [fo] f → RepM K (cn (fr + f) [fo]) H' v.1 v.2 u f → RepMs K (cn (fr + f) [fo]) H' outs (vs.take i.io) fo → Q u H'
  | .exc x outs => ∀ H' fo dx C w, Stp false fr [f0] 0 H H' [fo] 0 → RepMs K (cn fr [fo]) H' outs (vs.take i.io) fo → mg x.cls = some (.ref C) → Rep K 0 H' x.val w → scalD x.val = true → H' dx = some (.xd [(x.fld, w)]) → E (.ref C) (some dx) H'
  | .no => False
/-- the def of i stands at f -/
structure FnAt (P : Program) (w : World) (K : PySem.W.Frag) (mg : Str → Option Value) (base : Heap) (k : Nat) (i : Info) (f : Addr) (fd : FuncData) : Prop where
  fn : FnOk P w K mg base (L2.CX P w) k f fd i.ps (spI K mg i)
  gl : mg i.name = some (.ref f)
  kp : PySem.W.keepIn K (.ref f) = true
  bi : Binds K fd i.ps []

def sigs (σ : L2.St) (ios : List Nat) : List V := ios.map fun i => ((σ[i]?).bind id).getD .non
/-- what the changed arguments' names ask -/
def tIO : List Nat → TA → TA
  | [], t => t
  | i :: is, t => tCons (tVar i) (tIO is t)
theorem tIO_in {t : TA} {H : Hp} {σ : L2.St} (hm : ∀ H (Q Q' : List V → Hp → Prop), (∀ v H, Q v H → Q' v H) → t σ H Q → t σ H Q') : ∀ (ios : List Nat) (Q : List V → Hp → Prop), (∀ i ∈ ios, ∃ v, σ[i]? = some (some v)) → t σ H (fun us H' => Q (sigs σ ios ++ us) H') → tIO ios t σ H Q
  | [], Q, _, h => h
  | i :: is, Q, hv, h => by
    obtain ⟨v, e⟩ := hv i List.mem_cons_self
    refine ⟨v, e, tIO_in hm is _ (fun j hj => hv j (List.mem_cons_of_mem _ hj)) (hm _ _ _ (fun us H' q => ?_) h)⟩
    have es : sigs σ (i :: is) = v :: sigs σ is := by
      show ((σ[i]?).bind id).getD .non :: _ = _
      rw [e]; rfl
    rw [es] at q
    exact q
section
variable {K : PySem.W.Frag} {mg : Str → Option Value} {W : WX} {q : Bool} {fr f0 f : Fp} {σ : L2.St} {H H' : Hp} {c : Fp}
theorem sigs_cons {i : Nat} {is : List Nat} {v : V} (e : σ[i]? = some (some v)) : sigs σ (i :: is) = v :: sigs σ is := by
  show ((σ[i]?).bind id).getD .non :: _ = _
  rw [e]; rfl
theorem take_ok : ∀ {ios : List Nat} {s s1 : En} {us : List MD} {fps : List Fp}, takeS ios s = some (us, s1) → Slots K c σ H s fps →
    ∃ fi fps1, Slots K c σ H s1 fps1 ∧ RepMs K c H us (sigs σ ios) fi ∧ (∀ a, tot fps1 a + fi a = tot fps a) ∧ us.any (·.1.isB) = false ∧ us.length = ios.length
  | [], s, s1, us, fps, h, sl => by
    cases h
    exact ⟨0, fps, sl, ⟨rfl, rfl⟩, fun a => rfl, rfl, rfl⟩
  | i :: is, s, s1, us, fps, h, sl => by
    unfold takeS at h
    split at h
    · rename_i m d e
      split at h
      · cases h
      · obtain ⟨p, hp, hq⟩ := Option.map_eq_some_iff.mp h
        obtain ⟨us', s'⟩ := p
        cases hq
        obtain ⟨v, fv, e1, e2, e3, r⟩ := sl.at_ i m d e
        obtain ⟨fi, fps1, sl1, rr, ht, hb, hl⟩ := take_ok (fps := fps.set i 0) hp (sl.put rfl (fun _ _ => rfl) none fun _ _ _ z => nomatch z)
        refine ⟨fv + fi, fps1, sl1, ⟨v, _, fv, fi, sigs_cons e1, r, rr, rfl⟩, fun a => ?_, ?_, by rw [List.length_cons, List.length_cons, hl]⟩
        · have := ht a
          have := tot_set0 e2 a
          show _ + (fv a + fi a) = _
          omega
        · rw [List.any_cons, e3, Bool.false_or]; exact hb
    · cases h
theorem give_ok : ∀ {ios : List Nat} {s s1 : En} {us : List MD} {fps : List Fp} {fo : Fp}, giveS ios us s = some s1 → (∀ i ∈ ios, ∃ v, σ[i]? = some (some v)) → Slots K c σ H s fps → RepMs K c H us (sigs σ ios) fo →
    ∃ fps1, Slots K c σ H s1 fps1 ∧ (∀ a, tot fps1 a ≤ tot fps a + fo a)
  | [], s, s1, [], fps, fo, h, hv, sl, r => by
    cases h
    exact ⟨fps, sl, fun a => Nat.le_add_right _ _⟩
  | [], s, s1, _ :: _, fps, fo, h, hv, sl, r => nomatch h
  | _ :: _, s, s1, [], fps, fo, h, hv, sl, r => nomatch h
  | i :: is, s, s1, o :: os, fps, fo, h, hv, sl, r => by
    unfold giveS at h
    split at h
    · cases h
    · rename_i nb
      obtain ⟨s', hs, e⟩ := Option.map_eq_some_iff.mp h
      subst e
      obtain ⟨v, e⟩ := hv i List.mem_cons_self
      rw [sigs_cons e] at r
      obtain ⟨v', r', g, g', ev, r1, r2, ef⟩ := r
      cases ev
      subst ef
      obtain ⟨fps1, sl1, ht⟩ := give_ok hs (fun j hj => hv j (List.mem_cons_of_mem _ hj)) sl r2
      refine ⟨fps1.set i g, sl1.put rfl (fun _ _ => rfl) _ fun _ m d z => ?_, fun a => ?_⟩
      · cases z; exact ⟨v, e, Bool.eq_false_iff.mpr nb, r1⟩
      · have := ht a
        have h2 : tot (fps1.set i g) a ≤ tot fps1 a + g a := by
          cases ei : fps1[i]? with
          | some x => have := tot_set g a ei; omega
          | none => rw [List.set_eq_of_length_le (List.getElem?_eq_none_iff.mp ei)]; omega
        show _ ≤ _ + (g a + g' a)
        omega
theorem RepMs.app : ∀ {as bs : List MD} {us vs : List V} {f g : Fp}, RepMs K c H as us f → RepMs K c H bs vs g → RepMs K c H (as ++ bs) (us ++ vs) (f + g)
  | [], bs, us, vs, f, g, r1, r2 => by
    obtain ⟨e, ef⟩ := r1
    subst e ef
    rw [Fp.zero_add]
    exact r2
  | a :: as, bs, us, vs, f, g, ⟨v, r, f1, f2, e, h1, h2, ef⟩, r2 => by
    subst e ef
    exact ⟨v, r ++ vs, f1, f2 + g, rfl, h1, RepMs.app h2 r2, Fp.assoc _ _ _⟩
theorem Reps.ms : ∀ {ds : List MD} {vs : List V}, Reps K c H (ds.map (·.2)) vs → RepMs K c H (ds.map fun v => fzv v.2) vs 0
  | [], vs, r => ⟨r, rfl⟩
  | d :: ds, vs, ⟨v, r, e, h1, h2⟩ => ⟨v, r, 0, 0, e, ⟨h1, rfl⟩, Reps.ms h2, rfl⟩
/-- all of them in one -/
def totF (fps : List Fp) : Fp := fun a => tot fps a
theorem tot_one (f : Fp) (a : Addr) : tot [f] a = f a := Nat.add_zero _
/-- a call: what the promise asks -/
theorem call_ok {fps : List Fp} {s : En} {Q : VK} {i : Info} {ios : List Nat} {vs : List MD} {us : List V} (rel : Rel K (fr + f0) fps σ H s) (h : EndG (rM K) K mg W q fr fps f0 σ H (callR i ios vs s) Q) (hq : q = true → ios = [])
    (rr : Reps K (cn fr fps) H (vs.map (·.2)) us) (hv : ∀ i ∈ ios, ∃ v, σ[i]? = some (some v)) : spI K mg i (sigs σ ios ++ us) H Q (WE W σ) := by
  unfold callR at h
  split at h
  · exact h.elim
  · rename_i hn
    rw [not_or, Decidable.not_not, Decidable.not_not] at hn
    split at h
    · exact h.elim
    · rename_i as s1 et
      have sl0 : Slots K (cn fr fps) σ H s fps := rel.sl.less fun a z => by rw [cn_zero] at z ⊢; rw [Fp.add_at] at z; omega
      obtain ⟨fi, fps1, sl1, rio, ht, hb, hl⟩ := take_ok et sl0
      have ecn : cn (fr + totF fps1) [fi] = cn fr fps := funext fun a => by
        show fr a + tot fps1 a + tot [fi] a = fr a + tot fps a
        rw [tot_one]
        have := ht a; omega
      have le : ∀ a, fr a + tot fps a ≤ 1 := fun a => by have := rel.le a; rw [Fp.add_at] at this; omega
      have lv : ∀ a, 0 < fr a + tot fps a → H a ≠ none := fun a z => rel.lv a (by rw [Fp.add_at]; omega)
      refine ⟨?_, as ++ vs.map fun v => fzv v.2, fr + totF fps1, fi, ?_, fun a => ?_, fun a z => lv a ?_, ?_, ?_⟩
      · rw [List.length_append, ← rr.len, List.length_map]
        show (ios.map _).length + _ = _
        rw [List.length_map]; exact hn.2
      · rw [ecn]
        have := RepMs.app rio (Reps.ms rr)
        rw [Fp.add_zero] at this
        exact this
      · have := ht a
        have := le a
        show fr a + tot fps1 a + fi a ≤ 1
        omega
      · have z' : 0 < fr a + tot fps1 a + fi a := z
        have := ht a; omega
      · rw [List.any_append, hb, Bool.false_or, List.any_eq_false]
        intro x hx
        obtain ⟨y, _, rfl⟩ := List.mem_map.mp hx
        exact fun z => nomatch z
      · have tk : (sigs σ ios ++ us).take i.io = sigs σ ios := by
          rw [← hn.1]
          have : (sigs σ ios).length = ios.length := List.length_map ..
          rw [← this, List.take_left]
        have fi0 : q = true → fi = 0 := fun z => by
          have := hq z
          subst this
          have : as = [] := by
            have := hl; exact List.length_eq_zero_iff.mp this
          subst this
          exact rio.2
        have key : ∀ {H' : Hp} {f fo : Fp} {outs : List MD} {s2 : En}, Stp false (fr + totF fps1) [fi] 0 H H' [fo] f → RepMs K (cn (fr + totF fps1 + f) [fo]) H' outs (sigs σ ios) fo → giveS ios outs s1 = some s2 →
            ∃ fps2, Stp q fr fps f0 H H' fps2 f ∧ Slots K (cn (fr + f) fps2) σ H' s2 fps2 ∧ (∀ a, tot fps2 a ≤ tot fps1 a + fo a) := fun {H' f fo outs s2} st ro eg => by
          have kp1 : ∀ a o, H a = some o → fi a = 0 → H' a = some o := fun a o e z => st.kp a o e (.inr (by rw [tot_one]; show 0 + fi a = 0; omega))
          have nw1 : ∀ a, 0 < f a + fo a → 0 < fi a ∨ H a = none := fun a z => (st.nw a (by rw [tot_one]; exact z)).imp (fun y => by rw [tot_one] at y; have y' : 0 < 0 + fi a := y; omega) id
          have sl1' : Slots K (cn (fr + totF fps1 + f) [fo]) σ H' s1 fps1 := sl1.mono ⟨fun a o e z => kp1 a o e (by rw [cn_zero] at z; have := ht a; omega), fun a o e z => by
            rw [cn_zero] at z
            show fr a + tot fps1 a + f a + tot [fo] a = 0
            rw [tot_one]
            have := ht a
            by_cases y : 0 < f a + fo a
            · rcases nw1 a y with y | y
              · omega
              · rw [e] at y; cases y
            · omega⟩ fun a o e z => kp1 a o e (by have := ht a; have := le a; omega)
          obtain ⟨fps2, sl2, ht2⟩ := give_ok eg hv sl1' ro
          refine ⟨fps2, ⟨fun a => ?_, fun a z => ?_, fun a z => ?_, fun a o e z => ?_⟩, sl2.less fun a z => ?_, ht2⟩
          · have h1 := st.le a
            rw [tot_one] at h1
            have h1' : fr a + tot fps1 a + f a + fo a ≤ 1 := h1
            have := ht2 a; omega
          · have := ht2 a
            refine st.lv a ?_
            rw [tot_one]
            show 0 < fr a + tot fps1 a + f a + fo a
            omega
          · have h2 := ht2 a
            have := ht a
            by_cases y : 0 < f a + fo a
            · exact (nw1 a y).imp (fun y => by omega) id
            · left; omega
          · refine kp1 a o e ?_
            rcases z with z | z
            · rw [fi0 z]; rfl
            · have := ht a; omega
          · have z' : fr a + tot fps1 a + f a + tot [fo] a = 0 := z
            rw [tot_one] at z'
            have := ht2 a
            show fr a + f a + tot fps2 a = 0
            omega
        split at h
        · rename_i v outs e1
          exact h.elim
        · rename_i v outs e1
          rw [e1]
          split at h
          · exact h.elim
          · rename_i nbv
            split at h
            · exact h.elim
            · rename_i s2 eg
              intro u H' f fo st rv ro
              rw [tk] at ro
              obtain ⟨fps2, st2, sl2, ht2⟩ := key st ro eg
              refine h u H' fps2 f st2 sl2 (RepM.mono ⟨fun _ _ e _ => e, fun a _ _ z => ?_⟩ (fun _ _ e _ => e) rv)
              have z' : fr a + tot fps1 a + f a + tot [fo] a = 0 := z
              rw [tot_one] at z'
              have := ht2 a
              show fr a + f a + tot fps2 a = 0
              omega
        · rename_i x outs e1
          rw [e1]
          split at h
          · exact h.elim
          · rename_i s2 eg
            intro H' fo dx C w st ro hm hr hs hd
            rw [tk] at ro
            obtain ⟨fps2, st2, sl2, _⟩ := key st (f := 0) ro eg
            have h' : ExcP K mg W fr fps f0 σ H x s2 := h
            exact h' H' fps2 dx C w ⟨st2.le, st2.lv, st2.nw, fun a o e z => st.kp a o e (.inr (by
              rw [tot_one]
              rcases z with z | z
              · cases z
              · have := ht a
                show 0 + fi a = 0
                omega))⟩ sl2 hm hr hs hd
end

section
variable {X : Cx} {G : List Info} {W : WX} {c ca cb cc : Ce} {cs : Ces} {a b e e1 e2 e3 : Expr} {es : List Expr} {pos p p2 q2 : Pos}
theorem call_in {i : Info} {g : Nat} {ios : List Nat} (hi : G[g]? = some i) (σ : L2.St) (H : Hp) (Q : VK) (q : TEc X G W (.call g ios cs) σ H Q) : tCallS (spI X.K X.mg i) (WE W) (tIO ios (TAc X G W cs)) σ H Q := by
  obtain ⟨fr, fps, s, rel, hE⟩ := tG_in q
  have hE' : EndG (rM X.K) X.K X.mg W (ios.isEmpty && qts cs) fr fps 0 σ H (if ios.all (hasE s) = true then (evs G cs s).bind fun vs s1 => if vs.any (·.1.isB) = true then .no else (match G[g]? with
    | none => .no
    | some i => callR i ios vs s1) else .no) Q := hE
  split at hE'
  · rename_i hh
    have hv : ∀ i ∈ ios, ∃ v, σ[i]? = some (some v) := fun i hi => hasE_v (b := 0) rel.sl (List.all_eq_true.mp hh i hi)
    refine tIO_in (fun H Q Q' hq h => tG_mono h hq) ios _ hv ?_
    refine tG_step (R1 := rMs X.K) rel and_r hE' fun x s1 us H1 fps1 f1 e1 st1 rel1 r1 h1 => ?_
    split at h1
    · exact h1.elim
    · rename_i nb
      rw [hi] at h1
      exact call_ok rel1 h1 (fun z => List.isEmpty_iff.mp (and_l z)) (fzs_of rel1 (fun a => by simp only [Fp.add_at, Fp.zero_at]; omega) (Bool.eq_false_iff.mpr nb) r1) hv
  · exact hE'.elim
theorem r_call {i : Info} {g k : Nat} {ios : List Nat} {f : Addr} {fd : FuncData} {x : Str} (F : FnAt X.prog X.w X.K X.mg X.base k i f fd) (hr : Room k X.A) (tk : Takes X W) (hg : Gl X x) (ha : PA X (e :: es) (tIO ios (TAc X G W cs))) (hi : G[g]? = some i := by rfl) (hx : i.name = x := by rfl)
    (hdb : (x == ("__debug__" : Str)) = false := by decide) (he : starEach (e :: es) X.env = (false, eval e X.env) :: starEach es X.env := by rfl) (hpl : (backTo pos (starEach es X.env)).any (·.1) = false := by rfl) :
    PE X (.Call (.Name x p) (e :: es) [] pos) (TEc X G W (.call g ios cs)) :=
  (pe_callS F.fn hr hg (by rw [← hx]; exact F.gl) F.kp F.bi (fun σ => passAt tk σ) ha hdb he hpl).imp (call_in hi)
theorem r_call0 {i : Info} {g k : Nat} {f : Addr} {fd : FuncData} {x : Str} (F : FnAt X.prog X.w X.K X.mg X.base k i f fd) (hr : Room k X.A) (tk : Takes X W) (hg : Gl X x) (hi : G[g]? = some i := by rfl) (hx : i.name = x := by rfl)
    (hdb : (x == ("__debug__" : Str)) = false := by decide) : PE X (.Call (.Name x p) [] [] pos) (TEc X G W (.call g [] .nil)) := by
  refine ⟨fun pins s σ H Q I h => ?_⟩
  have h' := call_in hi σ H Q h
  refine wpAny_Call_Name_kw (ld_glob I hg (by rw [← hx]; exact F.gl) ?_ hdb)
  refine PySem.W.callWith_K0 I.kIn F.kp (run_fnS (us := []) (vs := []) F.fn hr F.bi (fun pins H s e s' => passAt tk σ pins H s e s') I .nil ?_)
  obtain ⟨fr, fps, s0, rel, hE⟩ := tG_in h'
  exact EndG.pl (RR := rMs X.K) (x := []) (v := []) (Q := fun us H1 => spI X.K X.mg i us H1 Q (WE W σ)) rel hE ⟨rfl, rfl⟩
end
end DV

set_option Elab.async false
set_option linter.all false
set_option maxRecDepth 100000
set_option maxHeartbeats 1000000
/-! DV14: calls by keywords; what a reading of statements asks. -/
namespace DV
open PySem L2 PySem.Spec PyProof.Rows

/-! ### keywords -/
def kwO {α : Type} (ps ks : List Str) (ws : List α) : Option (List α) := ps.mapM fun p => (ks.zip ws).lookup p
section
variable {K : PySem.W.Frag} {c : Fp} {H : Hp}
theorem kw_look {p : Str} : ∀ {ks : List Str} {vs : List MD} {us : List V} {md : MD}, Reps K c H (vs.map (·.2)) us → (ks.zip vs).lookup p = some md → ∃ v, (ks.zip us).lookup p = some v ∧ Rep K c H md.2 v
  | [], vs, us, md, r, h => nomatch h
  | k :: ks, [], us, md, r, h => nomatch h
  | k :: ks, x :: vs, us, md, ⟨v, r', e, h1, h2⟩, h => by
    subst e
    rw [List.zip_cons_cons, List.lookup_cons] at h ⊢
    split at h
    · rename_i e; cases h; exact ⟨v, rfl, h1⟩
    · rename_i e; exact kw_look h2 h
theorem kw_reps {ks : List Str} {vs : List MD} {us : List V} (r : Reps K c H (vs.map (·.2)) us) : ∀ {ps : List Str} {as : List MD}, kwR ps ks vs = some as → ∃ zs, kwO ps ks us = some zs ∧ Reps K c H (as.map (·.2)) zs
  | [], as, h => by
    cases h
    exact ⟨[], rfl, rfl⟩
  | p :: ps, as, h => by
    unfold kwR at h
    rw [List.mapM_cons] at h
    obtain ⟨a, ha, h⟩ := Option.bind_eq_some_iff.mp h
    obtain ⟨as', hs, h⟩ := Option.bind_eq_some_iff.mp h
    cases h
    obtain ⟨v, hv, rv⟩ := kw_look r ha
    obtain ⟨zs, hz, rz⟩ := kw_reps r (ps := ps) hs
    refine ⟨v :: zs, ?_, v, zs, rfl, rv, rz⟩
    unfold kwO at hz ⊢
    rw [List.mapM_cons, hv, hz]
    rfl
theorem kw_vals {ks : List Str} {us : List V} {ws : List Value} (r : Vals us ws) : ∀ {ps : List Str} {zs : List V}, kwO ps ks us = some zs → ∃ xs, kwO ps ks ws = some xs ∧ Vals zs xs := by
  have look : ∀ (p : Str) (ks : List Str) {us : List V} {ws : List Value} {v : V}, Vals us ws → (ks.zip us).lookup p = some v → ∃ x, (ks.zip ws).lookup p = some x ∧ RelV v x := by
    intro p ks
    induction ks with
    | nil => intro us ws v r h; exact nomatch h
    | cons k ks ih =>
      intro us ws v r h
      cases r with
      | nil => exact nomatch h
      | cons r1 r2 =>
        rw [List.zip_cons_cons, List.lookup_cons] at h ⊢
        split at h
        · rename_i e; cases h; exact ⟨_, rfl, r1⟩
        · rename_i e; exact ih r2 h
  intro ps
  induction ps with
  | nil => intro zs h; cases h; exact ⟨[], rfl, .nil⟩
  | cons p ps ih =>
    intro zs h
    unfold kwO at h
    rw [List.mapM_cons] at h
    obtain ⟨a, ha, h⟩ := Option.bind_eq_some_iff.mp h
    obtain ⟨as', hs, h⟩ := Option.bind_eq_some_iff.mp h
    cases h
    obtain ⟨x, hx, rx⟩ := look p ks r ha
    obtain ⟨xs, hxs, rxs⟩ := ih hs
    refine ⟨x :: xs, ?_, .cons rx rxs⟩
    unfold kwO at hxs ⊢
    rw [List.mapM_cons, hx, hxs]
    rfl
end
section
variable {X : Cx} {G : List Info} {W : WX} {c ca cb cc : Ce} {cs : Ces} {a b e e1 e2 e3 : Expr} {es : List Expr} {kws : List Keyword} {nm : Option Str} {pos p p2 q2 kpos : Pos}
theorem rK_nil : PK X [] (TAc X G W .nil) := ⟨fun pos pins s σ H Q I q => pk_nil.run pos pins s σ H Q I (by
  obtain ⟨fr, fps, s, rel, hE⟩ := tG_in q
  exact EndG.pl rel hE ⟨rfl, rfl⟩)⟩
theorem rK_cons (ha : PE X e (TEc X G W c)) (hr : PK X kws (TAc X G W cs)) : PK X (⟨nm, e, kpos⟩ :: kws) (TAc X G W (.cons c cs)) :=
  ⟨fun pos pins s σ H Q I q => (pk_cons ha hr).run pos pins s σ H Q I (cons_in σ H Q q)⟩
def tKw (sp : Sp) (E : L2.St → XK) (ps ks : List Str) (tk : TA) : TE := fun σ H Q => tk σ H fun us H2 => ∃ zs, kwO ps ks us = some zs ∧ sp zs H2 Q (E σ)
theorem pe_kw {CX : CXT} {k : Nat} {f : Addr} {fd : FuncData} {ps ks : List Str} {sp : Sp} {E : L2.St → XK} {x : Str} {tk : TA} (F : FnOk X.prog X.w X.K X.mg X.base CX k f fd ps sp) (hr : Room k X.A) (hg : Gl X x) (hm : X.mg x = some (.ref f)) (hk : PySem.W.keepIn X.K (.ref f) = true)
    (hb : ∀ (s : Shared) (ws xs : List Value), X.K.In s.heap → kwO ps ks ws = some xs → BindsTo s fd ⟨[], ks.zip ws⟩ (ps.zip xs)) (hx : ∀ σ, PassesAt CX X σ (E σ)) (hkw : PK X kws tk)
    (hall : (backToKw pos (keywordEach kws X.env)).all (·.1.isSome) = true := by rfl) (hks : (backToKw pos (keywordEach kws X.env)).filterMap (·.1) = ks := by rfl) (hdb : (x == ("__debug__" : Str)) = false := by decide)
    (hpl : ((backTo pos (starEach [] X.env)).any (·.1) || (backToKw pos (keywordEach kws X.env)).any (·.1.isNone)) = false := by rfl) : PE X (.Call (.Name x p) [] kws pos) (tKw sp E ps ks tk) := by
  refine ⟨fun pins s σ H Q I h => ?_⟩
  refine wpAny_Call_Name_kw (ld_glob I hg hm ?_ hdb)
  refine PySem.W.callWith_KW0 (h₀ := X.base) I.ok.mod.kin hk hall (thn (hkw.run pos pins s σ H _ I h) fun ws s2 ⟨us, H2, I2, rz, zs, hz, q2⟩ => ⟨I2.kIn, ?_⟩) hpl
  rw [hks]
  obtain ⟨xs, hxs, rxs⟩ := kw_vals rz hz
  refine wpAny_call (codeAny_mono (F.run X.A X.stack s2 H2 ⟨[], ks.zip ws⟩ xs zs Q (E σ) hr I2.env0 (hb s2 ws xs I2.kIn hxs) rxs q2) fun r s' hq => ?_)
  cases r with
  | error e => exact hx σ pins H2 s2 e s' I2 hq
  | ok fl =>
    cases fl with
    | ret u => exact I2.after hq
    | next => exact False.elim hq
    | brk => exact False.elim hq
    | cont => exact False.elim hq
theorem callR_fz (i : Info) (vs : List MD) (s : En) : callR i [] (vs.map fun v => fzv v.2) s = callR i [] vs s := by
  unfold callR
  rw [List.length_map, List.map_map]
  rfl
theorem r_callk {i : Info} {g k : Nat} {f : Addr} {fd : FuncData} {x : Str} {ks : List Str} (F : FnAt X.prog X.w X.K X.mg X.base k i f fd) (hr : Room k X.A) (tk : Takes X W) (hg : Gl X x)
    (hb : ∀ (s : Shared) (ws xs : List Value), X.K.In s.heap → kwO i.ps ks ws = some xs → BindsTo s fd ⟨[], ks.zip ws⟩ (i.ps.zip xs)) (hkw : PK X kws (TAc X G W cs)) (hi : G[g]? = some i := by rfl) (hx : i.name = x := by rfl)
    (hall : (backToKw pos (keywordEach kws X.env)).all (·.1.isSome) = true := by rfl) (hks : (backToKw pos (keywordEach kws X.env)).filterMap (·.1) = ks := by rfl) (hdb : (x == ("__debug__" : Str)) = false := by decide)
    (hpl : ((backTo pos (starEach [] X.env)).any (·.1) || (backToKw pos (keywordEach kws X.env)).any (·.1.isNone)) = false := by rfl) : PE X (.Call (.Name x p) [] kws pos) (TEc X G W (.callk g ks cs)) :=
  (pe_kw F.fn hr hg (by rw [← hx]; exact F.gl) F.kp hb (fun σ => passAt tk σ) hkw hall hks hdb hpl).imp fun σ H Q q => by
    obtain ⟨fr, fps, s, rel, hE⟩ := tG_in q
    refine tG_step (R1 := rMs X.K) rel id hE fun x s1 us H1 fps1 f1 e1 st1 rel1 r1 h1 => ?_
    split at h1
    · exact h1.elim
    · rename_i nb
      rw [hi] at h1
      have rr := fzs_of rel1 (fun a => by simp only [Fp.add_at, Fp.zero_at]; omega) (Bool.eq_false_iff.mpr nb) r1
      have h1' : EndG (rM X.K) X.K X.mg W (qts cs) fr fps1 (0 + f1) σ H1 (match kwR i.ps ks x with
        | none => .no
        | some us => callR i [] us s1) Q := h1
      split at h1'
      · exact h1'.elim
      · rename_i as ek
        obtain ⟨zs, hz, rz⟩ := kw_reps rr ek
        refine ⟨zs, hz, ?_⟩
        exact call_ok (ios := []) rel1 h1' (fun _ => rfl) rz (fun _ h => nomatch h)
end
end DV

set_option Elab.async false
set_option linter.all false
set_option maxRecDepth 100000
set_option maxHeartbeats 1000000
/-! DV15: statements, I. -/
namespace DV
open PySem L2 PySem.Spec PyProof.Rows

/-- the first io slots hold what they held -/
def Kio (io : Nat) (σ σ' : L2.St) : Prop := ∀ j, j < io → σ'[j]? = σ[j]?
theorem Kio.refl {io : Nat} {σ : L2.St} : Kio io σ σ := fun _ _ => rfl
theorem Kio.trans {io : Nat} {σ σ1 σ2 : L2.St} (a : Kio io σ σ1) (b : Kio io σ1 σ2) : Kio io σ σ2 := fun j h => (b j h).trans (a j h)
theorem Kio.set {io i : Nat} {σ : L2.St} {v : Option V} (h : io ≤ i) : Kio io σ (σ.set i v) := fun j hj => List.getElem?_set_ne (by omega)
def EndS (K : PySem.W.Frag) (mg : Str → Option Value) (W : WX) (io : Nat) (fr : Fp) (fps : List Fp) (f0 : Fp) (σ : L2.St) (H : Hp) (r : Rs Fl) (D : Ends) : Prop :=
  match r with
  | .ok .nx s' => ∀ σ' H' fps', Stp false fr fps f0 H H' fps' 0 → Slots K (cn fr fps') σ' H' s' fps' → Kio io σ σ' → D.nx σ' H'
  | .ok .bk s' => ∀ σ' H' fps', Stp false fr fps f0 H H' fps' 0 → Slots K (cn fr fps') σ' H' s' fps' → Kio io σ σ' → D.bk σ' H'
  | .ok .ct s' => ∀ σ' H' fps', Stp false fr fps f0 H H' fps' 0 → Slots K (cn fr fps') σ' H' s' fps' → Kio io σ σ' → D.ct σ' H'
  | .ok (.rt v) s' => ∀ σ' u H' fps' f, Stp false fr fps f0 H H' fps' f → Slots K (cn (fr + f) fps') σ' H' s' fps' → Kio io σ σ' → RepM K (cn (fr + f) fps') H' v.1 v.2 u f → v.1.isB = false → D.rt u H'
  | .exc x s' => ∀ σ' H' fps' dx C w, Stp false fr fps f0 H H' fps' 0 → Slots K (cn fr fps') σ' H' s' fps' → Kio io σ σ' → mg x.cls = some (.ref C) → Rep K 0 H' x.val w → scalD x.val = true → H' dx = some (.xd [(x.fld, w)]) → W (.ref C) (some dx) σ' H'
  | .no => False
def tS (X : Cx) (W : WX) (io : Nat) (m : En → Rs Fl) : TS := fun D σ H => ∃ fr fps s, Rel X.K fr fps σ H s ∧ EndS X.K X.mg W io fr fps 0 σ H (m s) D
abbrev TSc (X : Cx) (G : List Info) (W : WX) (io : Nat) (c : Cs) : TS := tS X W io (ex G c)
abbrev TSs (X : Cx) (G : List Info) (W : WX) (io : Nat) (c : Css) : TS := tS X W io (exs G c)
section
variable {K : PySem.W.Frag} {mg : Str → Option Value} {W : WX} {q q1 : Bool} {fr f0 f1 f fv : Fp} {fps fps1 : List Fp} {σ σ1 σ' : L2.St} {H H1 H' : Hp} {s s1 : En} {c c' : Fp} {io : Nat} {D : Ends} {r : Rs Fl}
theorem EndS.trans (a1 : Stp q1 (fr + f0) fps 0 H H1 fps1 f1) (le : ∀ a, (fr + f0) a + tot fps a ≤ 1) (k : Kio io σ σ1) (h : EndS K mg W io fr fps f0 σ H r D) : EndS K mg W io fr fps1 (f0 + f1) σ1 H1 r D := by
  have tr : ∀ {H' fps' f}, Stp false fr fps1 (f0 + f1) H1 H' fps' f → Stp false fr fps f0 H H' fps' f := fun st => a1.trans le (fun z => Bool.noConfusion z) st
  cases r with
  | no => exact h
  | exc x s' => exact fun σ' H' fps' dx C w st sl kk => h σ' H' fps' dx C w (tr st) sl (k.trans kk)
  | ok fl s' =>
    cases fl with
    | nx => exact fun σ' H' fps' st sl kk => h σ' H' fps' (tr st) sl (k.trans kk)
    | bk => exact fun σ' H' fps' st sl kk => h σ' H' fps' (tr st) sl (k.trans kk)
    | ct => exact fun σ' H' fps' st sl kk => h σ' H' fps' (tr st) sl (k.trans kk)
    | rt v => exact fun σ' u H' fps' f st sl kk => h σ' u H' fps' f (tr st) sl (k.trans kk)
/-- an expression is read -/
theorem tS_step {γ δ : Type} {R1 : Fp → Hp → γ → δ → Fp → Prop} {m : En → Rs γ} {k : γ → En → Rs Fl} (rel : Rel K (fr + f0) fps σ H s) (h : EndS K mg W io fr fps f0 σ H ((m s).bind k) D)
    {Q' : δ → Hp → Prop} (hQ : ∀ x s1 v H1 fps1 f1, m s = .ok x s1 → Stp q1 (fr + f0) fps 0 H H1 fps1 f1 → Rel K (fr + (f0 + f1)) fps1 σ H1 s1 → R1 (cn (fr + (f0 + f1)) fps1) H1 x v f1 → EndS K mg W io fr fps1 (f0 + f1) σ H1 (k x s1) D → Q' v H1) :
    tG R1 K mg W q1 m σ H Q' := by
  refine ⟨fr + f0, fps, s, rel, ?_⟩
  cases e : m s with
  | no => rw [e] at h; exact h.elim
  | exc x s' =>
    rw [e] at h
    have h' : ∀ σ' H' fps' dx C w, Stp false fr fps f0 H H' fps' 0 → Slots K (cn fr fps') σ' H' s' fps' → Kio io σ σ' → mg x.cls = some (.ref C) → Rep K 0 H' x.val w → scalD x.val = true → H' dx = some (.xd [(x.fld, w)]) → W (.ref C) (some dx) σ' H' := h
    exact fun H' fps' dx C w st sl hm hr hs hd => h' σ H' fps' dx C w ⟨fun a => by have := st.le a; rw [Fp.add_at] at this; show fr a + 0 + _ ≤ 1; omega,
      fun a z => st.lv a (by have z' : 0 < fr a + 0 + tot fps' a := z; rw [Fp.add_at]; omega), fun a z => (st.nw a z).imp (fun y => by have y' : 0 < 0 + tot fps a := y; omega) id,
      fun a o eo z => st.kp a o eo (z.imp id fun y => by show 0 + _ = 0; omega)⟩ (sl.less fun a z => by rw [cn_zero] at z ⊢; rw [Fp.add_at] at z; omega) Kio.refl hm hr hs hd
  | ok x s1 =>
    rw [e] at h
    intro v H1 fps1 f1 st sl hr
    exact hQ x s1 v H1 fps1 f1 e st (st.rel sl) (by rw [← Fp.assoc]; exact hr) (EndS.trans st rel.le Kio.refl h)
theorem Stp.stay (rel : Rel K (fr + f0) fps σ H s) : Stp false fr fps f0 H H fps 0 :=
  ⟨fun a => by have := rel.le a; rw [Fp.add_at] at this; show fr a + 0 + _ ≤ 1; omega, fun a z => rel.lv a (by have z' : 0 < fr a + 0 + tot fps a := z; rw [Fp.add_at]; omega), fun a z => by have z' : 0 < 0 + tot fps a := z; left; omega, fun a o e _ => e⟩
theorem Rel.sl0 (rel : Rel K (fr + f0) fps σ H s) : Slots K (cn fr fps) σ H s fps := rel.sl.less fun a z => by rw [cn_zero] at z ⊢; rw [Fp.add_at] at z; omega
theorem EndS.nx (rel : Rel K (fr + f0) fps σ H s) (h : EndS K mg W io fr fps f0 σ H (.ok .nx s) D) : D.nx σ H := h σ H fps (Stp.stay rel) rel.sl0 Kio.refl
theorem EndS.bk (rel : Rel K (fr + f0) fps σ H s) (h : EndS K mg W io fr fps f0 σ H (.ok .bk s) D) : D.bk σ H := h σ H fps (Stp.stay rel) rel.sl0 Kio.refl
theorem EndS.ct (rel : Rel K (fr + f0) fps σ H s) (h : EndS K mg W io fr fps f0 σ H (.ok .ct s) D) : D.ct σ H := h σ H fps (Stp.stay rel) rel.sl0 Kio.refl
/-- the temporary values are dropped -/
theorem EndS.drop (rel : Rel K (fr + f0) fps σ H s) (h : EndS K mg W io fr fps f0 σ H r D) : EndS K mg W io fr fps 0 σ H r D := by
  have tr : ∀ {H' fps' f}, Stp false fr fps 0 H H' fps' f → Stp false fr fps f0 H H' fps' f := fun st => ⟨st.le, st.lv, fun a z => (st.nw a z).imp (fun y => by have y' : 0 < 0 + tot fps a := y; omega) id, fun a o e z => st.kp a o e (z.imp id fun y => by show 0 + tot fps a = 0; omega)⟩
  cases r with
  | no => exact h
  | exc x s' => exact fun σ' H' fps' dx C w st sl kk => h σ' H' fps' dx C w (tr st) sl kk
  | ok fl s' =>
    cases fl with
    | nx => exact fun σ' H' fps' st sl kk => h σ' H' fps' (tr st) sl kk
    | bk => exact fun σ' H' fps' st sl kk => h σ' H' fps' (tr st) sl kk
    | ct => exact fun σ' H' fps' st sl kk => h σ' H' fps' (tr st) sl kk
    | rt v => exact fun σ' u H' fps' f st sl kk => h σ' u H' fps' f (tr st) sl kk
theorem Rel.drop (rel : Rel K (fr + f0) fps σ H s) : Rel K fr fps σ H s :=
  ⟨fun a => by have := rel.le a; rw [Fp.add_at] at this; omega, fun a z => rel.lv a (by rw [Fp.add_at]; omega), rel.sl0⟩
/-- the rest is read as it stands -/
theorem tS_last {X : Cx} {m : En → Rs Fl} (rel : Rel X.K (fr + f0) fps σ H s) (h : EndS X.K X.mg W io fr fps f0 σ H (m s) D) : tS X W io m D σ H := ⟨fr, fps, s, rel.drop, EndS.drop rel h⟩
/-- slot i is given a held value -/
theorem put_ok {m : Md} {d : PyData} {v : V} {i : Nat} (rel : Rel K (fr + f0) fps σ H s) (hf : ∀ a, fv a ≤ f0 a) (nb : m.isB = false) (r : RepM K (cn (fr + f0) fps) H m d v fv) :
    Stp false fr fps f0 H H (fps.set i fv) 0 ∧ Slots K (cn fr (fps.set i fv)) (σ.set i (some v)) H (s.set i (some (m, d))) (fps.set i fv) := by
  have ts : ∀ a, tot (fps.set i fv) a ≤ tot fps a + fv a := fun a => by
    cases ei : fps[i]? with
    | some x => have := tot_set fv a ei; omega
    | none => rw [List.set_eq_of_length_le (List.getElem?_eq_none_iff.mp ei)]; omega
  have c0 : ∀ a, cn (fr + f0) fps a = 0 → cn fr (fps.set i fv) a = 0 := fun a z => by
    rw [cn_zero] at z ⊢
    rw [Fp.add_at] at z
    have := ts a
    have := hf a
    omega
  refine ⟨⟨fun a => ?_, fun a z => rel.lv a ?_, fun a z => .inl ?_, fun a o e _ => e⟩, Slots.put (rel.sl.less c0) (by rw [List.length_set]) (fun j hj => List.getElem?_set_ne (Ne.symm hj)) _ fun hl m' d' z => ?_⟩
  · have := rel.le a
    rw [Fp.add_at] at this
    have := ts a
    have := hf a
    show fr a + 0 + _ ≤ 1
    omega
  · have z' : 0 < fr a + 0 + tot (fps.set i fv) a := z
    have := ts a
    have := hf a
    rw [Fp.add_at]
    omega
  · have z' : 0 < 0 + tot (fps.set i fv) a := z
    have := ts a
    have := hf a
    omega
  · cases z
    exact ⟨v, List.getElem?_set_self (by rw [← rel.sl.ls]; exact hl), nb, RepM.mono ⟨fun _ _ e _ => e, fun a _ _ z => c0 a z⟩ (fun _ _ e _ => e) r⟩
theorem EndS.put {m : Md} {d : PyData} {v : V} {i : Nat} (rel : Rel K (fr + f0) fps σ H s) (h : EndS K mg W io fr fps f0 σ H (.ok .nx (s.set i (some (m, d)))) D) (hio : io ≤ i) (hf : ∀ a, fv a ≤ f0 a) (nb : m.isB = false) (r : RepM K (cn (fr + f0) fps) H m d v fv) : D.nx (σ.set i (some v)) H := by
  obtain ⟨st, sl⟩ := put_ok (i := i) rel hf nb r
  exact h _ H _ st sl (Kio.set hio)
theorem keepR_bind {β : Type} (r : Rs MD) (k : MD → En → Rs β) : (keepR r).bind k = r.bind fun v s => if v.1.isB = true then .no else k v s := by
  unfold keepR
  rw [Rs.bind_assoc]
  cases r with
  | ok v s =>
    show (if v.1.isB = true then Rs.no else Rs.ok v s).bind k = if v.1.isB = true then Rs.no else k v s
    split <;> rfl
  | exc x s => rfl
  | no => rfl
end

section
variable {X : Cx} {G : List Info} {W : WX} {c ca cb cc : Ce} {cs : Ces} {a b e e1 e2 e3 : Expr} {es : List Expr} {pos p p2 q2 : Pos} {io : Nat} {st : Stmt} {sts : List Stmt} {sc : Cs} {ss sa sb : Css}
theorem s_pass : PS X (.Pass pos) (TSc X G W io .pass) := ps_pass.imp fun D σ H ⟨fr, fps, s, rel, h⟩ => EndS.nx (f0 := 0) rel h
theorem s_break {pos} : PS X (.Break pos) (TSc X G W io .brk) := ps_break.imp fun D σ H ⟨fr, fps, s, rel, h⟩ => EndS.bk (f0 := 0) rel h
theorem s_continue {pos} : PS X (.Continue pos) (TSc X G W io .cnt) := ps_continue.imp fun D σ H ⟨fr, fps, s, rel, h⟩ => EndS.ct (f0 := 0) rel h
theorem ss_nil : PSs X [] (TSs X G W io .nil) := ⟨fun pins s σ H D I h => pss_nil.run pins s σ H D I (by
  obtain ⟨fr, fps, s, rel, h⟩ := h
  exact EndS.nx (f0 := 0) rel h)⟩
theorem ss_cons (h1 : PS X st (TSc X G W io sc)) (h2 : PSs X sts (TSs X G W io ss)) : PSs X (st :: sts) (TSs X G W io (.cons sc ss)) := ⟨fun pins s σ H D I h => (pss_cons h1 h2).run pins s σ H D I (by
  obtain ⟨fr, fps, s, rel, h⟩ := h
  refine ⟨fr, fps, s, rel, ?_⟩
  have h' : EndS X.K X.mg W io fr fps 0 σ H (match ex G sc s with
    | .ok .nx s1 => exs G ss s1
    | r => r) D := h
  cases e : ex G sc s with
  | no => rw [e] at h'; exact h'
  | exc x s' => rw [e] at h'; exact h'
  | ok fl s' =>
    rw [e] at h'
    cases fl with
    | bk => exact h'
    | ct => exact h'
    | rt v => exact h'
    | nx => exact fun σ' H' fps' st sl kk => ⟨fr, fps', s', ⟨fun a => st.le a, fun a z => st.lv a z, sl⟩, by
      have := EndS.trans (f0 := 0) (σ1 := σ') st rel.le kk h'
      rw [Fp.add_zero] at this
      exact this⟩)⟩
theorem s_expr (he : PE X e (TEc X G W c)) (hs : swapsWith e none pos.line X.env = pure false := by rfl) : PS X (.Expr e pos) (TSc X G W io (.exp c)) :=
  (ps_expr he hs).imp fun D σ H ⟨fr, fps, s, rel, h⟩ => tS_step (f0 := 0) rel h fun x s1 v H1 fps1 f1 e1 st1 rel1 r1 h1 => EndS.nx rel1 h1
theorem s_ret (he : PE X e (TEc X G W c)) : PS X (.Return (some e) pos) (TSc X G W io (.ret c)) :=
  (ps_ret he).imp fun D σ H ⟨fr, fps, s, rel, h⟩ => by
    have h' : EndS X.K X.mg W io fr fps 0 σ H ((keepR (ev G c s)).bind fun v s1 => .ok (.rt v) s1) D := h
    rw [keepR_bind] at h'
    refine tS_step (f0 := 0) rel h' fun x s1 v H1 fps1 f1 e1 st1 rel1 r1 h1 => ?_
    split at h1
    · exact h1.elim
    · rename_i nb
      rw [Fp.zero_add] at rel1 h1 r1
      have h1' : ∀ σ' u H' fps' f, Stp false fr fps1 f1 H1 H' fps' f → Slots X.K (cn (fr + f) fps') σ' H' s1 fps' → Kio io σ σ' → RepM X.K (cn (fr + f) fps') H' x.1 x.2 u f → x.1.isB = false → D.rt u H' := h1
      exact h1' σ v H1 fps1 f1 ⟨fun a => rel1.le a, fun a z => rel1.lv a z, fun a z => .inl z, fun a o e _ => e⟩ rel1.sl Kio.refl r1 (Bool.eq_false_iff.mpr nb)
theorem s_if {c : Expr} {cc : Ce} {A B : List Stmt} (hc : PT X c (TTc X G W cc)) (ha : PSs X A (TSs X G W io sa)) (hb : PSs X B (TSs X G W io sb)) : PS X (.If c A B pos) (TSc X G W io (.ite cc sa sb)) :=
  (ps_if hc ha hb).imp fun D σ H ⟨fr, fps, s, rel, h⟩ => by
    refine tS_step (R1 := rB) (f0 := 0) rel h fun x s1 v H1 fps1 f1 e1 st1 rel1 r1 h1 => ?_
    obtain ⟨rfl, rfl⟩ := r1
    cases v with
    | true => exact tS_last rel1 h1
    | false => exact tS_last rel1 h1
theorem s_set {i : Nat} {x : Str} {pos' : Pos} (hN : X.N.Nodup) (hi : X.N[i]? = some x) (hx : Loc X.env.scope x) (he : PE X e (TEc X G W c)) (hio : io ≤ i := by decide) (hs : swapsWith e (some (.Name x pos')) pos.line X.env = pure false := by rfl)
    (hf : X.fn x = true ∨ X.env.scope.names.lookup x = some .local := by first | exact .inl rfl | exact .inr rfl | assumption) : PS X (.Assign [.Name x pos'] e pos) (TSc X G W io (.asg (.nm i) c)) :=
  (ps_set hN hi hx he hs hf).imp fun D σ H ⟨fr, fps, s, rel, h⟩ => by
    have h' : EndS X.K X.mg W io fr fps 0 σ H ((keepR (ev G c s)).bind fun v s1 => .ok .nx (s1.set i (some v))) D := h
    rw [keepR_bind] at h'
    refine tS_step (f0 := 0) rel h' fun x s1 v H1 fps1 f1 e1 st1 rel1 r1 h1 => ?_
    split at h1
    · exact h1.elim
    · rename_i nb
      exact EndS.put (fv := f1) rel1 h1 hio (fun a => by simp only [Fp.add_at, Fp.zero_at]; omega) (Bool.eq_false_iff.mpr nb) r1
def ipA (X : Cx) : Operator → TIp
  | .Add => ipI fun i j => i + j
  | .Sub => ipI fun i j => i - j
  | _ => fun _ _ _ _ => False
theorem ip_any : ∀ op, PIp X op (ipA X op)
  | .Add => ip_add | .Sub => ip_sub
  | .Mult => fun _ _ _ _ _ _ _ _ _ _ _ _ h => h.elim | .FloorDiv => fun _ _ _ _ _ _ _ _ _ _ _ _ h => h.elim | .Mod => fun _ _ _ _ _ _ _ _ _ _ _ _ h => h.elim | .Pow => fun _ _ _ _ _ _ _ _ _ _ _ _ h => h.elim
  | .MatMult => fun _ _ _ _ _ _ _ _ _ _ _ _ h => h.elim | .Div => fun _ _ _ _ _ _ _ _ _ _ _ _ h => h.elim | .LShift => fun _ _ _ _ _ _ _ _ _ _ _ _ h => h.elim | .RShift => fun _ _ _ _ _ _ _ _ _ _ _ _ h => h.elim
  | .BitOr => fun _ _ _ _ _ _ _ _ _ _ _ _ h => h.elim | .BitXor => fun _ _ _ _ _ _ _ _ _ _ _ _ h => h.elim | .BitAnd => fun _ _ _ _ _ _ _ _ _ _ _ _ h => h.elim
end
end DV

set_option Elab.async false
set_option linter.all false
set_option maxRecDepth 100000
set_option maxHeartbeats 1000000
/-! DV16: statements, II. -/
namespace DV
open PySem L2 PySem.Spec PyProof.Rows

section
variable {X : Cx} {G : List Info} {W : WX} {c ca cb cc : Ce} {cs : Ces} {a b e e1 e2 e3 : Expr} {es : List Expr} {pos p p2 q2 : Pos} {io : Nat} {st : Stmt} {sts : List Stmt} {sc : Cs} {ss sa sb : Css}
/-! ### x op= e -/
def ipM (X : Cx) : Operator → TIp
  | .Add => ipI fun i j => i + j
  | .Sub => ipI fun i j => i - j
  | .Mult => fun x y H Q => ∃ i j, x = .int i ∧ y = .int j ∧ CMul i j ∧ Q (.int (i * j)) H
  | _ => fun _ _ _ _ => False
theorem ip_mul : PIp X .Mult (ipM X .Mult) := by
  intro pins s σ H x y v u Q I r1 r2 h
  obtain ⟨i, j, e1, e2, hc, q⟩ := h
  subst e1; subst e2
  obtain ⟨t, rfl⟩ := r1
  obtain ⟨t', rfl⟩ := r2
  exact imul_int ⟨.int _, H, I.tok _, ⟨_, rfl⟩, q⟩ hc.ok
theorem ip_some {op : Operator} (h : op = .Add ∨ op = .Sub ∨ op = .Mult) : PIp X op (ipM X op) := by
  rcases h with h | h | h
  · subst h; exact ip_add
  · subst h; exact ip_sub
  · subst h; exact ip_mul
theorem s_aug {i : Nat} {x : Str} {op : Operator} {pos' : Pos} (hN : X.N.Nodup) (hi : X.N[i]? = some x) (hx : Loc X.env.scope x) (he : PE X e (TEc X G W c)) (ho : op = .Add ∨ op = .Sub ∨ op = .Mult := by decide) (hio : io ≤ i := by decide)
    (hf : X.fn x = true ∨ X.env.scope.names.lookup x = some .local := by first | exact .inl rfl | exact .inr rfl | assumption) : PS X (.AugAssign (.Name x pos') op e pos) (TSc X G W io (.aug i op c)) :=
  (ps_aug hN hi hx he (ip_some ho) hf).imp fun D σ H ⟨fr, fps, s, rel, h⟩ => by
    have h' : EndS X.K X.mg W io fr fps 0 σ H (match s[i]? with
      | some (some (_, .int n)) => (ev G c s).bind fun v s1 => (match v.2 with
        | .int k => (ofO (binD op (.int n) (.int k)) s1).bind fun r s2 => .ok .nx (s2.set i (some r))
        | _ => .no)
      | _ => .no) D := h
    split at h'
    · rename_i m n es
      obtain ⟨v, f, e1, e2, e3, r⟩ := rel.sl.at_ i _ _ es
      refine ⟨v, e1, ?_⟩
      obtain rfl : v = .int n := r.int
      refine tS_step (f0 := 0) rel h' fun x s1 v H1 fps1 f1 e1 st1 rel1 r1 h1 => ?_
      split at h1
      · rename_i k ek
        obtain rfl : v = .int k := (show RepM X.K _ H1 x.1 (.int k) v f1 from by rw [← ek]; exact r1).int
        have fin : ∀ z, EndS X.K X.mg W io fr fps1 (0 + f1) σ H1 (.ok .nx (s1.set i (some (fzv (.int z))))) D → D.nx (σ.set i (some (.int z))) H1 := fun z h => EndS.put (fv := 0) rel1 h hio (fun a => Nat.zero_le _) rfl ⟨rfl, rfl⟩
        rcases ho with ho | ho | ho
        · subst ho; exact ⟨n, k, rfl, rfl, fin _ h1⟩
        · subst ho; exact ⟨n, k, rfl, rfl, fin _ h1⟩
        · subst ho
          have h1' : EndS X.K X.mg W io fr fps1 (0 + f1) σ H1 ((ofO (if (-(2 ^ 64) < n ∧ n < 2 ^ 64) ∨ (-(2 ^ 64) < k ∧ k < 2 ^ 64) then some (fzv (.int (n * k))) else none) s1).bind fun r s2 => .ok .nx (s2.set i (some r))) D := h1
          split at h1'
          · rename_i hc
            exact ⟨n, k, rfl, rfl, hc, fin _ h1'⟩
          · exact h1'.elim
      · exact h1.elim
    · exact h'.elim

/-! ### x.append(e), x.extend(e) -/
theorem lsE_v {i : Nat} {K : PySem.W.Frag} {cn' : Fp} {σ : L2.St} {H : Hp} {s : En} {fps : List Fp} (sl : Slots K cn' σ H s fps) (h : lsE s i = true) : ∃ v, σ[i]? = some (some v) ∧ tyV K "list" v H := by
  unfold lsE at h
  split at h
  · rename_i m xs e
    obtain ⟨v, f, e1, e2, e3, r⟩ := sl.at_ i _ _ e
    obtain ⟨a, vs, ea, hs, _⟩ := r.seq
    subst ea
    exact ⟨_, e1, .inl ⟨rfl, vs, hs⟩⟩
  · cases h
section
variable {K : PySem.W.Frag} {mg : Str → Option Value} {q q1 : Bool} {fr f0 f1 f fv fi fi' : Fp} {fps fps1 : List Fp} {σ σ1 σ' : L2.St} {H H1 H' : Hp} {s s1 : En} {i : Nat}
theorem EndS.chg {DD : Ends} {m' : Md} {d' : PyData} {v : V} {p : Addr} (rel : Rel K (fr + f0) fps σ H s) (h : EndS K mg W io fr fps f0 σ H (.ok .nx (s.set i (some (m', d')))) DD) (ei : fps[i]? = some fi) (hp : 0 < fi p) (hH : ∀ a, a ≠ p → H' a = H a) (hHp : H' p ≠ none)
    (hf : ∀ a, fi' a ≤ fi a + f0 a) (hv : σ[i]? = some (some v)) (nb : m'.isB = false) (r : RepM K (cn fr (fps.set i fi')) H' m' d' v fi') : DD.nx σ H' := by
  obtain ⟨st, sl⟩ := DV.chg rel ei hp hH hHp hf hv nb r
  exact h σ H' _ st sl Kio.refl
/-- a held value among the temporary ones, let go as slot i's list takes it in -/
theorem fz_in {m : Md} {d : PyData} {v : V} {p : Addr} (rel : Rel K (fr + f0) fps σ H s) (ei : fps[i]? = some fi) (hp : 0 < fi p) (hH : ∀ a, a ≠ p → H' a = H a) (hf : ∀ a, fv a ≤ f0 a) (nb : m.isB = false) (r : RepM K (cn (fr + f0) fps) H m d v fv) : Rep K (cn fr (fps.set i fi)) H' d v := by
  have k := chg_kp (fi' := fi) (f0 := 0) (rel.drop : Rel K (fr + 0) fps σ H s) ei hp hH fun a => Nat.le_refl _
  exact Rep.mono k _ _ (fz_of rel hf nb r)
end
theorem app_in (σ : L2.St) (H : Hp) (D : Ends) {i : Nat} (q : TSc X G W io (.app i c) D σ H) : tBM X.K "list" rAppend (tVar i) (TAc X G W (.cons c .nil)) σ H (fun _ H1 => D.nx σ H1) := by
  obtain ⟨fr, fps, s, rel, h⟩ := q
  have h' : EndS X.K X.mg W io fr fps 0 σ H (if lsE s i = true then (keepR (ev G c s)).bind fun v s1 => (match ownedL i s1 with
    | some (.o1, xs) => if xs.length < lineN then .ok .nx (s1.set i (some (.o1, .list (xs ++ [v.2])))) else .no
    | some (.o2, xs) => if xs.length < lineN ∧ (decide (v.1 = .o1) || imm v.2) = true then .ok .nx (s1.set i (some (.o2, .list (xs ++ [v.2])))) else .no
    | _ => .no) else .no) D := h
  split at h'
  · rename_i hl
    obtain ⟨v, hσ, ty⟩ := lsE_v rel.sl hl
    refine ⟨v, hσ, ty, ?_⟩
    rw [keepR_bind] at h'
    have h2 : EndS X.K X.mg W io fr fps 0 σ H ((evs G (.cons c .nil) s).bind fun vs s1 => match vs with
      | [v] => if v.1.isB = true then .no else (match ownedL i s1 with
        | some (.o1, xs) => if xs.length < lineN then .ok .nx (s1.set i (some (.o1, .list (xs ++ [v.2])))) else .no
        | some (.o2, xs) => if xs.length < lineN ∧ (decide (v.1 = .o1) || imm v.2) = true then .ok .nx (s1.set i (some (.o2, .list (xs ++ [v.2])))) else .no
        | _ => .no)
      | _ => .no) D := by
      rw [evs_one, Rs.bind_assoc]
      exact h'
    refine tS_step (R1 := rMs X.K) (f0 := 0) rel h2 fun x s1 us H1 fps1 f1 e1 st1 rel1 r1 h1 => ?_
    split at h1
    · rename_i x
      obtain ⟨w, r', g, h', eu, rw_, ⟨h2, eh⟩, ef⟩ := r1
      subst h2 eh
      rw [Fp.add_zero] at ef
      subst ef
      split at h1
      · exact h1.elim
      · rename_i nb
        have hf : ∀ a, f1 a ≤ (0 + f1) a := fun a => by simp only [Fp.add_at, Fp.zero_at]; omega
        split at h1
        · rename_i xs eo
          split at h1
          · rename_i hlen
            obtain ⟨v', f, e1', e2, e3, p, ⟨ev, vs, hv, rr⟩, ef⟩ := rel1.sl.at_ i _ _ (ownedL_1 eo)
            rw [hσ] at e1'
            cases e1'
            subst ev ef
            have hp : 0 < single p p := by rw [single_at]; exact Nat.one_pos
            have hH : ∀ a, a ≠ p → upd H1 p (.lst (vs ++ [w])) a = H1 a := fun a h => upd_ne h
            have k := chg_kp (fi' := single p) rel1 e2 hp hH fun a => by omega
            refine ⟨p, vs, w, rfl, eu, hv, by rw [← rr.len, ← lineN_eq]; exact hlen, ?_⟩
            exact EndS.chg (fi' := single p) rel1 h1 e2 hp hH (by rw [upd_same]; exact fun z => nomatch z) (fun a => by omega) hσ rfl ⟨p, ⟨rfl, _, upd_same, (Reps.mono k _ _ rr).append (Reps.one (fz_in rel1 e2 hp hH hf (Bool.eq_false_iff.mpr nb) rw_))⟩, rfl⟩
          · exact h1.elim
        · rename_i xs eo
          split at h1
          · rename_i hlen
            obtain ⟨v', f, e1', e2, e3, xs', p, vs, gg, exs, ev, hv, rr, ef⟩ := rel1.sl.at_ i _ _ (ownedL_1 eo)
            cases exs
            rw [hσ] at e1'
            cases e1'
            subst ev ef
            have hp : 0 < (single p + gg) p := by rw [Fp.add_at, single_at]; omega
            have hH : ∀ a, a ≠ p → upd H1 p (.lst (vs ++ [w])) a = H1 a := fun a h => upd_ne h
            have k := chg_kp (fi' := single p + (gg + f1)) rel1 e2 hp hH fun a => by show single p a + (gg a + f1 a) ≤ single p a + gg a + (0 + f1 a); omega
            have re : RepEs X.K (cn (fr + (0 + f1)) fps1) H1 (xs ++ [x.2]) (vs ++ [w]) (gg + f1) := by
              refine RepEs.snoc rr ?_
              have := RepMs.es (K := X.K) (vs := [x]) (us := [w]) (f := f1) (by rw [List.all_cons, List.all_nil, Bool.and_true]; exact hlen.2) ⟨w, [], f1, 0, rfl, rw_, ⟨rfl, rfl⟩, Fp.add_zero _⟩
              obtain ⟨w', r2, g2, h2, e2', h3, h4, e4⟩ := this
              cases e2'
              rw [h4.2, Fp.add_zero] at e4
              subst e4
              exact h3
            have le1 := rel1.le p
            have lep : fr p + (0 + f1 p) + tot fps1 p ≤ 1 := le1
            have ti := tot_le p e2
            rw [Fp.add_at, single_at] at ti
            refine ⟨p, vs, w, rfl, eu, hv, by rw [← rr.len, ← lineN_eq]; exact hlen.1, ?_⟩
            refine EndS.chg (fi' := single p + (gg + f1)) rel1 h1 e2 hp hH (by rw [upd_same]; exact fun z => nomatch z) (fun a => by show single p a + (gg a + f1 a) ≤ single p a + gg a + (0 + f1 a); omega) hσ rfl ⟨_, p, _, gg + f1, rfl, rfl, upd_same, re.mono k fun a o z e => ?_, rfl⟩
            rw [hH a fun y => ?_]; exact e
            subst y
            have z' : 0 < gg a + f1 a := z
            omega
          · exact h1.elim
        · exact h1.elim
    · exact h1.elim
  · exact h'.elim
theorem s_app {i : Nat} {o : Expr} {apos cpos : Pos} (ho : PE X o (tVar i)) (ha : PA X [e] (TAc X G W (.cons c .nil)))
    (hsw : swapsWith (.Call (.Attribute o "append" apos) [e] [] cpos) none pos.line X.env = pure false := by rfl)
    (hbase : attributeBase o "append" X.env (eval o X.env) = eval o X.env := by rfl)
    (hfew : ((backTo cpos (starEach [e] X.env)).all (fun x => !x.1) && (backToKw cpos (keywordEach [] X.env)).all (fun x => x.1.isSome) && decide ([e].length + ([] : List Keyword).length + (if ([] : List Keyword).isEmpty then 0 else 1) < 30)) = true := by rfl)
    (hline : (apos.endLine == cpos.line) = true := by rfl) (hs : starEach [e] X.env = (false, eval e X.env) :: starEach [] X.env := by rfl) (hpl : (backTo cpos (starEach [] X.env)).any (·.1) = false := by rfl) :
    PS X (.Expr (.Call (.Attribute o "append" apos) [e] [] cpos) pos) (TSc X G W io (.app i c)) :=
  (ps_expr (pe_bm PySem.F.plainAttrs_list PySem.F.slot_list_append PySem.F.type_list_append mt_append ho ha hbase hfew hline hs hpl) hsw).imp fun D σ H h => app_in σ H D h
end
end DV

set_option Elab.async false
set_option linter.all false
set_option maxRecDepth 100000
set_option maxHeartbeats 1000000
/-! DV17: statements, III. -/
namespace DV
open PySem L2 PySem.Spec PyProof.Rows

section
variable {X : Cx} {G : List Info} {W : WX} {c ca cb cc ci : Ce} {cs : Ces} {a b e e1 e2 e3 : Expr} {es : List Expr} {pos p p2 q2 : Pos} {io : Nat} {st : Stmt} {sts : List Stmt} {sc : Cs} {ss sa sb : Css}
/-! ### x[j].append(e) -/
theorem inner_1 {i : Nat} {k : PyData} {s : En} {n : Nat} {xs ys : List PyData} (h : inner i k s = some (n, xs, ys)) : ∃ z, k = .int z ∧ ownedL i s = some (.o2, xs) ∧ ixI xs.length z = some n ∧ xs[n]? = some (.list ys) := by
  unfold inner at h
  split at h
  · rename_i k xs' e
    obtain ⟨m, hm, h⟩ := Option.bind_eq_some_iff.mp h
    split at h
    · rename_i ys' hy
      cases h
      exact ⟨_, rfl, e, hm, hy⟩
    · cases h
  · cases h
theorem app2_in (σ : L2.St) (H : Hp) (D : Ends) {i : Nat} (q : TSc X G W io (.app2 i cb c) D σ H) : tBM X.K "list" rAppend (tOp (rIxL X.K) (tVar i) (TEc X G W cb)) (TAc X G W (.cons c .nil)) σ H (fun _ H1 => D.nx σ H1) := by
  obtain ⟨fr, fps, s, rel, h⟩ := q
  have h' : EndS X.K X.mg W io fr fps 0 σ H (if (qt cb && qt c && hasE s i) = true then (ev G cb s).bind fun k s1 => (match inner i k.2 s1 with
      | none => .no
      | some _ => (keepR (ev G c s1)).bind fun v s2 => (match inner i k.2 s2 with
        | some (n, xs, ys) => if ys.length < lineN then .ok .nx (s2.set i (some (.o2, .list (xs.set n (.list (ys ++ [v.2])))))) else .no
        | none => .no)) else .no) D := h
  split at h'
  · rename_i hq
    rw [Bool.and_eq_true, Bool.and_eq_true] at hq
    obtain ⟨v, hσ⟩ := hasE_v (b := 0) rel.sl hq.2
    refine ⟨v, hσ, ?_⟩
    refine tS_step (f0 := 0) rel h' fun k s1 u H1 fps1 f1 ek st1 rel1 r1 h1 => ?_
    split at h1
    · exact h1.elim
    · rename_i nxy ei
      obtain ⟨n, xs, ys⟩ := nxy
      obtain ⟨z, hz, eo, hn, hy⟩ := inner_1 ei
      obtain ⟨v', f, e1, e2, e3, xs', p, vs, g, exs, ev', hv, rr, ef⟩ := rel1.sl.at_ i _ _ (ownedL_1 eo)
      cases exs
      rw [hσ] at e1
      cases e1
      subst ev' ef
      obtain ⟨w, gi, hw, re, hg⟩ := rr.get hy
      rcases re with ⟨im, _⟩ | ⟨_, l, ⟨ew, zs, hzs, rz⟩, egi⟩
      · cases im
      · subst ew egi
        obtain rfl : u = .int z := (show RepM X.K _ H1 k.1 (.int z) u f1 from by rw [← hz]; exact r1).int
        refine ⟨p, vs, z, .ref l, rfl, rfl, .of hv, ?_, .inl ⟨rfl, zs, .of hzs⟩, ?_⟩
        · unfold atI
          rw [← rr.len, ← ixI_eq, hn]
          exact hw
        · rw [keepR_bind] at h1
          have h2 : EndS X.K X.mg W io fr fps1 (0 + f1) σ H1 ((evs G (.cons c .nil) s1).bind fun us s2 => match us with
            | [v] => if v.1.isB = true then .no else (match inner i k.2 s2 with
              | some (n, xs, ys) => if ys.length < lineN then .ok .nx (s2.set i (some (.o2, .list (xs.set n (.list (ys ++ [v.2])))))) else .no
              | none => .no)
            | _ => .no) D := by
            rw [evs_one, Rs.bind_assoc]
            exact h1
          refine tS_step (R1 := rMs X.K) rel1 h2 fun x s2 us H2 fps2 f2 ee st2 rel2 r2 h3 => ?_
          split at h3
          · rename_i x
            obtain ⟨w', r', g', h', eu, rw_, ⟨h2', eh⟩, ef⟩ := r2
            subst h2' eh
            rw [Fp.add_zero] at ef
            subst ef
            split at h3
            · exact h3.elim
            · rename_i nb
              split at h3
              · rename_i n' xs' ys' ei'
                split at h3
                · rename_i hlen
                  obtain ⟨z', hz', eo', hn', hy'⟩ := inner_1 ei'
                  rw [hz] at hz'
                  cases hz'
                  obtain ⟨v2, ff, e1', e2', e3', xs2, p2, vs2, gg, exs2, ev2, hv2, rr2, ef2⟩ := rel2.sl.at_ i _ _ (ownedL_1 eo')
                  cases exs2
                  rw [hσ] at e1'
                  cases e1'
                  cases ev2
                  subst ef2
                  have hvv := st2.kp p _ hv (.inl (by show qts (.cons c .nil) = true; show (qt c && true) = true; rw [hq.1.2]; rfl))
                  rw [hvv] at hv2
                  cases hv2
                  have hnn : n' = n := by
                    rw [rr.len, ← rr2.len] at hn
                    rw [hn] at hn'
                    exact (Option.some.inj hn').symm
                  subst hnn
                  have hff : ∀ a, f2 a ≤ (0 + f1 + f2) a := fun a => by simp only [Fp.add_at, Fp.zero_at]; omega
                  have le1 : ∀ a, gg a ≤ 1 := fun a => by
                    have := tot_le a e2'
                    have h := rel2.le a
                    rw [Fp.add_at (single p)] at this
                    omega
                  obtain ⟨w2, gi, gh, hw2, re2, eg, up⟩ := rr2.chg hy' le1
                  rw [hw] at hw2
                  cases hw2
                  rcases re2 with ⟨im, _⟩ | ⟨_, l2, ⟨ew2, zs2, hzs2, rz2⟩, egi2⟩
                  · cases im
                  · cases ew2
                    subst egi2
                    have gl : 0 < single l l := by rw [single_at]; exact Nat.one_pos
                    have hfl : 0 < (single p + gg) l := by rw [Fp.add_at]; have := eg l; omega
                    have hH : ∀ a, a ≠ l → upd H2 l (.lst (zs2 ++ [w'])) a = H2 a := fun a h => upd_ne h
                    have k' := chg_kp (fi' := single p + gg) rel2 e2' hfl hH fun a => by omega
                    have pl : p ≠ l := fun z => by
                      subst z
                      have := tot_le p e2'
                      have h := rel2.le p
                      rw [Fp.add_at (single p), single_at] at this
                      have := eg p
                      rw [single_at] at this
                      omega
                    refine ⟨l, zs2, w', rfl, eu, hzs2, by rw [← rz2.len, ← lineN_eq]; exact hlen, ?_⟩
                    have eg' : single l + gh = gg := Fp.ext fun a => (eg a).symm
                    refine EndS.chg (fi' := single p + gg) rel2 h3 e2' hfl hH (by rw [upd_same]; exact fun z => nomatch z) (fun a => by omega) hσ rfl ⟨_, p, vs, gg, rfl, rfl, ?_, ?_, rfl⟩
                    · rw [upd_ne pl]; exact hvv
                    · have rzz := fz_in rel2 e2' hfl hH hff (Bool.eq_false_iff.mpr nb) rw_
                      rw [← eg'] at k' rzz ⊢
                      exact up _ _ l _ (single l) gl k' hH (.inr ⟨rfl, l, ⟨rfl, _, upd_same, (Reps.mono k' _ _ rz2).append (Reps.one rzz)⟩, rfl⟩)
                · exact h3.elim
              · exact h3.elim
          · exact h3.elim
  · exact h'.elim
theorem s_app2 {i : Nat} {o : Expr} {apos cpos : Pos} (ho : PE X o (tVar i)) (hj : PE X b (TEc X G W cb)) (ha : PA X [e] (TAc X G W (.cons c .nil))) (hx : PlainIx b := by intro _ _; rfl)
    (hsw : swapsWith (.Call (.Attribute (.Subscript o b p) "append" apos) [e] [] cpos) none pos.line X.env = pure false := by rfl)
    (hbase : attributeBase (.Subscript o b p) "append" X.env (eval (.Subscript o b p) X.env) = eval (.Subscript o b p) X.env := by rfl)
    (hfew : ((backTo cpos (starEach [e] X.env)).all (fun x => !x.1) && (backToKw cpos (keywordEach [] X.env)).all (fun x => x.1.isSome) && decide ([e].length + ([] : List Keyword).length + (if ([] : List Keyword).isEmpty then 0 else 1) < 30)) = true := by rfl)
    (hline : (apos.endLine == cpos.line) = true := by rfl) (hs : starEach [e] X.env = (false, eval e X.env) :: starEach [] X.env := by rfl) (hpl : (backTo cpos (starEach [] X.env)).any (·.1) = false := by rfl) :
    PS X (.Expr (.Call (.Attribute (.Subscript o b p) "append" apos) [e] [] cpos) pos) (TSc X G W io (.app2 i cb c)) :=
  (ps_expr (pe_bm PySem.F.plainAttrs_list PySem.F.slot_list_append PySem.F.type_list_append mt_append (pe_ix ix_list ho hj hx) ha hbase hfew hline hs hpl) hsw).imp fun D σ H h => app2_in σ H D h

/-! ### x[k] = e -/
/-- the value and the key, read; the slot behind it -/
def setV (G : List Info) (i : Nat) (ci c : Ce) (s : En) : Option (MD × MD × MD × En) := match ev G c s with
  | .ok v s1 => match ev G ci s1 with
    | .ok k s2 => match s2[i]? with
      | some (some md) => some (v, k, md, s2)
      | _ => none
    | _ => none
  | _ => none
def sSet (i : Nat) (r : Option (MD × MD × MD × En)) : Rs Fl := match r with
  | some (v, k, md, s2) => (match md, k.2 with
      | (.o1, .list xs), .int k => (match ixI xs.length k with
        | some n => .ok .nx (s2.set i (some (.o1, .list (xs.set n v.2))))
        | none => .no)
      | (.o2, .list xs), .int k => (match ixI xs.length k with
        | some n => if (decide (v.1 = .o1) || imm v.2) = true then .ok .nx (s2.set i (some (.o2, .list (xs.set n v.2)))) else .no
        | none => .no)
      | (.o1, .dict kvs), .int k => if kvs.length < 1000000 then .ok .nx (s2.set i (some (.o1, .dict (put (.int k) v.2 kvs)))) else .no
      | (.o1, .dict kvs), .str k => if kvs.length < 1000000 then .ok .nx (s2.set i (some (.o1, .dict (put (.str k) v.2 kvs)))) else .no
      | _, _ => .no)
  | none => .no
theorem set_in (σ : L2.St) (H : Hp) (D : Ends) {i : Nat} (q : TSc X G W io (.set i ci c) D σ H) : tAsg (TEc X G W c) (gSub (tVar i) (TEc X G W ci) rSetL) D σ H ∨ sDPut (tVar i) (TEc X G W ci) (TEc X G W c) D σ H := by
  obtain ⟨fr, fps, s, rel, h⟩ := q
  have h' : EndS X.K X.mg W io fr fps 0 σ H ((keepR (ev G c s)).bind fun v s1 => if (qt ci && hasE s1 i) = true then (ev G ci s1).bind fun k s2 => (match s2[i]?, k.2 with
      | some (some (.o1, .list xs)), .int k => (match ixI xs.length k with
        | some n => .ok .nx (s2.set i (some (.o1, .list (xs.set n v.2))))
        | none => .no)
      | some (some (.o2, .list xs)), .int k => (match ixI xs.length k with
        | some n => if (decide (v.1 = .o1) || imm v.2) = true then .ok .nx (s2.set i (some (.o2, .list (xs.set n v.2)))) else .no
        | none => .no)
      | some (some (.o1, .dict kvs)), .int k => if kvs.length < 1000000 then .ok .nx (s2.set i (some (.o1, .dict (put (.int k) v.2 kvs)))) else .no
      | some (some (.o1, .dict kvs)), .str k => if kvs.length < 1000000 then .ok .nx (s2.set i (some (.o1, .dict (put (.str k) v.2 kvs)))) else .no
      | _, _ => .no) else .no) D := h
  rw [keepR_bind] at h'
  by_cases hd : ∃ v s1 k s2 kvs, ev G c s = .ok v s1 ∧ ev G ci s1 = .ok k s2 ∧ s2[i]? = some (some (.o1, .dict kvs))
  · obtain ⟨v0, s10, k0, s20, kvs, ev0, ek0, es0⟩ := hd
    right
    refine tS_step (f0 := 0) rel h' fun v s1 u H1 fps1 f1 ee st1 rel1 r1 h1 => ?_
    rw [ev0] at ee
    cases ee
    split at h1
    · exact h1.elim
    · rename_i nb
      split at h1
      · rename_i hh
        rw [Bool.and_eq_true] at hh
        obtain ⟨w, hσ⟩ := hasE_v (b := 0) rel1.sl hh.2
        refine ⟨w, hσ, ?_⟩
        refine tS_step rel1 h1 fun k s2 u2 H2 fps2 f2 ee st2 rel2 r2 h2 => ?_
        rw [ek0] at ee
        cases ee
        obtain ⟨v', f, e1', e2, e3, p, ⟨ev', ks, hv, rr⟩, ef⟩ := rel2.sl.at_ i _ _ es0
        rw [hσ] at e1'
        cases e1'
        subst ev' ef
        have hp : 0 < single p p := by rw [single_at]; exact Nat.one_pos
        have r1' := st2.keepM rel1.le (f1 := f1) (fun a => by simp only [Fp.add_at, Fp.zero_at]; omega) (fun z => absurd z nb) r1
        have hf : ∀ a, f1 a ≤ (0 + f1 + f2) a := fun a => by simp only [Fp.add_at, Fp.zero_at]; omega
        have fin : ∀ (key : Key), kvs.length < 1000000 → EndS X.K X.mg W io fr fps2 (0 + f1 + f2) σ H2 (.ok .nx (s20.set i (some (.o1, .dict (put (keyD key) v0.2 kvs))))) D → u2 = kV key → ∃ a H4, V.ref p = .ref a ∧ DPut H2 a u2 u H4 ∧ D.nx σ H4 := fun key hl h eu => by
          have hH : ∀ a, a ≠ p → upd H2 p (.dK (putK ks key u)) a = H2 a := fun a h => upd_ne h
          have kp := chg_kp (fi' := single p) rel2 e2 hp hH fun a => by omega
          refine ⟨p, upd H2 p (.dK (putK ks key u)), rfl, .inl ⟨ks, key, hv, eu, ?_, rfl⟩, ?_⟩
          · rw [← RepKs.len rr]
            have : (1000000 : Nat) < sizeLine := by rw [sizeLine_eq]; omega
            omega
          · exact EndS.chg (fi' := single p) rel2 h e2 hp hH (by rw [upd_same]; exact fun z => nomatch z) (fun a => by omega) hσ rfl ⟨p, ⟨rfl, _, upd_same, RepKs.put key (fz_in rel2 e2 hp hH hf (Bool.eq_false_iff.mpr nb) r1') (RepKs.mono kp _ _ rr)⟩, rfl⟩
        obtain ⟨mk, dk⟩ := k0
        rw [es0] at h2
        cases dk with
        | int z =>
          have h3 : EndS X.K X.mg W io fr fps2 (0 + f1 + f2) σ H2 (if kvs.length < 1000000 then .ok .nx (s20.set i (some (.o1, .dict (put (.int z) v0.2 kvs)))) else .no) D := h2
          split at h3
          · rename_i hl
            exact fin (.inl z) hl h3 (RepM.int r2)
          · exact h3.elim
        | str z =>
          have h3 : EndS X.K X.mg W io fr fps2 (0 + f1 + f2) σ H2 (if kvs.length < 1000000 then .ok .nx (s20.set i (some (.o1, .dict (put (.str z) v0.2 kvs)))) else .no) D := h2
          split at h3
          · rename_i hl
            exact fin (.inr z) hl h3 (RepM.str r2)
          · exact h3.elim
        | none => exact h2.elim
        | bool _ => exact h2.elim
        | list _ => exact h2.elim
        | tuple _ => exact h2.elim
        | dict _ => exact h2.elim
      · exact h1.elim
  · left
    refine tS_step (f0 := 0) rel h' fun v s1 u H1 fps1 f1 ee st1 rel1 r1 h1 => ?_
    split at h1
    · exact h1.elim
    · rename_i nb
      split at h1
      · rename_i hh
        rw [Bool.and_eq_true] at hh
        obtain ⟨w, hσ⟩ := hasE_v (b := 0) rel1.sl hh.2
        refine ⟨w, hσ, ?_⟩
        refine tS_step rel1 h1 fun k s2 u2 H2 fps2 f2 ee2 st2 rel2 r2 h2 => ?_
        have r1' := st2.keepM rel1.le (f1 := f1) (fun a => by simp only [Fp.add_at, Fp.zero_at]; omega) (fun z => absurd z nb) r1
        have hf : ∀ a, f1 a ≤ (0 + f1 + f2) a := fun a => by simp only [Fp.add_at, Fp.zero_at]; omega
        split at h2
        · rename_i xs z es0 ek
          split at h2
          · rename_i n hn
            obtain ⟨v', f, e1', e2, e3, p, ⟨ev', vs, hv, rr⟩, ef⟩ := rel2.sl.at_ i _ _ es0
            rw [hσ] at e1'
            cases e1'
            subst ev' ef
            obtain rfl : u2 = .int z := (show RepM X.K _ H2 k.1 (.int z) u2 f2 from by rw [← ek]; exact r2).int
            have hp : 0 < single p p := by rw [single_at]; exact Nat.one_pos
            have hH : ∀ a, a ≠ p → upd H2 p (.lst (vs.set n u)) a = H2 a := fun a h => upd_ne h
            have kp := chg_kp (fi' := single p) rel2 e2 hp hH fun a => by omega
            refine ⟨p, vs, z, n, rfl, rfl, hv, by rw [← rr.len, ← ixI_eq]; exact hn, ?_⟩
            exact EndS.chg (fi' := single p) rel2 h2 e2 hp hH (by rw [upd_same]; exact fun z => nomatch z) (fun a => by omega) hσ rfl ⟨p, ⟨rfl, _, upd_same, (Reps.mono kp _ _ rr).set n (fz_in rel2 e2 hp hH hf (Bool.eq_false_iff.mpr nb) r1')⟩, rfl⟩
          · exact h2.elim
        · rename_i xs z es0 ek
          split at h2
          · rename_i n hn
            split at h2
            · rename_i him
              obtain ⟨v', f, e1', e2, e3, xs', p, vs, gg, exs, ev', hv, rr, ef⟩ := rel2.sl.at_ i _ _ es0
              cases exs
              rw [hσ] at e1'
              cases e1'
              subst ev' ef
              obtain rfl : u2 = .int z := (show RepM X.K _ H2 k.1 (.int z) u2 f2 from by rw [← ek]; exact r2).int
              have hp : 0 < (single p + gg) p := by rw [Fp.add_at, single_at]; omega
              have hH : ∀ a, a ≠ p → upd H2 p (.lst (vs.set n u)) a = H2 a := fun a h => upd_ne h
              have hlt : n < xs.length := by
                unfold ixI at hn
                split at hn
                · split at hn
                  · cases hn; omega
                  · cases hn
                · split at hn
                  · cases hn; omega
                  · cases hn
              obtain ⟨d0, hd0⟩ : ∃ d0, xs[n]? = some d0 := ⟨_, List.getElem?_eq_getElem hlt⟩
              have rE : RepE X.K (cn (fr + (0 + f1 + f2)) fps2) H2 v.2 u f1 := by
                have := RepMs.es (K := X.K) (vs := [v]) (us := [u]) (f := f1) (by rw [List.all_cons, List.all_nil, Bool.and_true]; exact him) ⟨u, [], f1, 0, rfl, r1', ⟨rfl, rfl⟩, Fp.add_zero _⟩
                obtain ⟨w', r2, g2, h2, e2', h3, h4, e4⟩ := this
                cases e2'
                rw [h4.2, Fp.add_zero] at e4
                subst e4
                exact h3
              obtain ⟨w0, g0, gh, hw0, re0, eg, rnew⟩ := rr.swap hd0 rE
              have hfi : ∀ a, (single p + (f1 + gh)) a ≤ (single p + gg) a + (0 + f1 + f2) a := fun a => by
                have := eg a
                show single p a + (f1 a + gh a) ≤ single p a + gg a + (0 + f1 a + f2 a)
                omega
              have kp := chg_kp (fi' := single p + (f1 + gh)) rel2 e2 hp hH hfi
              have lep : fr p + (0 + f1 p + f2 p) + tot fps2 p ≤ 1 := rel2.le p
              have ti := tot_le p e2
              rw [Fp.add_at, single_at] at ti
              refine ⟨p, vs, z, n, rfl, rfl, hv, by rw [← rr.len, ← ixI_eq]; exact hn, ?_⟩
              refine EndS.chg (fi' := single p + (f1 + gh)) rel2 h2 e2 hp hH (by rw [upd_same]; exact fun z => nomatch z) hfi hσ rfl ⟨_, p, _, f1 + gh, rfl, rfl, upd_same, rnew.mono kp fun a o z e => ?_, rfl⟩
              rw [hH a fun y => ?_]; exact e
              subst y
              have z' : 0 < f1 a + gh a := z
              have := eg a
              omega
            · exact h2.elim
          · exact h2.elim
        · rename_i kvs z es0 ek
          exact absurd ⟨v, s1, k, s2, kvs, ee, ee2, es0⟩ hd
        · rename_i kvs z es0 ek
          exact absurd ⟨v, s1, k, s2, kvs, ee, ee2, es0⟩ hd
        · exact h2.elim
      · exact h1.elim
theorem s_setix {i k : Nat} {o j : Expr} {pos' : Pos} (hr : Room k X.A) (ho : PE X o (tVar i)) (hj : PE X j (TEc X G W ci)) (he : PE X e (TEc X G W c)) (hsw : swapsWith e (some (.Subscript o j pos')) pos.line X.env = pure false := by rfl)
    (ha : ∀ v, assign (.Subscript o j pos') X.env v = (do
      let ov ← holding [v] (eval o X.env)
      let iv ← holding [v, ov] (eval j X.env)
      standAt pos'
      holding [v, ov, iv] (setItem ov iv v)
      release [v, ov, iv] []) := by intro _; rfl)
    (hs : swapsWithSole [.Subscript o j pos'] e pos.line X.env = pure false := by rfl) (hw : swappedStores [.Subscript o j pos'] e X.env = pure none := by rfl)
    (h1 : (assignEach [.Subscript o j pos'] X.env).map (·.2) = [assign (.Subscript o j pos') X.env] := by rfl) : PS X (.Assign [.Subscript o j pos'] e pos) (TSc X G W io (.set i ci c)) :=
  ((ps_asg he (pg_sub ho hj set_list ha) hs hw h1).or (ps_dput (by have := hr.u65; omega) ho hj he hsw)).imp fun D σ H h => set_in σ H D h
end
end DV

set_option Elab.async false
set_option linter.all false
set_option maxRecDepth 100000
set_option maxHeartbeats 1000000
/-! DV18: targets, sources, for. -/
namespace DV
open PySem L2 PySem.Spec PyProof.Rows

/-! ### targets -/
mutual
def tgL : Tg → List Nat
  | .nm i => [i]
  | .tp ts => tgsL ts
def tgsL : List Tg → List Nat
  | [] => []
  | t :: ts => tgL t ++ tgsL ts
end
/-- all else as it was -/
def Dif (js : List Nat) (σ σ' : L2.St) : Prop := σ'.length = σ.length ∧ ∀ j, j ∉ js → σ'[j]? = σ[j]?
theorem Dif.refl {js : List Nat} {σ : L2.St} : Dif js σ σ := ⟨rfl, fun _ _ => rfl⟩
theorem Dif.trans {js js' : List Nat} {σ σ1 σ2 : L2.St} (a : Dif js σ σ1) (b : Dif js' σ1 σ2) : Dif (js ++ js') σ σ2 := ⟨b.1.trans a.1, fun j h => by
  rw [List.mem_append, not_or] at h
  exact (b.2 j h.2).trans (a.2 j h.1)⟩
theorem Dif.kio {js : List Nat} {io : Nat} {σ σ' : L2.St} (h : Dif js σ σ') (hio : js.all (fun j => decide (io ≤ j)) = true) : Kio io σ σ' := fun j hj => h.2 j fun hm => by
  have := of_decide_eq_true (List.all_eq_true.mp hio j hm)
  omega
def gB (K : PySem.W.Frag) (tg : Tg) : TG := fun v σ H Q => ∃ fr fps s d s', Rel K fr fps σ H s ∧ Rep K (cn fr fps) H d v ∧ bindT tg d s = some s' ∧
  ∀ σ' fps', Rel K fr fps' σ' H s' → (∀ a, tot fps' a ≤ tot fps a) → Dif (tgL tg) σ σ' → Q σ' H
def gBs (K : PySem.W.Frag) (ts : List Tg) : TGs := fun vs σ H Q => ∃ fr fps s ds s', Rel K fr fps σ H s ∧ Reps K (cn fr fps) H ds vs ∧ bindTs ts ds s = some s' ∧
  ∀ σ' fps', Rel K fr fps' σ' H s' → (∀ a, tot fps' a ≤ tot fps a) → Dif (tgsL ts) σ σ' → Q σ' H
section
variable {X : Cx} {G : List Info} {W : WX} {c ca cb cc ci : Ce} {cs : Ces} {a b e e1 e2 e3 : Expr} {es : List Expr} {pos p p2 q2 : Pos} {io : Nat} {st : Stmt} {sts : List Stmt} {sc : Cs} {ss sa sb : Css}
theorem rG_nm {i : Nat} {x : Str} (hN : X.N.Nodup) (hi : X.N[i]? = some x) (hx : Loc X.env.scope x) (hf : X.fn x = true ∨ X.env.scope.names.lookup x = some .local := by first | exact .inl rfl | exact .inr rfl | assumption) : PG X (.Name x pos) (gB X.K (.nm i)) :=
  ⟨fun pins s σ H v u Q I r h => (pg_name hN hi hx hf).run pins s σ H v u Q I r (by
    obtain ⟨fr, fps, s0, d, s', rel, rv, hb, hq⟩ := h
    cases hb
    have rel' : Rel X.K (fr + 0) fps σ H s0 := rel
    obtain ⟨st, sl⟩ := put_ok (m := .fz) (fv := 0) (i := i) rel' (fun a => Nat.le_refl _) rfl ⟨rv, rfl⟩
    exact hq _ _ ⟨fun a => st.le a, fun a z => st.lv a z, sl⟩ (fun a => tot_set0_le i a) ⟨List.length_set, fun j hj => List.getElem?_set_ne fun z => hj (by subst z; exact List.mem_singleton.mpr rfl)⟩)⟩
theorem rGs_nil : PGs X [] (gBs X.K []) := ⟨fun pins s σ H vs us Q I r h => pgs_nil.run pins s σ H vs us Q I r (by
  obtain ⟨fr, fps, s0, ds, s', rel, rv, hb, hq⟩ := h
  cases ds with
  | nil => cases hb; exact ⟨rv, hq _ _ rel (fun a => Nat.le_refl _) Dif.refl⟩
  | cons _ _ => cases hb)⟩
theorem rGs_cons {t : Tg} {ts : List Tg} (h1 : PG X e (gB X.K t)) (h2 : PGs X es (gBs X.K ts)) (hs : (assignEach (e :: es) X.env).map (·.2) = assign e X.env :: (assignEach es X.env).map (·.2) := by rfl) : PGs X (e :: es) (gBs X.K (t :: ts)) :=
  ⟨fun pins s σ H vs us Q I r h => (pgs_cons h1 h2 hs).run pins s σ H vs us Q I r (by
    obtain ⟨fr, fps, s0, ds, s', rel, rv, hb, hq⟩ := h
    cases ds with
    | nil => cases hb
    | cons d ds =>
      obtain ⟨v, r', ev, r1, r2⟩ := rv
      obtain ⟨s1, hb1, hb2⟩ := Option.bind_eq_some_iff.mp hb
      refine ⟨v, r', ev, fr, fps, s0, d, s1, rel, r1, hb1, fun σ' fps' rel' hle kk => ?_⟩
      refine ⟨fr, fps', s1, ds, s', rel', Reps.mono ⟨fun _ _ e _ => e, fun a _ _ z => ?_⟩ _ _ r2, hb2, fun σ2 fps2 rel2 hle2 kk2 => hq σ2 fps2 rel2 (fun a => Nat.le_trans (hle2 a) (hle a)) (kk.trans kk2)⟩
      rw [cn_zero] at z ⊢
      have := hle a
      omega)⟩
theorem rG_tp {k n : Nat} {ts : List Tg} (hc : X.calm = true) (h : PGs X es (gBs X.K ts)) (hn2 : ts.length = n := by rfl) (hn : (assignEach es X.env).length = n := by rfl) (hst : (assignEach es X.env).findIdx? (·.1) = none := by rfl) : PG X (.Tuple es k pos) (gB X.K (.tp ts)) :=
  ⟨fun pins s σ H v u Q I r h' => (pg_tup hc h hn hst).run pins s σ H v u Q I r (by
    obtain ⟨fr, fps, s0, d, s', rel, rv, hb, hq⟩ := h'
    cases d with
    | tuple ds =>
      have hb' : bindTs ts ds s0 = some s' := hb
      obtain ⟨a, xs, ev, hs, rr⟩ := rv
      have hl : ∀ {ts : List Tg} {ds : List PyData} {s s' : En}, bindTs ts ds s = some s' → ds.length = ts.length := by
        intro ts
        induction ts with
        | nil => intro ds s s' h; cases ds with
          | nil => rfl
          | cons _ _ => cases h
        | cons t ts ih => intro ds s s' h; cases ds with
          | nil => cases h
          | cons d ds =>
            obtain ⟨s1, _, h2⟩ := Option.bind_eq_some_iff.mp h
            rw [List.length_cons, List.length_cons, ih h2]
      exact ⟨a, xs, ev, hs.sq, by rw [← rr.len, hl hb', hn2], fr, fps, s0, ds, s', rel, rr, hb', hq⟩
    | none => cases hb
    | bool _ => cases hb
    | int _ => cases hb
    | str _ => cases hb
    | list _ => cases hb
    | dict _ => cases hb)⟩
/-- a, b = e -/
theorem s_setT {tg : Expr} {ts : List Tg} (he : PE X e (TEc X G W c)) (hg : PG X tg (gB X.K (.tp ts))) (hio : (tgsL ts).all (fun j => decide (io ≤ j)) = true := by decide) (hs : swapsWithSole [tg] e pos.line X.env = pure false := by rfl) (hw : swappedStores [tg] e X.env = pure none := by rfl)
    (h1 : (assignEach [tg] X.env).map (·.2) = [assign tg X.env] := by rfl) : PS X (.Assign [tg] e pos) (TSc X G W io (.asg (.tp ts) c)) :=
  (ps_asg he hg hs hw h1).imp fun D σ H ⟨fr, fps, s, rel, h⟩ => by
    have h' : EndS X.K X.mg W io fr fps 0 σ H ((keepR (ev G c s)).bind fun v s1 => match bindT (.tp ts) v.2 s1 with
      | some s2 => .ok .nx s2
      | none => .no) D := h
    rw [keepR_bind] at h'
    refine tS_step (f0 := 0) rel h' fun x s1 v H1 fps1 f1 e1 st1 rel1 r1 h1 => ?_
    split at h1
    · exact h1.elim
    · rename_i nb
      split at h1
      · rename_i s2 hb
        refine ⟨fr, fps1, s1, x.2, s2, rel1.drop, fz_of rel1 (fun a => by simp only [Fp.add_at, Fp.zero_at]; omega) (Bool.eq_false_iff.mpr nb) r1, hb, fun σ' fps' rel' hle kk => ?_⟩
        refine h1 σ' H1 fps' ⟨fun a => rel'.le a, fun a z => rel'.lv a z, fun a z => .inl ?_, fun a o e _ => e⟩ rel'.sl (Dif.kio kk hio)
        have z' : 0 < 0 + tot fps' a := z
        have := hle a
        omega
      · exact h1.elim

/-! ### parallel assignments whose stores are swapped -/
theorem par_in {K : PySem.W.Frag} {cc' : Fp} : True := trivial
theorem puts_ok {K : PySem.W.Frag} {fr : Fp} {H : Hp} : ∀ {is : List Nat} {vs : List MD} {us : List V} {fv f0 : Fp} {fps : List Fp} {σ : L2.St} {s s' : En}, Rel K (fr + f0) fps σ H s → (∀ a, fv a ≤ f0 a) → RepMs K (cn (fr + f0) fps) H vs us fv → parS is vs s = some s' → (∀ i ∈ is, io ≤ i) →
    ∃ fps', Stp false fr fps f0 H H fps' 0 ∧ Slots K (cn fr fps') ((is.zip us).foldl (fun σ p => σ.set p.1 (some p.2)) σ) H s' fps' ∧ Kio io σ ((is.zip us).foldl (fun σ p => σ.set p.1 (some p.2)) σ)
  | [], [], us, fv, f0, fps, σ, s, s', rel, hf, r, h, hio => by
    cases h
    obtain ⟨e, _⟩ := r
    subst e
    exact ⟨fps, Stp.stay rel, rel.sl0, Kio.refl⟩
  | [], _ :: _, us, fv, f0, fps, σ, s, s', rel, hf, r, h, hio => nomatch h
  | _ :: _, [], us, fv, f0, fps, σ, s, s', rel, hf, r, h, hio => nomatch h
  | i :: is, v :: vs, us, fv, f0, fps, σ, s, s', rel, hf, r, h, hio => by
    unfold parS at h
    split at h
    · cases h
    · rename_i nb
      obtain ⟨u, us', g, g', eu, r1, r2, ef⟩ := r
      subst eu ef
      have hg : ∀ a, g a + g' a ≤ f0 a := hf
      -- slot i takes g; g' stays among the temporary ones
      have ts : ∀ a, tot (fps.set i g) a ≤ tot fps a + g a := fun a => by
        cases ei : fps[i]? with
        | some x => have := tot_set g a ei; omega
        | none => rw [List.set_eq_of_length_le (List.getElem?_eq_none_iff.mp ei)]; omega
      have c0 : ∀ a, cn (fr + f0) fps a = 0 → cn (fr + g') (fps.set i g) a = 0 := fun a z => by
        rw [cn_zero, Fp.add_at] at z
        rw [cn_zero, Fp.add_at]
        have := ts a
        have := hg a
        omega
      have mn : ∀ {m d w f}, RepM K (cn (fr + f0) fps) H m d w f → RepM K (cn (fr + g') (fps.set i g)) H m d w f := fun h => RepM.mono ⟨fun _ _ e _ => e, fun a _ _ z => c0 a z⟩ (fun _ _ e _ => e) h
      have rel1 : Rel K (fr + g') (fps.set i g) (σ.set i (some u)) H (s.set i (some v)) := by
        refine ⟨fun a => ?_, fun a z => rel.lv a ?_, Slots.put (rel.sl.less c0) (by rw [List.length_set]) (fun j hj => List.getElem?_set_ne (Ne.symm hj)) _ fun hl m' d' z => ?_⟩
        · have := rel.le a
          rw [Fp.add_at] at this ⊢
          have := ts a
          have := hg a
          omega
        · rw [Fp.add_at] at z ⊢
          have := ts a
          have := hg a
          omega
        · cases z
          exact ⟨u, List.getElem?_set_self (by rw [← rel.sl.ls]; exact hl), Bool.eq_false_iff.mpr nb, mn r1⟩
      obtain ⟨fps', st, sl, kk⟩ := puts_ok rel1 (fun a => Nat.le_refl _) (RepMs.mono ⟨fun _ _ e _ => e, fun a _ _ z => c0 a z⟩ (fun _ _ e _ => e) r2) h (fun j hj => hio j (List.mem_cons_of_mem _ hj))
      refine ⟨fps', ⟨st.le, st.lv, fun a z => (st.nw a z).imp (fun y => ?_) id, fun a o e z => st.kp a o e (z.imp id fun y => ?_)⟩, sl, (Kio.set (hio i List.mem_cons_self)).trans kk⟩
      · have := ts a
        have := hg a
        omega
      · have := ts a
        have := hg a
        omega
theorem par_end {fr fv f0 : Fp} {fps : List Fp} {σ : L2.St} {H : Hp} {s s' : En} {D : Ends} {is : List Nat} {vs : List MD} {us : List V} (rel : Rel X.K (fr + f0) fps σ H s) (hf : ∀ a, fv a ≤ f0 a) (r : RepMs X.K (cn (fr + f0) fps) H vs us fv) (hp : parS is vs s = some s') (hio : ∀ i ∈ is, io ≤ i)
    (h : EndS X.K X.mg W io fr fps f0 σ H (.ok .nx s') D) : D.nx ((is.zip us).foldl (fun σ p => σ.set p.1 (some p.2)) σ) H := by
  obtain ⟨fps', st, sl, kk⟩ := puts_ok rel hf r hp hio
  exact h _ H fps' st sl kk
theorem s_par {i j : Nat} {x y : Str} {px py pt : Pos} {kt k2 pt2} (hc : X.calm = true) (hN : X.N.Nodup) (hi : X.N[i]? = some x) (hj : X.N[j]? = some y) (hij : i ≠ j) (hx : X.env.scope.names.lookup x = some .local) (hy : X.env.scope.names.lookup y = some .local)
    (ha : PA X [a, b] (TAc X G W cs)) (hw : swappedStores [.Tuple [.Name x px, .Name y py] kt pt] (.Tuple [a, b] k2 pt2) X.env = pure (some [x, y])) (hio : ∀ l ∈ [i, j], io ≤ l := by decide)
    (hs : swapsWithSole [.Tuple [.Name x px, .Name y py] kt pt] (.Tuple [a, b] k2 pt2) pos.line X.env = pure false := by rfl) :
    PS X (.Assign [.Tuple [.Name x px, .Name y py] kt pt] (.Tuple [a, b] k2 pt2) pos) (TSc X G W io (.par [i, j] cs)) :=
  (ps_par hc hN hi hj hij hx hy ha hw hs).imp fun D σ H ⟨fr, fps, s, rel, h⟩ => by
    refine tS_step (R1 := rMs X.K) (f0 := 0) rel h fun x s1 us H1 fps1 f1 e1 st1 rel1 r1 h1 => ?_
    split at h1
    · split at h1
      · rename_i s2 hp
        split at h1
        case isFalse => exact h1.elim
        have hl : x.length = 2 := by
          cases x with
          | nil => cases hp
          | cons x1 x =>
            unfold parS at hp
            split at hp
            · cases hp
            · cases x with
              | nil => cases hp
              | cons x2 x =>
                unfold parS at hp
                split at hp
                · cases hp
                · cases x with
                  | nil => rfl
                  | cons _ _ => cases hp
        have hlu : us.length = 2 := by rw [← RepMs.len r1]; exact hl
        match us, hlu with
        | [v, w], _ => exact ⟨v, w, rfl, par_end rel1 (fun a => by simp only [Fp.add_at, Fp.zero_at]; omega) r1 hp hio h1⟩
      · exact h1.elim
    · exact h1.elim
theorem s_par3 {i j l : Nat} {x y z : Str} {a b c : Expr} {px py pz pt pos : Pos} {kt k2 pt2} (hc : X.calm = true) (hN : X.N.Nodup) (hi : X.N[i]? = some x) (hj : X.N[j]? = some y) (hl : X.N[l]? = some z) (hij : i ≠ j) (hil : i ≠ l) (hjl : j ≠ l)
    (hx : X.env.scope.names.lookup x = some .local) (hy : X.env.scope.names.lookup y = some .local) (hz : X.env.scope.names.lookup z = some .local) (ha : PA X [a, b, c] (TAc X G W cs))
    (hw : swappedStores [.Tuple [.Name x px, .Name y py, .Name z pz] kt pt] (.Tuple [a, b, c] k2 pt2) X.env = pure (some [x, y, z])) (hio : ∀ n ∈ [i, j, l], io ≤ n := by decide)
    (hs : swapsWithSole [.Tuple [.Name x px, .Name y py, .Name z pz] kt pt] (.Tuple [a, b, c] k2 pt2) pos.line X.env = pure false := by rfl) :
    PS X (.Assign [.Tuple [.Name x px, .Name y py, .Name z pz] kt pt] (.Tuple [a, b, c] k2 pt2) pos) (TSc X G W io (.par [i, j, l] cs)) :=
  (ps_par3 hc hN hi hj hl hij hil hjl hx hy hz ha hw hs).imp fun D σ H ⟨fr, fps, s, rel, h⟩ => by
    refine tS_step (R1 := rMs X.K) (f0 := 0) rel h fun x s1 us H1 fps1 f1 e1 st1 rel1 r1 h1 => ?_
    split at h1
    · split at h1
      · rename_i s2 hp
        split at h1
        case isFalse => exact h1.elim
        have hl : x.length = 3 := by
          cases x with
          | nil => cases hp
          | cons x1 x =>
            unfold parS at hp
            split at hp
            · cases hp
            · cases x with
              | nil => cases hp
              | cons x2 x =>
                unfold parS at hp
                split at hp
                · cases hp
                · cases x with
                  | nil => cases hp
                  | cons x3 x =>
                    unfold parS at hp
                    split at hp
                    · cases hp
                    · cases x with
                      | nil => rfl
                      | cons _ _ => cases hp
        have hlu : us.length = 3 := by rw [← RepMs.len r1]; exact hl
        match us, hlu with
        | [v, w, u], _ => exact ⟨v, w, u, rfl, par_end rel1 (fun a => by simp only [Fp.add_at, Fp.zero_at]; omega) r1 hp hio h1⟩
      · exact h1.elim
    · exact h1.elim
end
end DV

set_option Elab.async false
set_option linter.all false
set_option maxRecDepth 100000
set_option maxHeartbeats 1000000
/-! DV19: sources of loops. -/
namespace DV
open PySem L2 PySem.Spec PyProof.Rows

structure SrcOk (K : PySem.W.Frag) (H0 : Hp) (b : Bool) (J : It) (xs : List PyData) (Src : Fp → Hp → Prop) : Prop where
  stop : ∀ c H i, Src c H → xs.length ≤ i → J.stop i H
  go : ∀ c H i, Src c H → i < xs.length → J.go i H
  yld : ∀ c H i x H' d, Src c H → xs[i]? = some d → J.yld i H x H' → (∀ a, H a = none → c a = 0) → Grw H H' ∧ Rep K c H' d x
  keep : ∀ c c' H H', Kp c c' H H' → (b = true → Grw H0 H') → Src c H → Src c' H'
/-- a list that is read: borrowed (b) or frozen -/
def SL (b : Bool) (K : PySem.W.Frag) (H0 : Hp) (c : Fp) (H : Hp) (a : Addr) (vs : List V) : Prop := (b = true ∧ SqL K H0 a vs ∧ Grw H0 H) ∨ FzL K c H a vs
section
variable {K : PySem.W.Frag} {b : Bool} {c c' : Fp} {H H' H0 : Hp} {a : Addr} {vs : List V} {xs : List PyData}
theorem SqL.grw (g : Grw H H') (h : SqL K H a vs) : SqL K H' a vs := by
  rcases h with h | h
  · exact .inl (rd_keep h fun o e => g a o e)
  · exact .inr h
theorem SL.sq (h : SL b K H0 c H a vs) : SqL K H a vs := h.elim (fun h => SqL.grw h.2.2 h.2.1) fun h => h.sq
theorem SL.keep (k : Kp c c' H H') (g : b = true → Grw H0 H') (h : SL b K H0 c H a vs) : SL b K H0 c' H' a vs := by
  rcases h with ⟨hb, h, _⟩ | h
  · exact .inl ⟨hb, h, g hb⟩
  · exact .inr (h.mono k)
theorem src_list {fr f0 f : Fp} {fps : List Fp} {σ : L2.St} {s : En} {m : Md} {v : V} (rel : Rel K (fr + f0) fps σ H s) (r : RepM K (cn (fr + f0) fps) H m (.list xs) v f) (hf : ∀ a, f a ≤ f0 a) (n2 : m.is2 = false) :
    ∃ a, v = .ref a ∧ ∃ vs, SL m.isB K H (cn fr fps) H a vs ∧ Reps K (cn fr fps) H xs vs := by
  cases hb : m.isB with
  | false =>
    obtain ⟨a, vs, e, h, rr⟩ := (show Rep K (cn fr fps) H (.list xs) v from fz_of rel hf hb r)
    exact ⟨a, e, vs, .inr h, rr⟩
  | true =>
    obtain ⟨a, vs, e, h, rr⟩ := RepM.items n2 r
    exact ⟨a, e, vs, .inl ⟨rfl, h, Grw.refl⟩, lesss_of rr⟩
theorem src_tup {fr f0 f : Fp} {fps : List Fp} {m : Md} {v : V} (r : RepM K (cn (fr + f0) fps) H m (.tuple xs) v f) : ∃ a, v = .ref a ∧ ∃ vs, FzT K (cn fr fps) H a vs ∧ Reps K (cn fr fps) H xs vs := by
  obtain ⟨a, vs, e, h, rr⟩ := (show Rep K (cn fr fps) H (.tuple xs) v from less_of r.tup)
  exact ⟨a, e, vs, h, rr⟩
theorem at_eq {i : Nat} {d : PyData} {x : V} (rr : Reps K c H xs vs) (e : xs[i]? = some d) (h : vs[i]? = some x) : Rep K c H d x := by
  obtain ⟨v, h1, h2⟩ := rr.get e
  rw [h] at h1
  cases h1
  exact h2
theorem so_list : SrcOk K H0 b (Itl K a) xs (fun c H => ∃ vs, SL b K H0 c H a vs ∧ Reps K c H xs vs) where
  stop := fun c H i ⟨vs, h, r⟩ hl => ⟨vs, h.sq, by rw [← r.len]; exact hl⟩
  go := fun c H i ⟨vs, h, r⟩ hl => ⟨vs, vs[i]'(by rw [← r.len]; exact hl), h.sq, List.getElem?_eq_getElem _⟩
  yld := fun c H i x H' d ⟨vs, h, r⟩ e ⟨eh, hy⟩ _ => by subst eh; exact ⟨Grw.refl, at_eq r e (hy vs h.sq)⟩
  keep := fun c c' H H' k g ⟨vs, h, r⟩ => ⟨vs, h.keep k g, Reps.mono k _ _ r⟩
theorem so_tup : SrcOk K H0 b (Itt K a) xs (fun c H => ∃ vs, FzT K c H a vs ∧ Reps K c H xs vs) where
  stop := fun c H i ⟨vs, h, r⟩ hl => ⟨vs, h.sq, by rw [← r.len]; exact hl⟩
  go := fun c H i ⟨vs, h, r⟩ hl => ⟨vs, vs[i]'(by rw [← r.len]; exact hl), h.sq, List.getElem?_eq_getElem _⟩
  yld := fun c H i x H' d ⟨vs, h, r⟩ e ⟨eh, hy⟩ _ => by subst eh; exact ⟨Grw.refl, at_eq r e (hy vs h.sq)⟩
  keep := fun c c' H H' k g ⟨vs, h, r⟩ => ⟨vs, h.mono k, Reps.mono k _ _ r⟩
theorem rangeD_len (i j : Int) : (rangeD i j).length = (j - i).toNat := by
  unfold rangeD
  rw [List.length_map, List.length_range]
theorem rangeD_at {i j : Int} {n : Nat} {d : PyData} (h : (rangeD i j)[n]? = some d) : d = .int (i + (n : Int)) := by
  unfold rangeD at h
  rw [List.getElem?_map] at h
  obtain ⟨m, hm, rfl⟩ := Option.map_eq_some_iff.mp h
  obtain ⟨hl, hm⟩ := List.getElem?_eq_some_iff.mp hm
  rw [List.getElem_range] at hm
  subst hm
  rfl
theorem so_rng {i j : Int} {n : Nat} (hn : n = (j - i).toNat) : SrcOk K H0 b (Itr i n) (rangeD i j) (fun _ _ => True) where
  stop := fun c H k _ hl => by rw [rangeD_len, ← hn] at hl; exact hl
  go := fun c H k _ hl => by rw [rangeD_len, ← hn] at hl; exact hl
  yld := fun c H k x H' d _ e ⟨eh, ex⟩ _ => by subst eh ex; rw [rangeD_at e]; exact ⟨Grw.refl, rfl⟩
  keep := fun _ _ _ _ _ _ _ => trivial
theorem pair_rep {T : Addr} {d1 d2 : PyData} {x1 x2 : V} (hT : H T = none) (z : c T = 0) (r1 : Rep K c H d1 x1) (r2 : Rep K c H d2 x2) : Grw H (upd H T (.tup [x1, x2])) ∧ Rep K c (upd H T (.tup [x1, x2])) (.tuple [d1, d2]) (.ref T) := by
  have g : Grw H (upd H T (.tup [x1, x2])) := Grw.upd hT
  have k : Kp c c H (upd H T (.tup [x1, x2])) := ⟨fun a o e _ => g a o e, fun a _ _ z => z⟩
  exact ⟨g, T, _, rfl, .inl ⟨.of upd_same, z⟩, x1, [x2], rfl, Rep.mono k _ _ r1, x2, [], rfl, Rep.mono k _ _ r2, rfl⟩
def enumD (xs : List PyData) : List PyData := xs.mapIdx fun i x => .tuple [.int i, x]
theorem enumD_len : (enumD xs).length = xs.length := List.length_mapIdx
theorem enumD_at {i : Nat} {d : PyData} (h : (enumD xs)[i]? = some d) : ∃ e, xs[i]? = some e ∧ d = .tuple [.int i, e] := by
  unfold enumD at h
  rw [List.getElem?_mapIdx] at h
  obtain ⟨e, he, rfl⟩ := Option.map_eq_some_iff.mp h
  exact ⟨e, he, rfl⟩
theorem so_enum : SrcOk K H0 b (Ite K a) (enumD xs) (fun c H => ∃ vs, SL b K H0 c H a vs ∧ Reps K c H xs vs) where
  stop := fun c H i ⟨vs, h, r⟩ hl => ⟨vs, h.sq, by rw [← r.len, ← enumD_len]; exact hl⟩
  go := fun c H i ⟨vs, h, r⟩ hl => ⟨vs, vs[i]'(by rw [← r.len, ← enumD_len]; exact hl), h.sq, List.getElem?_eq_getElem _⟩
  yld := fun c H i x H' d ⟨vs, h, r⟩ e ⟨T, y, ex, hT, eh, hy⟩ z => by
    subst ex eh
    obtain ⟨d2, e2, rfl⟩ := enumD_at e
    exact pair_rep hT (z T hT) rfl (at_eq r e2 (hy vs h.sq))
  keep := fun c c' H H' k g ⟨vs, h, r⟩ => ⟨vs, h.keep k g, Reps.mono k _ _ r⟩
theorem so_enumT : SrcOk K H0 b (IteT K a) (enumD xs) (fun c H => ∃ vs, FzT K c H a vs ∧ Reps K c H xs vs) where
  stop := fun c H i ⟨vs, h, r⟩ hl => ⟨vs, h.sq, by rw [← r.len, ← enumD_len]; exact hl⟩
  go := fun c H i ⟨vs, h, r⟩ hl => ⟨vs, vs[i]'(by rw [← r.len, ← enumD_len]; exact hl), h.sq, List.getElem?_eq_getElem _⟩
  yld := fun c H i x H' d ⟨vs, h, r⟩ e ⟨T, y, ex, hT, eh, hy⟩ z => by
    subst ex eh
    obtain ⟨d2, e2, rfl⟩ := enumD_at e
    exact pair_rep hT (z T hT) rfl (at_eq r e2 (hy vs h.sq))
  keep := fun c c' H H' k g ⟨vs, h, r⟩ => ⟨vs, h.mono k, Reps.mono k _ _ r⟩
def zipD (xs ys : List PyData) : List PyData := xs.zipWith (fun x y => .tuple [x, y]) ys
theorem zip_le {xs ys : List PyData} (h : xs.length ≤ sizeLine) : (zipD xs ys).length ≤ sizeLine := by
  unfold zipD
  rw [List.length_zipWith]
  omega
theorem zipD_at {xs ys : List PyData} {i : Nat} {d : PyData} (h : (zipD xs ys)[i]? = some d) : ∃ e e', xs[i]? = some e ∧ ys[i]? = some e' ∧ d = .tuple [e, e'] := by
  unfold zipD at h
  rw [List.getElem?_zipWith] at h
  split at h
  · rename_i x y ex ey; cases h; exact ⟨x, y, ex, ey, rfl⟩
  · cases h
theorem so_zip {b2 : Bool} {a2 : Addr} {ys : List PyData} (hb : b2 = true → b = true) (hb1 : b1 = true → b = true) : SrcOk K H0 b (Itz K a a2) (zipD xs ys) (fun c H => (∃ vs, SL b1 K H0 c H a vs ∧ Reps K c H xs vs) ∧ ∃ vs, SL b2 K H0 c H a2 vs ∧ Reps K c H ys vs) where
  stop := fun c H i ⟨⟨vs, h, r⟩, vs2, h2, r2⟩ hl => ⟨vs, vs2, h.sq, h2.sq, by
    have hl' : (zipD xs ys).length ≤ i := hl
    unfold zipD at hl'
    rw [List.length_zipWith] at hl'
    rw [← r.len, ← r2.len]; omega⟩
  go := fun c H i ⟨⟨vs, h, r⟩, vs2, h2, r2⟩ hl => by
    have hl' : i < (zipD xs ys).length := hl
    unfold zipD at hl'
    rw [List.length_zipWith] at hl'
    exact ⟨vs, vs2, vs[i]'(by rw [← r.len]; omega), vs2[i]'(by rw [← r2.len]; omega), h.sq, h2.sq, List.getElem?_eq_getElem _, List.getElem?_eq_getElem _⟩
  yld := fun c H i x H' d ⟨⟨vs, h, r⟩, vs2, h2, r2⟩ e ⟨T, y, y2, ex, hT, eh, hy, hy2⟩ z => by
    subst ex eh
    obtain ⟨d1, d2, e1, e2, rfl⟩ := zipD_at e
    exact pair_rep hT (z T hT) (at_eq r e1 (hy vs h.sq)) (at_eq r2 e2 (hy2 vs2 h2.sq))
  keep := fun c c' H H' k g ⟨⟨vs, h, r⟩, vs2, h2, r2⟩ => ⟨⟨vs, h.keep k fun z => g (hb1 z), Reps.mono k _ _ r⟩, vs2, h2.keep k fun z => g (hb z), Reps.mono k _ _ r2⟩
theorem so_zipT {a2 : Addr} {ys : List PyData} : SrcOk K H0 b (RZ.ItzT K a a2) (zipD xs ys) (fun c H => (∃ vs, FzT K c H a vs ∧ Reps K c H xs vs) ∧ ∃ vs, FzT K c H a2 vs ∧ Reps K c H ys vs) where
  stop := fun c H i ⟨⟨vs, h, r⟩, vs2, h2, r2⟩ hl => ⟨vs, vs2, h.sq, h2.sq, by
    have hl' : (zipD xs ys).length ≤ i := hl
    unfold zipD at hl'
    rw [List.length_zipWith] at hl'
    rw [← r.len, ← r2.len]; omega⟩
  go := fun c H i ⟨⟨vs, h, r⟩, vs2, h2, r2⟩ hl => by
    have hl' : i < (zipD xs ys).length := hl
    unfold zipD at hl'
    rw [List.length_zipWith] at hl'
    exact ⟨vs, vs2, vs[i]'(by rw [← r.len]; omega), vs2[i]'(by rw [← r2.len]; omega), h.sq, h2.sq, List.getElem?_eq_getElem _, List.getElem?_eq_getElem _⟩
  yld := fun c H i x H' d ⟨⟨vs, h, r⟩, vs2, h2, r2⟩ e ⟨T, y, y2, ex, hT, eh, hy, hy2⟩ z => by
    subst ex eh
    obtain ⟨d1, d2, e1, e2, rfl⟩ := zipD_at e
    exact pair_rep hT (z T hT) (at_eq r e1 (hy vs h.sq)) (at_eq r2 e2 (hy2 vs2 h2.sq))
  keep := fun c c' H H' k g ⟨⟨vs, h, r⟩, vs2, h2, r2⟩ => ⟨⟨vs, h.mono k, Reps.mono k _ _ r⟩, vs2, h2.mono k, Reps.mono k _ _ r2⟩
end

/-! ### what a source asks -/
def iG (X : Cx) (G : List Info) (W : WX) (sk : Sk) (ses : Ces) : TI := fun σ H R => ∃ fr fps s, Rel X.K fr fps σ H s ∧ match evs G ses s with
  | .ok vs s1 => (match itemsD sk vs with
    | some (xs, b) => ∀ J H1 fps1 Src, Stp (qts ses) fr fps 0 H H1 fps1 0 → Rel X.K fr fps1 σ H1 s1 → SrcOk X.K H1 b J xs Src → Src (cn fr fps1) H1 → xs.length ≤ sizeLine → R J H1
    | none => False)
  | .exc x s1 => ExcP X.K X.mg W fr fps 0 σ H x s1
  | .no => False
section
variable {X : Cx} {G : List Info} {W : WX} {c ca cb cc ci : Ce} {cs : Ces} {a b e e1 e2 e3 tg : Expr} {es : List Expr} {pos p p2 q2 : Pos} {io : Nat} {sk : Sk}
theorem _root_.L2.PI.imp {X : Cx} {tg e : Expr} {t t' : TI} (h : PI X tg e t) (hi : ∀ σ H R, t' σ H R → t σ H R) : PI X tg e t' := ⟨fun pins s σ H R I q => h.run pins s σ H R I (hi σ H R q)⟩
theorem _root_.L2.PI.or {X : Cx} {tg e : Expr} {t t' : TI} (h : PI X tg e t) (h' : PI X tg e t') : PI X tg e (fun σ H R => t σ H R ∨ t' σ H R) := ⟨fun pins s σ H R I q => q.elim (h.run pins s σ H R I) (h'.run pins s σ H R I)⟩
/-- lists and tuples are no longer than the line -/
def Lens (K : PySem.W.Frag) (H : Hp) : Prop := (∀ a xs, SqL K H a xs → xs.length ≤ sizeLine) ∧ ∀ a xs, SqT K H a xs → xs.length ≤ sizeLine
theorem _root_.L2.PI.len {X : Cx} {tg e : Expr} {t : TI} (h : PI X tg e t) : PI X tg e (fun σ H R => t σ H fun J H1 => Lens X.K H1 → R J H1) := ⟨fun pins s σ H R I q =>
  thn (h.run pins s σ H _ I q) fun v s1 h1 => thn h1 fun itv s2 ⟨it, fp, tn, J, H', e, I2, tu, t0, ff, hr⟩ => ⟨it, fp, tn, J, H', e, I2, tu, t0, ff, hr ⟨fun a xs hs => (I2.list hs).choose_spec.2.2, fun a xs hs => (I2.tuple hs).choose_spec.2.2⟩⟩⟩
/-- the source's values, read -/
theorem iG_run {ses : Ces} {σ : L2.St} {H : Hp} {R : It → Hp → Prop} {fr : Fp} {fps : List Fp} {s : En} (rel : Rel X.K fr fps σ H s) (h : match evs G ses s with
  | .ok vs s1 => (match itemsD sk vs with
    | some (xs, b) => ∀ J H1 fps1 Src, Stp (qts ses) fr fps 0 H H1 fps1 0 → Rel X.K fr fps1 σ H1 s1 → SrcOk X.K H1 b J xs Src → Src (cn fr fps1) H1 → xs.length ≤ sizeLine → R J H1
    | none => False)
  | .exc x s1 => ExcP X.K X.mg W fr fps 0 σ H x s1
  | .no => False) {Q : List V → Hp → Prop}
  (hQ : ∀ vs s1 us H1 fps1 f1 xs b, evs G ses s = .ok vs s1 → Rel X.K (fr + f1) fps1 σ H1 s1 → RepMs X.K (cn (fr + f1) fps1) H1 vs us f1 → itemsD sk vs = some (xs, b) → (∀ J Src, SrcOk X.K H1 b J xs Src → Src (cn fr fps1) H1 → xs.length ≤ sizeLine → R J H1) → Q us H1) : TAc X G W ses σ H Q := by
  refine ⟨fr, fps, s, rel, ?_⟩
  cases e : evs G ses s with
  | no => rw [e] at h; exact h
  | exc x s1 => rw [e] at h; exact h
  | ok vs s1 =>
    rw [e] at h
    intro us H1 fps1 f1 st sl r
    have rel1 : Rel X.K (fr + f1) fps1 σ H1 s1 := ⟨fun a => st.le a, fun a z => st.lv a z, sl⟩
    cases ei : itemsD sk vs with
    | none =>
      have h' : (match itemsD sk vs with
        | some (xs, b) => ∀ J H1 fps1 Src, Stp (qts ses) fr fps 0 H H1 fps1 0 → Rel X.K fr fps1 σ H1 s1 → SrcOk X.K H1 b J xs Src → Src (cn fr fps1) H1 → xs.length ≤ sizeLine → R J H1
        | none => False) := h
      rw [ei] at h'; exact h'.elim
    | some xb =>
      obtain ⟨xs, b⟩ := xb
      have h' : (match itemsD sk vs with
        | some (xs, b) => ∀ J H1 fps1 Src, Stp (qts ses) fr fps 0 H H1 fps1 0 → Rel X.K fr fps1 σ H1 s1 → SrcOk X.K H1 b J xs Src → Src (cn fr fps1) H1 → xs.length ≤ sizeLine → R J H1
        | none => False) := h
      rw [ei] at h'
      exact hQ vs s1 us H1 fps1 f1 xs b e rel1 r ei fun J Src so hs hl => h' J H1 fps1 Src st.drop rel1.drop so hs hl
theorem one_in (σ : L2.St) (H : Hp) (Q : List V → Hp → Prop) (q : TAc X G W (.cons c .nil) σ H Q) : TEc X G W c σ H fun v H1 => Q [v] H1 := by
  refine tG_mono (cons_in σ H Q q) fun v H1 h => ?_
  obtain ⟨fr, fps, s, rel, hE⟩ := tG_in h
  exact EndG.pl (RR := rMs X.K) (x := []) (v := []) (Q := fun xs H2 => Q (v :: xs) H2) rel hE ⟨rfl, rfl⟩
theorem is2_any {m : Md} {α : Type} {o : Option α} {x : α} (h : (if m.is2 = true then none else o) = some x) : m.is2 = false ∧ o = some x := by
  split at h
  · cases h
  · rename_i n; exact ⟨Bool.eq_false_iff.mpr n, h⟩
theorem items_seq {vs : List MD} {xs : List PyData} {b : Bool} (h : itemsD .seq vs = some (xs, b)) : ∃ m d, vs = [(m, d)] ∧ m.is2 = false ∧ seqD d = some xs ∧ b = m.isB := by
  match vs, h with
  | [(m, d)], h =>
    obtain ⟨n2, ei⟩ := is2_any (show (if m.is2 = true then none else (seqD d).map fun xs => (xs, m.isB)) = some (xs, b) from h)
    obtain ⟨zs, hz, ez⟩ := Option.map_eq_some_iff.mp ei
    cases ez
    exact ⟨m, d, rfl, n2, hz, rfl⟩
theorem items_enm {vs : List MD} {xs : List PyData} {b : Bool} (h : itemsD .enm vs = some (xs, b)) : ∃ m d ys, vs = [(m, d)] ∧ m.is2 = false ∧ seqD d = some ys ∧ b = m.isB ∧ xs = enumD ys := by
  match vs, h with
  | [(m, d)], h =>
    obtain ⟨n2, ei⟩ := is2_any (show (if m.is2 = true then none else (seqD d).map fun xs => (enumD xs, m.isB)) = some (xs, b) from h)
    obtain ⟨zs, hz, ez⟩ := Option.map_eq_some_iff.mp ei
    cases ez
    exact ⟨m, d, zs, rfl, n2, hz, rfl, rfl⟩
theorem items_zip {vs : List MD} {xs : List PyData} {b : Bool} (h : itemsD .zip vs = some (xs, b)) : ∃ m d m' d' ys zs, vs = [(m, d), (m', d')] ∧ xs = zipD ys zs ∧
    ((d = .list ys ∧ d' = .list zs ∧ b = (m.isB || m'.isB) ∧ m.is2 = false ∧ m'.is2 = false) ∨ (d = .tuple ys ∧ d' = .tuple zs)) := by
  match vs, h with
  | [(m, .list ys), (m', .list zs)], h =>
    have h' : (if (m.is2 || m'.is2) = true then none else some (zipD ys zs, m.isB || m'.isB)) = some (xs, b) := h
    split at h'
    · cases h'
    · rename_i n
      rw [Bool.or_eq_true, not_or] at n
      cases h'
      exact ⟨m, _, m', _, ys, zs, rfl, rfl, .inl ⟨rfl, rfl, rfl, Bool.eq_false_iff.mpr n.1, Bool.eq_false_iff.mpr n.2⟩⟩
  | [(m, .tuple ys), (m', .tuple zs)], h =>
    have h' : some (zipD ys zs, false) = some (xs, b) := h
    cases h'
    exact ⟨m, _, m', _, ys, zs, rfl, rfl, .inr ⟨rfl, rfl⟩⟩
theorem items_rng1 {vs : List MD} {xs : List PyData} {b : Bool} (h : itemsD .rng1 vs = some (xs, b)) : ∃ m n, vs = [(m, .int n)] ∧ okRg 0 n = true ∧ xs = rangeD 0 n := by
  match vs, h with
  | [(m, .int n)], h =>
    have h' : (if okRg 0 n = true then some (rangeD 0 n, false) else none) = some (xs, b) := h
    split at h'
    · rename_i ok; cases h'; exact ⟨m, n, rfl, ok, rfl⟩
    · cases h'
theorem items_rng2 {vs : List MD} {xs : List PyData} {b : Bool} (h : itemsD .rng2 vs = some (xs, b)) : ∃ m n m' n', vs = [(m, .int n), (m', .int n')] ∧ okRg n n' = true ∧ xs = rangeD n n' := by
  match vs, h with
  | [(m, .int n), (m', .int n')], h =>
    have h' : (if okRg n n' = true then some (rangeD n n', false) else none) = some (xs, b) := h
    split at h'
    · rename_i ok; cases h'; exact ⟨m, n, m', n', rfl, ok, rfl⟩
    · cases h'
theorem one_rep {K : PySem.W.Frag} {cn' : Fp} {H : Hp} {m : Md} {d : PyData} {us : List V} {f : Fp} (r : RepMs K cn' H [(m, d)] us f) : ∃ u, us = [u] ∧ RepM K cn' H m d u f := by
  obtain ⟨u, _, g, _, eu, ru, ⟨h2, eg⟩, ef⟩ := r
  subst h2 eg
  rw [Fp.add_zero] at ef
  subst ef
  exact ⟨u, eu, ru⟩
theorem i_seq (he : PE X e (TEc X G W c)) : PI X tg e (iG X G W .seq (.cons c .nil)) :=
  ((pi_list he).or (pi_tup he)).len.imp fun σ H R ⟨fr, fps, s, rel, h⟩ => by
    by_cases ht : ∃ m xs s1, evs G (.cons c .nil) s = .ok [(m, .tuple xs)] s1
    · right
      obtain ⟨m, xs, s1, e1⟩ := ht
      refine one_in σ H (fun us H1 => ∃ x, us = [x] ∧ ∃ a, x = .ref a ∧ (∃ xs, SqT X.K H1 a xs) ∧ (Lens X.K H1 → R (Itt X.K a) H1)) (iG_run rel h fun vs s1' us H1 fps1 f1 ys b e rel1 r ei hJ => ?_) |> fun h => tG_mono h fun v H1 ⟨x, ex, h⟩ => by cases ex; exact h
      rw [e1] at e
      cases e
      obtain ⟨u, eu, ru⟩ := one_rep r
      obtain ⟨a, ea, vs', hs, rr⟩ := src_tup ru
      obtain ⟨m2, d2, ev, n2, hz, eb⟩ := items_seq ei
      cases ev
      cases hz
      exact ⟨u, eu, a, ea, ⟨vs', hs.sq⟩, fun L => hJ _ _ so_tup ⟨vs', hs, rr⟩ (by rw [rr.len]; exact L.2 _ _ hs.sq)⟩
    · left
      refine one_in σ H (fun us H1 => ∃ x, us = [x] ∧ ∃ a, x = .ref a ∧ (∃ xs, SqL X.K H1 a xs) ∧ (Lens X.K H1 → R (Itl X.K a) H1)) (iG_run rel h fun vs s1' us H1 fps1 f1 ys b e rel1 r ei hJ => ?_) |> fun h => tG_mono h fun v H1 ⟨x, ex, h⟩ => by cases ex; exact h
      obtain ⟨m, d, ev, n2, hz, eb⟩ := items_seq ei
      subst ev eb
      obtain ⟨u, eu, ru⟩ := one_rep r
      cases d with
      | list xs =>
        cases hz
        obtain ⟨a, ea, vs', hs, rr⟩ := src_list rel1 ru (fun a => Nat.le_refl _) n2
        exact ⟨u, eu, a, ea, ⟨vs', hs.sq⟩, fun L => hJ _ _ so_list ⟨vs', hs, rr⟩ (by rw [rr.len]; exact L.1 _ _ hs.sq)⟩
      | tuple xs => exact absurd ⟨_, _, _, e⟩ ht
      | none => cases hz
      | bool _ => cases hz
      | int _ => cases hz
      | str _ => cases hz
      | dict _ => cases hz
theorem i_rng1 (hg : Gl X "range") (hm : X.mg "range" = none) (ha : PA X [a] (TAc X G W cs)) (hs : starEach [a] X.env = [(false, eval a X.env)] := by rfl) : PI X tg (.Call (.Name "range" p) [a] [] pos) (iG X G W .rng1 cs) :=
  (pi_range1 hg hm ha hs).len.imp fun σ H R ⟨fr, fps, s, rel, h⟩ => iG_run rel h fun vs s1' us H1 fps1 f1 ys b e rel1 r ei hJ => by
    obtain ⟨m, n, ev, ok, ex⟩ := items_rng1 ei
    subst ev ex
    obtain ⟨u, eu, ru⟩ := one_rep r
    have hr := okRg_is ok
    exact ⟨n, by rw [eu, ru.int], hr.2.2.1, hr.2.2.2.1, fun _ => hJ _ _ (so_rng (by rw [Int.sub_zero])) trivial (by rw [rangeD_len]; exact Nat.le_trans hr.2.2.2.2 (by rw [sizeLine_eq]; decide))⟩
theorem i_rng2 (hg : Gl X "range") (hm : X.mg "range" = none) (ha : PA X [a, b] (TAc X G W cs)) (hs : starEach [a, b] X.env = [(false, eval a X.env), (false, eval b X.env)] := by rfl) (hs2 : starEach [b] X.env = [(false, eval b X.env)] := by rfl) :
    PI X tg (.Call (.Name "range" p) [a, b] [] pos) (iG X G W .rng2 cs) :=
  (pi_range2 hg hm ha hs hs2).len.imp fun σ H R ⟨fr, fps, s, rel, h⟩ => iG_run rel h fun vs s1' us H1 fps1 f1 ys b e rel1 r ei hJ => by
    obtain ⟨m, n, m', n', ev, ok, ex⟩ := items_rng2 ei
    subst ev ex
    obtain ⟨u, _, g, _, eu, ru, r2, ef⟩ := r
    obtain ⟨u2, eu2, ru2⟩ := one_rep r2
    subst eu2
    have hr := okRg_is ok
    have e1 : u = .int n := RepM.int ru
    have e2 : u2 = .int n' := RepM.int ru2
    subst e1 e2
    exact ⟨n, n', eu, ⟨hr.1, hr.2.1, hr.2.2.1, hr.2.2.2.1⟩, fun _ => hJ _ _ (so_rng rfl) trivial (by rw [rangeD_len]; exact Nat.le_trans hr.2.2.2.2 (by rw [sizeLine_eq]; decide))⟩
theorem i_enm {elts : List Expr} {kk : Nat} {tpos : Pos} (hg : Gl X "enumerate") (hm : X.mg "enumerate" = none) (ha : PA X [e] (TAc X G W (.cons c .nil))) (hs : starEach [e] X.env = [(false, eval e X.env)] := by rfl) :
    PI X (.Tuple elts kk tpos) (.Call (.Name "enumerate" p) [e] [] pos) (iG X G W .enm (.cons c .nil)) :=
  ((pi_enum hg hm ha hs).or (pi_enumT hg hm ha hs)).len.imp fun σ H R ⟨fr, fps, s, rel, h⟩ => by
    by_cases ht : ∃ m xs s1, evs G (.cons c .nil) s = .ok [(m, .tuple xs)] s1
    · right
      obtain ⟨m, xs, s1, e1⟩ := ht
      refine iG_run rel h fun vs s1' us H1 fps1 f1 ys b e rel1 r ei hJ => ?_
      rw [e1] at e
      cases e
      obtain ⟨u, eu, ru⟩ := one_rep r
      obtain ⟨a, ea, vs', hs, rr⟩ := src_tup ru
      obtain ⟨m2, d2, ys', ev, n2, hz, eb, ex⟩ := items_enm ei
      cases ev
      cases hz
      subst ex ea
      exact ⟨a, vs', eu, hs.sq, fun L => hJ _ _ so_enumT ⟨vs', hs, rr⟩ (by rw [enumD_len, rr.len]; exact L.2 _ _ hs.sq)⟩
    · left
      refine iG_run rel h fun vs s1' us H1 fps1 f1 ys b e rel1 r ei hJ => ?_
      obtain ⟨m, d, ys', ev, n2, hz, eb, ex⟩ := items_enm ei
      subst ev eb ex
      obtain ⟨u, eu, ru⟩ := one_rep r
      cases d with
      | list xs =>
        cases hz
        obtain ⟨a, ea, vs', hs, rr⟩ := src_list rel1 ru (fun a => Nat.le_refl _) n2
        subst ea
        exact ⟨a, vs', eu, hs.sq, fun L => hJ _ _ so_enum ⟨vs', hs, rr⟩ (by rw [enumD_len, rr.len]; exact L.1 _ _ hs.sq)⟩
      | tuple xs => exact absurd ⟨_, _, _, e⟩ ht
      | none => cases hz
      | bool _ => cases hz
      | int _ => cases hz
      | str _ => cases hz
      | dict _ => cases hz
theorem i_zip {elts : List Expr} {kk : Nat} {tpos : Pos} (hg : Gl X "zip") (hm : X.mg "zip" = none) (ha : PA X [e, e2] (TAc X G W cs))
    (hs : starEach [e, e2] X.env = (false, eval e X.env) :: starEach [e2] X.env := by rfl) (hpl : (backTo pos (starEach [e2] X.env)).any (·.1) = false := by rfl) :
    PI X (.Tuple elts kk tpos) (.Call (.Name "zip" p) [e, e2] [] pos) (iG X G W .zip cs) :=
  (RZ.pi_zipA hg hm ha hs hpl).len.imp fun σ H R ⟨fr, fps, s, rel, h⟩ => iG_run rel h fun vs s1' us H1 fps1 f1 ys b e rel1 r ei hJ => by
    obtain ⟨m, d, m', d', xs, zs, ev, ex, hd⟩ := items_zip ei
    subst ev ex
    obtain ⟨u, _, g, g2, eu, ru, r2, ef⟩ := r
    obtain ⟨u2, eu2, ru2⟩ := one_rep r2
    subst eu2 ef
    rcases hd with ⟨e1, e2, eb, n2, n2'⟩ | ⟨e1, e2⟩
    · subst e1 e2 eb
      obtain ⟨a, ea, vs1, hs1, rr1⟩ := src_list rel1 ru (fun a => by rw [Fp.add_at]; omega) n2
      obtain ⟨a2, ea2, vs2, hs2, rr2⟩ := src_list rel1 ru2 (fun a => by rw [Fp.add_at]; omega) n2'
      subst ea ea2
      exact ⟨a, a2, vs1, vs2, eu, .inl ⟨hs1.sq, hs2.sq, fun L => hJ _ _ (so_zip (fun z => by rw [z, Bool.or_true]) fun z => by rw [z, Bool.true_or]) ⟨⟨vs1, hs1, rr1⟩, vs2, hs2, rr2⟩ (zip_le (by rw [rr1.len]; exact L.1 _ _ hs1.sq))⟩⟩
    · subst e1 e2
      obtain ⟨a, ea, vs1, hs1, rr1⟩ := src_tup ru
      obtain ⟨a2, ea2, vs2, hs2, rr2⟩ := src_tup ru2
      subst ea ea2
      exact ⟨a, a2, vs1, vs2, eu, .inr ⟨hs1.sq, hs2.sq, fun L => hJ _ _ so_zipT ⟨⟨vs1, hs1, rr1⟩, vs2, hs2, rr2⟩ (zip_le (by rw [rr1.len]; exact L.2 _ _ hs1.sq))⟩⟩
end
end DV

set_option Elab.async false
set_option linter.all false
set_option maxRecDepth 100000
set_option maxHeartbeats 1000000
/-! DV20: for, while. -/
namespace DV
open PySem L2 PySem.Spec PyProof.Rows

section
variable {K : PySem.W.Frag} {mg : Str → Option Value} {W : WX} {q q1 : Bool} {fr f0 f1 f fv : Fp} {fps fps1 : List Fp} {σ σ1 σ' : L2.St} {H H1 H' : Hp} {s s1 : En} {c c' : Fp} {io : Nat}
theorem Rel.grw (rel : Rel K fr fps σ H s) (g : Grw H H') : Rel K fr fps σ H' s :=
  ⟨rel.le, fun a z => by
    have := rel.lv a z
    cases e : H a with
    | none => exact absurd e this
    | some o => rw [g a o e]; exact fun y => (nomatch y), rel.sl.mono ⟨fun a o e _ => g a o e, fun _ _ _ z => z⟩ fun a o e _ => g a o e⟩
theorem Rel.fresh (rel : Rel K fr fps σ H s) : ∀ a, H a = none → cn fr fps a = 0 := fun a e => by
  have := rel.lv a
  show fr a + tot fps a = 0
  by_cases z : 0 < fr a + tot fps a
  · exact absurd e (this z)
  · omega
theorem Stp.kp0 (st : Stp q fr fps 0 H H' fps1 0) (le : ∀ a, fr a + tot fps a ≤ 1) : Kp (cn fr fps) (cn fr fps1) H H' :=
  ⟨fun a o e z => st.kp a o e (.inr (by have := (cn_zero.mp z).2; show 0 + _ = 0; omega)), fun a o e z => by
    have h1 := cn_zero.mp z
    rw [cn_zero]
    refine ⟨h1.1, ?_⟩
    by_cases h3 : 0 < 0 + tot fps1 a
    · rcases st.nw a h3 with h4 | h4
      · have h5 : 0 < 0 + tot fps a := h4
        omega
      · rw [e] at h4; cases h4
    · omega⟩
theorem Stp.rel0 (st : Stp q fr fps f0 H H' fps1 0) (sl : Slots K (cn fr fps1) σ H' s fps1) : Rel K fr fps1 σ H' s := ⟨fun a => st.le a, fun a z => st.lv a z, sl⟩
theorem EndS.trans0 {D : Ends} {r : Rs Fl} (a1 : Stp q1 fr fps 0 H H1 fps1 0) (le : ∀ a, fr a + tot fps a ≤ 1) (k : Kio io σ σ1) (h : EndS K mg W io fr fps 0 σ H r D) : EndS K mg W io fr fps1 0 σ1 H1 r D :=
  EndS.trans (f0 := 0) (f1 := 0) a1 le k h
end
section
variable {X : Cx} {G : List Info} {W : WX} {c ca cb cc ci : Ce} {cs : Ces} {a b e e1 e2 e3 tg iter : Expr} {es : List Expr} {pos p p2 q2 : Pos} {io : Nat} {sk : Sk} {body : List Stmt} {bs : Css} {t : Tg}
theorem s_for (hp : PassesOwn (model X.prog X.w) X.A X.env X.xe) (hc : X.calm = true) (hi : PI X tg iter (iG X G W sk cs)) (hg : PG X tg (gB X.K t)) (hb : PSs X body (TSs X G W io bs)) (hio : (tgL t).all (fun j => decide (io ≤ j)) = true := by decide) (hs : ∀ x, foldedSetIterable iter X.env x = pure x := by intro _; rfl) :
    PS X (.For tg iter body [] pos) (TSc X G W io (.for t sk cs bs)) :=
  (ps_for hp hc hi hg hb hs).imp fun D σ H ⟨fr, fps, s, rel, h⟩ => by
    refine ⟨fr, fps, s, rel, ?_⟩
    have h' : EndS X.K X.mg W io fr fps 0 σ H ((evs G cs s).bind fun vs s1 => match itemsD sk vs with
      | some (xs, false) => forL (bindT t) (fun s => exs G bs s) xs s1
      | _ => .no) D := h
    cases ee : evs G cs s with
    | no => rw [ee] at h'; exact h'
    | exc x s1 =>
      rw [ee] at h'
      have h2 : ∀ σ' H' fps' dx C w, Stp false fr fps 0 H H' fps' 0 → Slots X.K (cn fr fps') σ' H' s1 fps' → Kio io σ σ' → X.mg x.cls = some (.ref C) → Rep X.K 0 H' x.val w → scalD x.val = true → H' dx = some (.xd [(x.fld, w)]) → W (.ref C) (some dx) σ' H' := h'
      exact fun H' fps' dx C w st sl hm hr hs hd => h2 σ H' fps' dx C w st sl Kio.refl hm hr hs hd
    | ok vs s1 =>
      rw [ee] at h'
      have h1 : EndS X.K X.mg W io fr fps 0 σ H (match itemsD sk vs with
        | some (xs, false) => forL (bindT t) (fun s => exs G bs s) xs s1
        | _ => .no) D := h'
      show match itemsD sk vs with
        | some (xs, b) => ∀ J H1 fps1 Src, Stp (qts cs) fr fps 0 H H1 fps1 0 → Rel X.K fr fps1 σ H1 s1 → SrcOk X.K H1 b J xs Src → Src (cn fr fps1) H1 → xs.length ≤ sizeLine → _
        | none => False
      split at h1
      · rename_i xs ei
        rw [ei]
        intro J H1 fps1 Src st rel1 so hs1 _
        refine ⟨fun i m σ' H' => m + i = xs.length ∧ ∃ fps' s', Rel X.K fr fps' σ' H' s' ∧ Src (cn fr fps') H' ∧ EndS X.K X.mg W io fr fps' 0 σ' H' (forL (bindT t) (fun s => exs G bs s) (xs.drop i) s') D,
          ⟨xs.length, Nat.add_zero _, fps1, s1, rel1, hs1, by rw [List.drop_zero]; exact EndS.trans0 st (fun a => rel.le a) Kio.refl h1⟩, ?_⟩
        intro i m σ' H' ⟨hm, fps', s', rel', hs', hE⟩
        by_cases hl : xs.length ≤ i
        · left
          refine ⟨so.stop _ _ _ hs' hl, ?_⟩
          rw [List.drop_of_length_le hl] at hE
          exact EndS.nx (f0 := 0) rel' hE
        · right
          have hlt : i < xs.length := by omega
          refine ⟨so.go _ _ _ hs' hlt, fun σ2 H2 => m - 1 + (i + 1) = xs.length ∧ ∃ fps' s', Rel X.K fr fps' σ2 H2 s' ∧ Src (cn fr fps') H2 ∧ EndS X.K X.mg W io fr fps' 0 σ2 H2 (forL (bindT t) (fun s => exs G bs s) (xs.drop (i + 1)) s') D, fun σ2 H2 h => ⟨m - 1, by omega, h⟩, fun x H2 hy => ?_⟩
          rw [List.drop_eq_getElem_cons hlt] at hE
          obtain ⟨g, rx⟩ := so.yld _ _ _ _ _ _ hs' (List.getElem?_eq_getElem hlt) hy rel'.fresh
          have rel2 := rel'.grw g
          have hE' : EndS X.K X.mg W io fr fps' 0 σ' H' (match bindT t xs[i] s' with
            | none => .no
            | some s1 => match exs G bs s1 with
              | .ok .nx s2 => forL (bindT t) (fun s => exs G bs s) (xs.drop (i + 1)) s2
              | .ok .ct s2 => forL (bindT t) (fun s => exs G bs s) (xs.drop (i + 1)) s2
              | .ok .bk s2 => .ok .nx s2
              | r => r) D := hE
          cases hb : bindT t xs[i] s' with
          | none => rw [hb] at hE'; exact hE'.elim
          | some s2 =>
            rw [hb] at hE'
            refine ⟨fr, fps', s', xs[i], s2, rel2, rx, hb, fun σ2 fps2 rel3 hle kk => ⟨fr, fps2, s2, rel3, ?_⟩⟩
            have stt : Stp false fr fps' 0 H' H2 fps2 0 := ⟨fun a => rel3.le a, fun a z => rel3.lv a z, fun a z => .inl (by have z' : 0 < 0 + tot fps2 a := z; have := hle a; show 0 < 0 + _; omega), fun a o e _ => g a o e⟩
            have hE2 := EndS.trans0 stt (fun a => rel'.le a) (Dif.kio kk hio) hE'
            have nxt : ∀ s3, EndS X.K X.mg W io fr fps2 0 σ2 H2 (forL (bindT t) (fun s => exs G bs s) (xs.drop (i + 1)) s3) D → ∀ σ3 H3 fps3, Stp false fr fps2 0 H2 H3 fps3 0 → Slots X.K (cn fr fps3) σ3 H3 s3 fps3 → Kio io σ2 σ3 →
                (m - 1 + (i + 1) = xs.length ∧ ∃ fps' s', Rel X.K fr fps' σ3 H3 s' ∧ Src (cn fr fps') H3 ∧ EndS X.K X.mg W io fr fps' 0 σ3 H3 (forL (bindT t) (fun s => exs G bs s) (xs.drop (i + 1)) s') D) := fun s3 hE3 σ3 H3 fps3 st3 sl3 kk3 =>
              ⟨by omega, fps3, s3, st3.rel0 sl3, so.keep _ _ _ _ (st3.kp0 fun a => rel3.le a) (fun z => Bool.noConfusion z) (so.keep _ _ _ _ (stt.kp0 fun a => rel'.le a) (fun z => Bool.noConfusion z) hs'), EndS.trans0 st3 (fun a => rel3.le a) kk3 hE3⟩
            cases eb : exs G bs s2 with
            | no =>
              have hE3 := hE2
              simp only [eb] at hE3
              exact hE3.elim
            | exc x s3 =>
              have hE3 := hE2
              simp only [eb] at hE3
              exact hE3
            | ok fl s3 =>
              have hE3 := hE2
              simp only [eb] at hE3
              cases fl with
              | nx => exact nxt s3 hE3
              | ct => exact nxt s3 hE3
              | bk => exact hE3
              | rt v => exact hE3
      · exact h1.elim
theorem s_while {cnd : Expr} {n : Nat} (hp : PassesOwn (model X.prog X.w) X.A X.env X.xe) (hc : PT X cnd (TTc X G W cc)) (hb : PSs X body (TSs X G W io bs)) : PS X (.While cnd body [] pos) (TSc X G W io (.whl n cc bs)) :=
  (ps_while hp hc hb).imp fun D σ H ⟨fr, fps, s, rel, h⟩ => by
    have h' : EndS X.K X.mg W io fr fps 0 σ H (whlL (fun s => tbR (ev G cc s)) (fun s => exs G bs s) n s) D := h
    refine ⟨fun m σ' H' => ∃ fps' s', Rel X.K fr fps' σ' H' s' ∧ EndS X.K X.mg W io fr fps' 0 σ' H' (whlL (fun s => tbR (ev G cc s)) (fun s => exs G bs s) m s') D, ⟨n, fps, s, rel, h'⟩, ?_⟩
    intro m σ' H' ⟨fps', s', rel', hE⟩
    cases m with
    | zero => exact hE.elim
    | succ m =>
      have hE' : EndS X.K X.mg W io fr fps' 0 σ' H' ((tbR (ev G cc s')).bind fun t s1 => if t = true then (match exs G bs s1 with
          | .ok .nx s2 => whlL (fun s => tbR (ev G cc s)) (fun s => exs G bs s) m s2
          | .ok .ct s2 => whlL (fun s => tbR (ev G cc s)) (fun s => exs G bs s) m s2
          | .ok .bk s2 => .ok .nx s2
          | r => r) else .ok .nx s1) D := by
        have hE2 : EndS X.K X.mg W io fr fps' 0 σ' H' (match tbR (ev G cc s') with
          | .ok false s1 => .ok .nx s1
          | .ok true s1 => match exs G bs s1 with
            | .ok .nx s2 => whlL (fun s => tbR (ev G cc s)) (fun s => exs G bs s) m s2
            | .ok .ct s2 => whlL (fun s => tbR (ev G cc s)) (fun s => exs G bs s) m s2
            | .ok .bk s2 => .ok .nx s2
            | r => r
          | .exc x s1 => .exc x s1
          | .no => .no) D := hE
        cases et : tbR (ev G cc s') with
        | no => rw [et] at hE2; exact hE2
        | exc x s1 => rw [et] at hE2; exact hE2
        | ok t s1 =>
          rw [et] at hE2
          cases t with
          | true => exact hE2
          | false => exact hE2
      refine tS_step (R1 := rB) (f0 := 0) rel' hE' fun x s1 v H1 fps1 f1 e1 st1 rel1 r1 h1 => ?_
      obtain ⟨rfl, rfl⟩ := r1
      cases v with
      | false => exact EndS.nx rel1 h1
      | true =>
        refine ⟨fun σ2 H2 => ∃ fps' s', Rel X.K fr fps' σ2 H2 s' ∧ EndS X.K X.mg W io fr fps' 0 σ2 H2 (whlL (fun s => tbR (ev G cc s)) (fun s => exs G bs s) m s') D, fun σ2 H2 h => ⟨m, Nat.lt_succ_self m, h⟩, fr, fps1, s1, rel1, ?_⟩
        have hE2 : EndS X.K X.mg W io fr fps1 0 σ' H1 (match exs G bs s1 with
            | .ok .nx s2 => whlL (fun s => tbR (ev G cc s)) (fun s => exs G bs s) m s2
            | .ok .ct s2 => whlL (fun s => tbR (ev G cc s)) (fun s => exs G bs s) m s2
            | .ok .bk s2 => .ok .nx s2
            | r => r) D := h1
        have relx : Rel X.K fr fps1 σ' H1 s1 := rel1
        have nxt : ∀ s3, EndS X.K X.mg W io fr fps1 0 σ' H1 (whlL (fun s => tbR (ev G cc s)) (fun s => exs G bs s) m s3) D → ∀ σ3 H3 fps3, Stp false fr fps1 0 H1 H3 fps3 0 → Slots X.K (cn fr fps3) σ3 H3 s3 fps3 → Kio io σ' σ3 →
            ∃ fps' s', Rel X.K fr fps' σ3 H3 s' ∧ EndS X.K X.mg W io fr fps' 0 σ3 H3 (whlL (fun s => tbR (ev G cc s)) (fun s => exs G bs s) m s') D := fun s3 hE3 σ3 H3 fps3 st3 sl3 kk3 =>
          ⟨fps3, s3, st3.rel0 sl3, EndS.trans0 st3 (fun a => relx.le a) kk3 hE3⟩
        cases eb : exs G bs s1 with
        | no =>
          simp only [eb] at hE2
          exact hE2.elim
        | exc x s3 =>
          simp only [eb] at hE2
          exact hE2
        | ok fl s3 =>
          simp only [eb] at hE2
          cases fl with
          | nx => exact nxt s3 hE2
          | ct => exact nxt s3 hE2
          | bk => exact hE2
          | rt v => exact hE2
end
end DV

set_option Elab.async false
set_option linter.all false
set_option maxRecDepth 100000
set_option maxHeartbeats 2000000
/-! DV21: comprehensions. -/
namespace DV
open PySem L2 PySem.Spec PyProof.Rows

/-! ### wiping -/
theorem wipe_len : ∀ (vs : List Nat) (σ : L2.St), (wipe σ vs).length = σ.length
  | [], _ => rfl
  | v :: vs, σ => by
    show ((wipe σ vs).set v none).length = _
    rw [List.length_set, wipe_len vs σ]
theorem wipe_out : ∀ {vs : List Nat} {σ : L2.St} {j : Nat}, j ∉ vs → (wipe σ vs)[j]? = σ[j]?
  | [], _, _, _ => rfl
  | v :: vs, σ, j, h => by
    rw [List.mem_cons, not_or] at h
    show ((wipe σ vs).set v none)[j]? = _
    rw [List.getElem?_set_ne (Ne.symm h.1), wipe_out h.2]
theorem wipe_in : ∀ {vs : List Nat} {σ : L2.St} {j : Nat}, j ∈ vs → j < σ.length → (wipe σ vs)[j]? = some none
  | v :: vs, σ, j, h, hl => by
    show ((wipe σ vs).set v none)[j]? = _
    by_cases e : j = v
    · subst e; exact List.getElem?_set_self (by rw [wipe_len]; exact hl)
    · rw [List.getElem?_set_ne (Ne.symm e)]
      exact wipe_in ((List.mem_cons.mp h).resolve_left e) hl
theorem wipe_dif {vs : List Nat} {σ σ' : L2.St} (h : Dif vs σ σ') : wipe σ' vs = wipe σ vs := by
  refine List.ext_getElem? fun j => ?_
  by_cases m : j ∈ vs
  · by_cases l : j < σ.length
    · rw [wipe_in m l, wipe_in m (by rw [h.1]; exact l)]
    · rw [List.getElem?_eq_none (by rw [wipe_len, h.1]; omega), List.getElem?_eq_none (by rw [wipe_len]; omega)]
  · rw [wipe_out m, wipe_out m, h.2 j m]
theorem wipe_self {vs : List Nat} {σ : L2.St} : Dif vs σ (wipe σ vs) := ⟨wipe_len vs σ, fun _ h => wipe_out h⟩
theorem wipeE_len : ∀ (vs : List Nat) (s : En), (wipeE s vs).length = s.length
  | [], _ => rfl
  | v :: vs, s => by
    show ((wipeE s vs).set v none).length = _
    rw [List.length_set, wipeE_len vs s]
theorem wipeE_some : ∀ {vs : List Nat} {s : En} {j : Nat} {x : MD}, (wipeE s vs)[j]? = some (some x) → s[j]? = some (some x) ∧ j ∉ vs
  | [], _, _, _, h => ⟨h, fun z => nomatch z⟩
  | v :: vs, s, j, x, h => by
    have h' : ((wipeE s vs).set v none)[j]? = some (some x) := h
    by_cases e : j = v
    · subst e
      by_cases l : j < (wipeE s vs).length
      · rw [List.getElem?_set_self l] at h'; cases h'
      · rw [List.getElem?_eq_none (by rw [List.length_set]; omega)] at h'; cases h'
    · rw [List.getElem?_set_ne (Ne.symm e)] at h'
      obtain ⟨h1, h2⟩ := wipeE_some h'
      exact ⟨h1, fun z => (List.mem_cons.mp z).elim e h2⟩
theorem restE_len : ∀ (vs : List Nat) (s0 s : En), (restE s0 s vs).length = s.length
  | [], _, _ => rfl
  | v :: vs, s0, s => by
    show ((restE s0 s vs).set v _).length = _
    rw [List.length_set, restE_len vs s0 s]
theorem restE_some : ∀ {vs : List Nat} {s0 s : En} {j : Nat} {x : MD}, (restE s0 s vs)[j]? = some (some x) → (j ∈ vs ∧ s0[j]? = some (some x)) ∨ (j ∉ vs ∧ s[j]? = some (some x))
  | [], _, _, _, _, h => .inr ⟨fun z => (nomatch z), h⟩
  | v :: vs, s0, s, j, x, h => by
    have h' : ((restE s0 s vs).set v ((s0[v]?).getD none))[j]? = some (some x) := h
    by_cases e : j = v
    · subst e
      left
      refine ⟨List.mem_cons_self, ?_⟩
      by_cases l : j < (restE s0 s vs).length
      · rw [List.getElem?_set_self l] at h'
        cases ej : s0[j]? with
        | none => rw [ej] at h'; cases h'
        | some y => rw [ej] at h'; exact h'
      · rw [List.getElem?_eq_none (by rw [List.length_set]; omega)] at h'; cases h'
    · rw [List.getElem?_set_ne (Ne.symm e)] at h'
      rcases restE_some h' with ⟨h1, h2⟩ | ⟨h1, h2⟩
      · exact .inl ⟨List.mem_cons_of_mem _ h1, h2⟩
      · exact .inr ⟨fun z => (List.mem_cons.mp z).elim e h1, h2⟩
def wipeF (fps : List Fp) : List Nat → List Fp
  | [] => fps
  | v :: vs => (wipeF fps vs).set v 0
theorem wipeF_len : ∀ (vs : List Nat) (fps : List Fp), (wipeF fps vs).length = fps.length
  | [], _ => rfl
  | v :: vs, fps => by
    show ((wipeF fps vs).set v 0).length = _
    rw [List.length_set, wipeF_len vs fps]
theorem wipeF_le : ∀ (vs : List Nat) (fps : List Fp) (a : Addr), tot (wipeF fps vs) a ≤ tot fps a
  | [], _, _ => Nat.le_refl _
  | v :: vs, fps, a => Nat.le_trans (tot_set0_le v a) (wipeF_le vs fps a)
theorem wipeF_out : ∀ {vs : List Nat} {fps : List Fp} {j : Nat}, j ∉ vs → (wipeF fps vs)[j]? = fps[j]?
  | [], _, _, _ => rfl
  | v :: vs, fps, j, h => by
    rw [List.mem_cons, not_or] at h
    show ((wipeF fps vs).set v 0)[j]? = _
    rw [List.getElem?_set_ne (Ne.symm h.1), wipeF_out h.2]
theorem wipeF_in : ∀ {vs : List Nat} {fps : List Fp} {j : Nat}, j ∈ vs → j < fps.length → (wipeF fps vs)[j]? = some 0
  | v :: vs, fps, j, h, hl => by
    show ((wipeF fps vs).set v 0)[j]? = _
    by_cases e : j = v
    · subst e; exact List.getElem?_set_self (by rw [wipeF_len]; exact hl)
    · rw [List.getElem?_set_ne (Ne.symm e)]
      exact wipeF_in ((List.mem_cons.mp h).resolve_left e) hl

section
variable {K : PySem.W.Frag} {mg : Str → Option Value} {W : WX} {q q1 : Bool} {fr f0 f1 f fv : Fp} {fps fps1 : List Fp} {σ σ1 σ' : L2.St} {H H1 H' : Hp} {s s1 : En} {c c' : Fp} {io : Nat} {Q : VK}
theorem Slots.wipe (vs : List Nat) (sl : Slots K c σ H s fps) : Slots K c (L2.wipe σ vs) H (wipeE s vs) fps :=
  ⟨by rw [wipeE_len]; exact sl.ln, by rw [wipeE_len, wipe_len]; exact sl.ls, fun j m d e => by
    obtain ⟨e1, n⟩ := wipeE_some e
    obtain ⟨v, f, h1, h2⟩ := sl.at_ j m d e1
    exact ⟨v, f, by rw [wipe_out n]; exact h1, h2⟩⟩
theorem EndG.drop {α β : Type} {RR : Fp → Hp → α → β → Fp → Prop} {r : Rs α} {Q : β → Hp → Prop} (h : EndG RR K mg W q fr fps f0 σ H r Q) : EndG RR K mg W q fr fps 0 σ H r Q := by
  have tr : ∀ {q1 : Bool} {H' fps' f}, Stp q1 fr fps 0 H H' fps' f → Stp q1 fr fps f0 H H' fps' f := fun st => ⟨st.le, st.lv, fun a z => (st.nw a z).imp (fun y => by have y' : 0 < 0 + tot fps a := y; omega) id, fun a o e z => st.kp a o e (z.imp id fun y => by show 0 + tot fps a = 0; omega)⟩
  cases r with
  | no => exact h
  | exc x s' =>
    have h' : ExcP K mg W fr fps f0 σ H x s' := h
    exact fun H' fps' dx C w st sl hm hr hs hd => h' H' fps' dx C w (tr st) sl hm hr hs hd
  | ok x s' => exact fun v H' fps' f st sl hr => h v H' fps' f (tr st) sl hr
/-- what the comprehension has gathered -/
def AccOk (two : Bool) (K : PySem.W.Frag) (c : Fp) (H : Hp) (ds : List PyData) (vs : List V) (f : Fp) : Prop := if two = true then RepEs K c H ds vs f else Reps K c H ds vs ∧ f = 0
theorem AccOk.mono {two : Bool} {ds : List PyData} {vs : List V} (k : Kp c c' H H') (kp : ∀ a o, 0 < f a → H a = some o → H' a = some o) (h : AccOk two K c H ds vs f) : AccOk two K c' H' ds vs f := by
  cases two with
  | true => exact RepEs.mono k kp h
  | false => exact ⟨Reps.mono k _ _ h.1, h.2⟩
theorem AccOk.len {two : Bool} {ds : List PyData} {vs : List V} (h : AccOk two K c H ds vs f) : ds.length = vs.length := by
  cases two with
  | true => exact RepEs.len h
  | false => exact h.1.len
theorem AccOk.snoc {two : Bool} {ds : List PyData} {vs : List V} {m : Md} {d : PyData} {y : V} {g : Fp} (h : AccOk two K c H ds vs f) (hm : two = true → m = .o1) (r : RepM K c H m d y g) (rz : two = false → Rep K c H d y) : AccOk two K c H (ds ++ [d]) (vs ++ [y]) (f + if two = true then g else 0) := by
  cases two with
  | true =>
    obtain rfl := hm rfl
    obtain ⟨p, ro, eg⟩ := r
    exact RepEs.snoc h (.inr ⟨ro.imm, p, ro, eg⟩)
  | false =>
    refine ⟨h.1.append (Reps.one (rz rfl)), ?_⟩
    rw [h.2]; rfl
end

section
variable {X : Cx} {G : List Info} {W : WX} {c ca cb cc ci ce : Ce} {cs ifs' : Ces} {a b e e1 e2 e3 tg iter elt : Expr} {ifs : List Expr} {es : List Expr} {pos p p2 q2 : Pos} {io : Nat} {sk : Sk} {t : Tg}
def wF : WX := fun _ _ _ _ => False
/-- what the tests ask -/
abbrev TIf (X : Cx) (G : List Info) (ifs' : Ces) : TT := tG rB X.K X.mg wF (qts ifs') (evTs G ifs')
theorem rI_nil : PTs X [] (TIf X G .nil) := ⟨fun pins s σ H Q I h => pts_nil.run pins s σ H Q I (by
  obtain ⟨fr, fps, s, rel, hE⟩ := tG_in h
  exact EndG.pl (RR := rB) (x := true) (v := true) rel hE ⟨rfl, rfl⟩)⟩
theorem rI_one (h : PT X e (TTc X G wF c)) : PTs X [e] (TIf X G (.cons c .nil)) := ⟨fun pins s σ H Q I h' => (pts_one h).run pins s σ H Q I (by
  have q' : tG rB X.K X.mg wF (qt c && true) (fun s => tbR (ev G c s)) σ H Q := h'
  rw [Bool.and_true] at q'; exact q')⟩
theorem lc_in {two : Bool} {own : List Nat} (ho : (tgL t).all (fun j => own.contains j) = true) (σ : L2.St) (H : Hp) (Q : VK) (q : TEc X G W (.comp two own ce t sk cs ifs') σ H Q) :
    tLc (iG X G W sk cs) (gB X.K t) (TIf X G ifs') (TEc X G wF ce) own σ H Q := by
  obtain ⟨fr, fps, s, rel, hE⟩ := tG_in q
  refine ⟨fr, fps, s, rel, ?_⟩
  have qq : qt (.comp two own ce t sk cs ifs') = (qt ce && qts cs && qts ifs') := rfl
  have h' : EndG (rM X.K) X.K X.mg W (qt ce && qts cs && qts ifs') fr fps 0 σ H ((evs G cs s).bind fun vs s1 => match itemsD sk vs with
    | none => .no
    | some (xs, b) => if ((b && !(qt ce && qts ifs')) || own.any (heldE s1)) = true then .no else
      (compL two own (bindT t) (fun s => evTs G ifs' s) (fun s => ev G ce s) xs [] s1).bind fun acc s2 => .ok (if two = true then .o2 else .o1, .list acc) (restE s1 s2 own)) Q := hE
  cases ee : evs G cs s with
  | no => rw [ee] at h'; exact h'
  | exc x s1 => rw [ee] at h'; exact h'
  | ok vs s1 =>
    rw [ee] at h'
    show match itemsD sk vs with
      | some (xs, b) => ∀ J H1 fps1 Src, Stp (qts cs) fr fps 0 H H1 fps1 0 → Rel X.K fr fps1 σ H1 s1 → SrcOk X.K H1 b J xs Src → Src (cn fr fps1) H1 → xs.length ≤ sizeLine → _
      | none => False
    have h1 : EndG (rM X.K) X.K X.mg W (qt ce && qts cs && qts ifs') fr fps 0 σ H (match itemsD sk vs with
      | none => .no
      | some (xs, b) => if ((b && !(qt ce && qts ifs')) || own.any (heldE s1)) = true then .no else
        (compL two own (bindT t) (fun s => evTs G ifs' s) (fun s => ev G ce s) xs [] s1).bind fun acc s2 => .ok (if two = true then .o2 else .o1, .list acc) (restE s1 s2 own)) Q := h'
    split at h1
    · exact h1.elim
    · rename_i xs b ei
      rw [ei]
      intro J H1 fps1 Src st0 rel1 so hs1 hxl DD hD
      split at h1
      · exact h1.elim
      · rename_i nq
        rw [Bool.or_eq_true, not_or] at nq
        have hbq : b = true → qt ce = true ∧ qts ifs' = true := fun z => by
          cases hq : (qt ce && qts ifs') with
          | true => exact ⟨and_l hq, and_r hq⟩
          | false => exact absurd (by rw [z, hq]; rfl) nq.1
        have nheld : ∀ j ∈ own, heldE s1 j = false := fun j hj => Bool.eq_false_iff.mpr fun z => nq.2 (List.any_eq_true.mpr ⟨j, hj, z⟩)
        have hE1 := EndG.drop (EndG.trans (f0 := 0) (f1 := 0) st0 (fun a => rel.le a) (fun z => and_r (and_l z)) h1)
        have le1 := rel1.le
        -- the invariant
        let fin : List PyData → En → Rs MD := fun acc s2 => .ok (if two = true then .o2 else .o1, .list acc) (restE s1 s2 own)
        let R1 : Rs MD := (compL two own (bindT t) (fun s => evTs G ifs' s) (fun s => ev G ce s) xs [] s1).bind fin
        let WW : Nat → Nat → Hp → Prop := fun i m H => m + i = xs.length ∧ ∃ fps' s' acc accV facc, Stp (qt ce && qts cs && qts ifs') fr fps1 0 H1 H fps' (single DD + facc) ∧ Slots X.K (cn (fr + (single DD + facc)) fps') (wipe σ own) H (wipeE s' own) fps' ∧
          H DD = some (.lst accV) ∧ AccOk two X.K (cn (fr + (single DD + facc)) fps') H acc accV facc ∧ acc.length ≤ i ∧ Src (cn (fr + (single DD + facc)) fps') H ∧ (b = true → Grw H1 H) ∧
          R1 = (compL two own (bindT t) (fun s => evTs G ifs' s) (fun s => ev G ce s) (xs.drop i) acc s').bind fin
        refine ⟨WW, ⟨xs.length, Nat.add_zero _, fps1, s1, [], [], 0, ?_, ?_, upd_same, ?_, Nat.le_refl _, ?_, fun _ => Grw.upd hD, by rw [List.drop_zero]⟩, ?_⟩
        · exact (alloc (f0 := 0) (q := qt ce && qts cs && qts ifs') (o := .lst []) (rel1 : Rel X.K (fr + 0) fps1 σ H1 s1) hD).1
        · have sl := (alloc (f0 := 0) (q := true) (o := .lst []) (rel1 : Rel X.K (fr + 0) fps1 σ H1 s1) hD).2.sl
          rw [Fp.zero_add] at sl
          exact Slots.wipe own sl
        · cases two with
          | true => exact ⟨rfl, rfl⟩
          | false => exact ⟨rfl, rfl⟩
        · refine so.keep _ _ _ _ ⟨fun a o e _ => Grw.upd hD a o e, fun a o e z => ?_⟩ (fun _ => Grw.upd hD) hs1
          have ne : a ≠ DD := fun y => by subst y; rw [hD] at e; cases e
          rw [cn_zero] at z ⊢
          refine ⟨?_, z.2⟩
          show fr a + (single DD a + 0) = 0
          rw [single_ne ne]; omega
        intro i m H2 ⟨hm, fps', s', acc, accV, facc, st, sl, hDv, hacc, hal, hsrc, hbg, hR⟩
        have relw : Rel X.K (fr + (single DD + facc)) fps' (wipe σ own) H2 (wipeE s' own) := ⟨st.le, st.lv, sl⟩
        have leD : ∀ a, fr a + (single DD a + facc a) + tot fps' a ≤ 1 := st.le
        have hE2 : EndG (rM X.K) X.K X.mg W (qt ce && qts cs && qts ifs') fr fps1 0 σ H1 R1 Q := hE1
        by_cases hl : xs.length ≤ i
        · left
          refine ⟨so.stop _ _ _ hsrc hl, ?_⟩
          rw [List.drop_of_length_le hl] at hR
          rw [hR] at hE2
          have hE3 : EndG (rM X.K) X.K X.mg W (qt ce && qts cs && qts ifs') fr fps1 0 σ H1 (.ok (if two = true then .o2 else .o1, .list acc) (restE s1 s' own)) Q := hE2
          have wl := fun a => wipeF_le own fps' a
          have c0 : ∀ a, cn (fr + (single DD + facc)) fps' a = 0 → cn (fr + (single DD + facc)) (wipeF fps' own) a = 0 := fun a z => by
            rw [cn_zero] at z ⊢
            have := wl a
            omega
          refine hE3 (.ref DD) H2 (wipeF fps' own) (single DD + facc) ⟨fun a => ?_, fun a z => st.lv a ?_, fun a z => st.nw a ?_, st.kp⟩ ⟨?_, ?_, fun j m d e => ?_⟩ ?_
          · have := st.le a
            have := wl a
            omega
          · have := wl a
            omega
          · have := wl a
            omega
          · rw [restE_len, wipeF_len]
            have := sl.ln
            rw [wipeE_len] at this
            exact this
          · rw [restE_len]
            have := sl.ls
            rw [wipeE_len, wipe_len] at this
            exact this
          · rcases restE_some e with ⟨hj, e0⟩ | ⟨hj, e0⟩
            · obtain ⟨v, fj, h1, h2, h3, h4⟩ := rel1.sl.at_ j m d e0
              have hm : m = .fz := by
                have := nheld j hj
                unfold heldE at this
                rw [e0] at this
                have h5 : decide (m ≠ .fz) = false := this
                exact Decidable.not_not.mp (of_decide_eq_false h5)
              subst hm
              obtain ⟨h5, h6⟩ := h4
              refine ⟨v, 0, h1, wipeF_in hj ?_, rfl, ?_, rfl⟩
              · have h7 := sl.ln
                have h8 := sl.ls
                rw [wipeE_len] at h7
                rw [wipeE_len, wipe_len] at h8
                rw [← h7, h8]
                exact (List.getElem?_eq_some_iff.mp h1).1
              · refine Rep.mono ⟨fun a o e z => st.kp a o e (.inr ?_), fun a o e z => c0 a ?_⟩ _ _ h5
                · rw [cn_zero] at z; show 0 + tot fps1 a = 0; omega
                · rw [cn_zero] at z ⊢
                  by_cases y : 0 < (single DD + facc) a + tot fps' a
                  · rcases st.nw a y with y | y
                    · have y' : 0 < 0 + tot fps1 a := y
                      omega
                    · rw [e] at y; cases y
                  · rw [Fp.add_at]; omega
            · have e1 : (wipeE s' own)[j]? = some (some (m, d)) := by
                have : ∀ {vs : List Nat} {s : En}, j ∉ vs → (wipeE s vs)[j]? = s[j]? := by
                  intro vs
                  induction vs with
                  | nil => intro s _; rfl
                  | cons v vs ih =>
                    intro s h
                    rw [List.mem_cons, not_or] at h
                    show ((wipeE s vs).set v none)[j]? = _
                    rw [List.getElem?_set_ne (Ne.symm h.1), ih h.2]
                rw [this hj]; exact e0
              obtain ⟨v, fj, h1, h2, h3, h4⟩ := sl.at_ j m d e1
              rw [wipe_out hj] at h1
              exact ⟨v, fj, h1, by rw [wipeF_out hj]; exact h2, h3, lessM _ _ _ (m, d) _ _ c0 h4⟩
          · have hacc' := hacc.mono ⟨fun _ _ e _ => e, fun a _ _ z => c0 a z⟩ fun _ _ _ e => e
            cases two with
            | true => exact ⟨acc, DD, accV, facc, rfl, rfl, hDv, hacc', rfl⟩
            | false =>
              refine ⟨DD, ⟨rfl, accV, hDv, hacc'.1⟩, ?_⟩
              have := hacc'.2
              rw [this, Fp.add_zero]
        · right
          have hlt : i < xs.length := by omega
          refine ⟨so.go _ _ _ hsrc hlt, fun H3 => WW (i + 1) (m - 1) H3, fun H3 h => ⟨m - 1, by omega, h⟩, fun x H3 hy => ?_⟩
          obtain ⟨g, rx⟩ := so.yld _ _ _ _ _ _ hsrc (List.getElem?_eq_getElem hlt) hy relw.fresh
          have rel2 := relw.grw g
          rw [List.drop_eq_getElem_cons hlt] at hR
          have hR' : R1 = (match bindT t xs[i] (wipeE s' own) with
            | none => .no
            | some s1 => match evTs G ifs' s1 with
              | .ok false s2 => compL two own (bindT t) (fun s => evTs G ifs' s) (fun s => ev G ce s) (xs.drop (i + 1)) acc s2
              | .ok true s2 => match ev G ce s2 with
                | .ok (m, d) s3 => if ((two && decide (m ≠ .o1)) || m.isB) = true then .no else compL two own (bindT t) (fun s => evTs G ifs' s) (fun s => ev G ce s) (xs.drop (i + 1)) (acc ++ [d]) s3
                | _ => .no
              | _ => .no : Rs (List PyData)).bind fin := hR
          have dead : R1 = (.no : Rs (List PyData)).bind fin → False := fun z => by rw [z] at hE2; exact hE2
          cases hb : bindT t xs[i] (wipeE s' own) with
          | none => rw [hb] at hR'; exact (dead hR').elim
          | some sb =>
            rw [hb] at hR'
            refine ⟨_, fps', _, xs[i], sb, rel2, rx, hb, fun σ2 fpsb relb hle hdif => ?_⟩
            have hdo : Dif own (wipe σ own) σ2 := ⟨hdif.1, fun j hj => hdif.2 j fun hm => hj (by
              have := List.all_eq_true.mp ho j hm
              exact List.contains_iff_mem.mp this)⟩
            have hw : wipe σ2 own = wipe (wipe σ own) own := wipe_dif hdo
            have hw2 : wipe (wipe σ own) own = wipe σ own := wipe_dif wipe_self
            refine ⟨hw.trans hw2, _, fpsb, sb, relb, ?_⟩
            cases et : evTs G ifs' sb with
            | no => simp only [et] at hR'; exact (dead hR').elim
            | exc x s2 => simp only [et] at hR'; exact (dead hR').elim
            | ok tb s2 =>
              simp only [et] at hR'
              intro v H4 fps3 f3 st3 sl3 ⟨ev3, ef3⟩
              subst ev3 ef3
              -- what was not owned at the start stays so
              have old3 : ∀ a o, H1 a = some o → tot fps1 a = 0 → a ≠ DD ∧ (single DD + facc) a = 0 ∧ tot fps3 a = 0 ∧ H4 a = some o ∧ H2 a = some o := fun a o e z => by
                have ne : a ≠ DD := fun y => by subst y; rw [hD] at e; cases e
                have n1 : ¬ 0 < (single DD + facc) a + tot fps' a := fun y => by
                  rcases st.nw a y with y | y
                  · have y' : 0 < 0 + tot fps1 a := y
                    omega
                  · rw [e] at y; cases y
                have h2 : H2 a = some o := st.kp a o e (.inr (by show 0 + tot fps1 a = 0; omega))
                have h3 : H3 a = some o := g a o h2
                have := hle a
                have n2 : ¬ 0 < (0 : Fp) a + tot fps3 a := fun y => by
                  rcases st3.nw a y with y | y
                  · have y' : 0 < 0 + tot fpsb a := y
                    omega
                  · rw [h3] at y; cases y
                have n2' : ¬ 0 < 0 + tot fps3 a := n2
                exact ⟨ne, by omega, by omega, st3.kp a o h3 (.inr (by show 0 + tot fpsb a = 0; omega)), h2⟩
              have leb := relb.le
              have fD : ∀ {a : Addr}, 0 < (fr + (single DD + facc)) a → ∀ o, H2 a = some o → H4 a = some o := fun {a} z o e => by
                refine st3.kp a o (g a o e) (.inr ?_)
                have := leb a
                show 0 + tot fpsb a = 0
                omega
              have frD : (fr + (single DD + facc)) DD = fr DD + (1 + facc DD) := by show fr DD + (single DD DD + facc DD) = _; rw [single_at]
              have hD4 : H4 DD = some (.lst accV) := fD (by rw [frD]; omega) _ hDv
              -- from the turn's start to here
              have kp4 : Kp (cn (fr + (single DD + facc)) fps') (cn (fr + (single DD + facc)) fps3) H2 H4 := ⟨fun a o e z => by
                rw [cn_zero] at z
                have := hle a
                exact st3.kp a o (g a o e) (.inr (by show 0 + tot fpsb a = 0; omega)), fun a o e z => by
                rw [cn_zero] at z ⊢
                refine ⟨z.1, ?_⟩
                have := hle a
                by_cases y : 0 < (0 : Fp) a + tot fps3 a
                · rcases st3.nw a y with y | y
                  · have y' : 0 < 0 + tot fpsb a := y
                    omega
                  · rw [g a o e] at y; cases y
                · have y' : ¬ 0 < 0 + tot fps3 a := y
                  omega⟩
              have grw4 : b = true → Grw H1 H4 := fun z a o e => st3.kp a o (g a o (hbg z a o e)) (.inl (hbq z).2)
              have le3 := st3.le
              cases v with
              | false =>
                refine ⟨by omega, fps3, s2, acc, accV, facc, ⟨fun a => le3 a, fun a z => st3.lv a z, fun a z => ?_, fun a o e z => ?_⟩, ?_, hD4, hacc.mono kp4 fun a o z e => fD (by show 0 < fr a + (single DD a + facc a); omega) o e, by omega, so.keep _ _ _ _ kp4 grw4 hsrc, grw4, hR'⟩
                · by_cases y : 0 < tot fps1 a
                  · left; show 0 < 0 + tot fps1 a; omega
                  · right
                    cases e : H1 a with
                    | none => rfl
                    | some o =>
                      obtain ⟨_, z1, z2, _⟩ := old3 a o e (by omega)
                      omega
                · rcases z with z | z
                  · exact st3.kp a o (g a o (st.kp a o e (.inl z))) (.inl (and_r z))
                  · exact (old3 a o e (by have z' : 0 + tot fps1 a = 0 := z; omega)).2.2.2.1
                · have sl4 : Slots X.K (cn (fr + (single DD + facc)) fps3) σ2 H4 s2 fps3 := sl3
                  have := Slots.wipe own sl4
                  rw [hw, hw2] at this
                  exact this
              | true =>
                have rel3 : Rel X.K (fr + (single DD + facc)) fps3 σ2 H4 s2 := ⟨fun a => le3 a, fun a z => st3.lv a z, sl3⟩
                refine ⟨_, fps3, s2, rel3, ?_⟩
                cases ev4 : ev G ce s2 with
                | no => simp only [ev4] at hR'; exact (dead hR').elim
                | exc x s3 => simp only [ev4] at hR'; exact (dead hR').elim
                | ok md s3 =>
                  obtain ⟨mm, d⟩ := md
                  simp only [ev4] at hR'
                  by_cases hbad : ((two && decide (mm ≠ .o1)) || mm.isB) = true
                  · rw [if_pos hbad] at hR'; exact (dead hR').elim
                  · rw [if_neg hbad] at hR'
                    rw [Bool.or_eq_true, not_or] at hbad
                    have hmm : two = true → mm = .o1 := fun z => by
                      have := hbad.1
                      rw [z, Bool.true_and, decide_eq_true_eq, Decidable.not_not] at this
                      exact this
                    intro y H5 fps4 f4 st4 sl4 ry
                    have le4 : ∀ a, fr a + (single DD a + facc a) + f4 a + tot fps4 a ≤ 1 := st4.le
                    let g4 : Fp := if two = true then f4 else 0
                    have hg4 : ∀ a, g4 a ≤ f4 a := fun a => by
                      show (if two = true then f4 else 0 : Fp) a ≤ f4 a
                      split
                      · exact Nat.le_refl _
                      · exact Nat.zero_le _
                    have fD5 : ∀ {a : Addr}, 0 < (fr + (single DD + facc)) a → ∀ o, H4 a = some o → H5 a = some o := fun {a} z o e => by
                      refine st4.kp a o e (.inr ?_)
                      have h5 : (fr + (single DD + facc)) a + 0 + tot fps3 a ≤ 1 := le3 a
                      show 0 + tot fps3 a = 0
                      omega
                    have hD5 : H5 DD = some (.lst accV) := fD5 (by rw [frD]; omega) _ hD4
                    have old5 : ∀ a o, H1 a = some o → tot fps1 a = 0 → a ≠ DD ∧ (single DD + facc) a = 0 ∧ f4 a = 0 ∧ tot fps4 a = 0 ∧ H5 a = some o := fun a o e z => by
                      obtain ⟨ne, z1, z2, e4, _⟩ := old3 a o e z
                      have n4 : ¬ 0 < f4 a + tot fps4 a := fun y => by
                        rcases st4.nw a y with y | y
                        · have y' : 0 < 0 + tot fps3 a := y
                          omega
                        · rw [e4] at y; cases y
                      exact ⟨ne, z1, by omega, by omega, st4.kp a o e4 (.inr (by show 0 + tot fps3 a = 0; omega))⟩
                    have hH : ∀ a o, a ≠ DD → H5 a = some o → upd H5 DD (.lst (accV ++ [y])) a = some o := fun a o n e => by rw [upd_ne n]; exact e
                    have neD : ∀ {a : Addr}, cn (fr + (single DD + facc)) fps4 a = 0 → a ≠ DD := fun {a} z y => by
                      subst y
                      rw [cn_zero, frD] at z
                      omega
                    -- the counts at the end
                    have ecnt : ∀ a, cn (fr + (single DD + facc) + f4) fps4 a = 0 → cn (fr + (single DD + (facc + g4))) fps4 a = 0 := fun a z => by
                      have z' : fr a + (single DD a + facc a) + f4 a + tot fps4 a = 0 := z
                      have := hg4 a
                      show fr a + (single DD a + (facc a + g4 a)) + tot fps4 a = 0
                      omega
                    have kp5 : Kp (cn (fr + (single DD + facc)) fps3) (cn (fr + (single DD + facc) + f4) fps4) H4 H5 := ⟨fun a o e z => by
                      rw [cn_zero] at z
                      exact st4.kp a o e (.inr (by show 0 + tot fps3 a = 0; omega)), fun a o e z => by
                      have z' : fr a + (single DD a + facc a) + tot fps3 a = 0 := z
                      by_cases y : 0 < f4 a + tot fps4 a
                      · rcases st4.nw a y with y | y
                        · have y' : 0 < 0 + tot fps3 a := y
                          omega
                        · rw [e] at y; cases y
                      · show fr a + (single DD a + facc a) + f4 a + tot fps4 a = 0
                        omega⟩
                    have kp6 : Kp (cn (fr + (single DD + facc) + f4) fps4) (cn (fr + (single DD + (facc + g4))) fps4) H5 (upd H5 DD (.lst (accV ++ [y]))) := ⟨fun a o e z => hH a o (fun y => by
                      subst y
                      have z' : fr a + (single a a + facc a) + f4 a + tot fps4 a = 0 := z
                      rw [single_at] at z'; omega) e, fun a o e z => ecnt a z⟩
                    have kpA : Kp (cn (fr + (single DD + facc)) fps') (cn (fr + (single DD + (facc + g4))) fps4) H2 (upd H5 DD (.lst (accV ++ [y]))) := ⟨fun a o e z => by
                      have e4 := kp4.k a o e z
                      have z4 := kp4.z a o e z
                      have e5 := kp5.k a o e4 z4
                      exact kp6.k a o e5 (kp5.z a o e4 z4), fun a o e z => by
                      have e4 := kp4.k a o e z
                      have z4 := kp4.z a o e z
                      have e5 := kp5.k a o e4 z4
                      exact kp6.z a o e5 (kp5.z a o e4 z4)⟩
                    have grw5 : b = true → Grw H1 (upd H5 DD (.lst (accV ++ [y]))) := fun z a o e => by
                      refine hH a o (fun y => by subst y; rw [hD] at e; cases e) (st4.kp a o (grw4 z a o e) (.inl (hbq z).1))
                    have nbm : mm.isB = false := Bool.eq_false_iff.mpr hbad.2
                    have ry' : RepM X.K (cn (fr + (single DD + facc) + f4) fps4) H5 mm d y f4 := ry
                    have rel5 : Rel X.K (fr + (single DD + facc) + f4) fps4 σ2 H5 s3 := ⟨fun a => le4 a, fun a z => st4.lv a z, sl4⟩
                    refine ⟨accV, hD5, by rw [← hacc.len]; omega, by omega, fps4, s3, acc ++ [d], accV ++ [y], facc + g4, ⟨fun a => ?_, fun a z => ?_, fun a z => ?_, fun a o e z => ?_⟩, ?_, upd_same, ?_, by rw [List.length_append]; show acc.length + 1 ≤ i + 1; omega, so.keep _ _ _ _ kpA grw5 hsrc, grw5, hR'⟩
                    · have := le4 a
                      have := hg4 a
                      show fr a + (single DD a + (facc a + g4 a)) + tot fps4 a ≤ 1
                      omega
                    · have z' : 0 < fr a + (single DD a + (facc a + g4 a)) + tot fps4 a := z
                      by_cases e : a = DD
                      · subst e; rw [upd_same]; exact fun y => nomatch y
                      · rw [upd_ne e]
                        refine st4.lv a ?_
                        have := hg4 a
                        show 0 < fr a + (single DD a + facc a) + f4 a + tot fps4 a
                        omega
                    · have z' : 0 < (single DD a + (facc a + g4 a)) + tot fps4 a := z
                      by_cases y : 0 < tot fps1 a
                      · left; show 0 < 0 + tot fps1 a; omega
                      · right
                        cases e : H1 a with
                        | none => rfl
                        | some o =>
                          obtain ⟨_, z1, z2, z3, _⟩ := old5 a o e (by omega)
                          have z1' : single DD a + facc a = 0 := z1
                          have := hg4 a
                          omega
                    · rcases z with z | z
                      · refine hH a o (fun y => by subst y; rw [hD] at e; cases e) ?_
                        exact st4.kp a o (st3.kp a o (g a o (st.kp a o e (.inl z))) (.inl (and_r z))) (.inl (and_l (and_l z)))
                      · obtain ⟨ne, _, _, _, e5⟩ := old5 a o e (by have z' : 0 + tot fps1 a = 0 := z; omega)
                        exact hH a o ne e5
                    · have sl5 : Slots X.K (cn (fr + (single DD + (facc + g4))) fps4) σ2 (upd H5 DD (.lst (accV ++ [y]))) s3 fps4 := Slots.mono kp6 (fun a o e z => hH a o (fun w => by
                        subst w
                        have := le4 a
                        rw [single_at] at this; omega) e) sl4
                      have := Slots.wipe own sl5
                      rw [hw, hw2] at this
                      exact this
                    · have ne_own : ∀ a, 0 < (facc + g4) a → a ≠ DD := fun a z w => by
                        subst w
                        have z' : 0 < facc a + g4 a := z
                        have h4 := le4 a
                        have := hg4 a
                        rw [single_at] at h4; omega
                      have acc5 : AccOk two X.K (cn (fr + (single DD + facc) + f4) fps4) H5 acc accV facc := (hacc.mono kp4 fun a o z e => fD (by show 0 < fr a + (single DD a + facc a); omega) o e).mono kp5 fun a o z e => fD5 (by show 0 < fr a + (single DD a + facc a); omega) o e
                      have fzy : two = false → Rep X.K (cn (fr + (single DD + (facc + g4))) fps4) H5 d y := fun z => by
                        refine Rep.mono ⟨fun _ _ e _ => e, fun a o e z' => ?_⟩ _ _ (fz_of (fr := fr + (single DD + facc)) (f0 := f4) rel5 (fun a => Nat.le_refl _) nbm ry')
                        have hz : g4 a = 0 := by show (if two = true then f4 else 0 : Fp) a = 0; rw [z]; rfl
                        have z2 : fr a + (single DD a + facc a) + tot fps4 a = 0 := z'
                        show fr a + (single DD a + (facc a + g4 a)) + tot fps4 a = 0
                        omega
                      have kI : Kp (cn (fr + (single DD + facc) + f4) fps4) (cn (fr + (single DD + (facc + g4))) fps4) H5 H5 := ⟨fun _ _ e _ => e, fun a o e z => ecnt a z⟩
                      have acc6 := AccOk.snoc (acc5.mono kI fun _ _ _ e => e) hmm (RepM.mono kI (fun _ _ e _ => e) ry') fzy
                      refine acc6.mono ⟨fun a o e z => hH a o (fun w => ?_) e, fun a o e z => z⟩ fun a o z e => hH a o (ne_own a z) e
                      subst w
                      have z2 : fr a + (single a a + (facc a + g4 a)) + tot fps4 a = 0 := z
                      rw [single_at] at z2; omega
theorem r_lc {two : Bool} {scope : Scope} {own : List (Str × Nat)} (hc : X.calm = true) (hN : X.N.Nodup) (hi : PI X tg iter (iG X G W sk cs)) (ok : BlkOk X.N X.env.scope scope own)
    (hg : ∀ (s : Shared) (H : Hp) (C : Addr) (cl : List (Str × Addr)) (fp : List Addr), PG (X.blk s H scope (compEnvC scope cl C X.env) fp) tg (gB X.K t)) (ht : ∀ (s : Shared) (H : Hp) (C : Addr) (cl : List (Str × Addr)) (fp : List Addr), PTs (X.blk s H scope (compEnvC scope cl C X.env) fp) ifs (TIf X G ifs'))
    (he : ∀ (s : Shared) (H : Hp) (C : Addr) (cl : List (Str × Addr)) (fp : List Addr), PE (X.blk s H scope (compEnvC scope cl C X.env) fp) elt (TEc X G wF ce)) (ho : (tgL t).all (fun j => (own.map (·.2)).contains j) = true := by decide) (hs : ∀ x, foldedSetIterable iter X.env x = pure x := by intro _; rfl) :
    PE X (.ListComp elt [⟨tg, iter, ifs, 0⟩] scope pos) (TEc X G W (.comp two (own.map (·.2)) ce t sk cs ifs')) :=
  (pe_lc hc hN hi ok hg ht he hs).imp (lc_in ho)
theorem s_setLc {two : Bool} {i : Nat} {y : Str} {py spos : Pos} {scope : Scope} {own : List (Str × Nat)} (hc : X.calm = true) (hN : X.N.Nodup) (hy : X.N[i]? = some y) (hyl : X.env.scope.names.lookup y = some .local)
    (hsw : swapsWith (.ListComp elt [⟨tg, iter, ifs, 0⟩] scope pos) (some (.Name y py)) spos.line X.env = pure true) (hi : PI X tg iter (iG X G W sk cs)) (ok : BlkOk X.N X.env.scope scope own)
    (hg : ∀ (s : Shared) (H : Hp) (C : Addr) (cl : List (Str × Addr)) (fp : List Addr), PG (X.blk s H scope (compEnvC scope cl C X.env) fp) tg (gB X.K t)) (ht : ∀ (s : Shared) (H : Hp) (C : Addr) (cl : List (Str × Addr)) (fp : List Addr), PTs (X.blk s H scope (compEnvC scope cl C X.env) fp) ifs (TIf X G ifs'))
    (he : ∀ (s : Shared) (H : Hp) (C : Addr) (cl : List (Str × Addr)) (fp : List Addr), PE (X.blk s H scope (compEnvC scope cl C X.env) fp) elt (TEc X G wF ce)) (hio : io ≤ i := by decide) (ho : (tgL t).all (fun j => (own.map (·.2)).contains j) = true := by decide) (hs : ∀ x, foldedSetIterable iter X.env x = pure x := by intro _; rfl) :
    PS X (.Assign [.Name y py] (.ListComp elt [⟨tg, iter, ifs, 0⟩] scope pos) spos) (TSc X G W io (.asg (.nm i) (.comp two (own.map (·.2)) ce t sk cs ifs'))) :=
  (ps_setLc hc hN hy hyl hsw hi ok hg ht he hs).imp fun D σ H ⟨fr, fps, s, rel, h⟩ => by
    refine lc_in (two := two) ho σ H _ ?_
    have h' : EndS X.K X.mg W io fr fps 0 σ H ((keepR (ev G (.comp two (own.map (·.2)) ce t sk cs ifs') s)).bind fun v s1 => .ok .nx (s1.set i (some v))) D := h
    rw [keepR_bind] at h'
    refine tS_step (f0 := 0) rel h' fun x s1 v H1 fps1 f1 e1 st1 rel1 r1 h1 => ?_
    split at h1
    · exact h1.elim
    · rename_i nb
      exact EndS.put (fv := f1) rel1 h1 hio (fun a => by simp only [Fp.add_at, Fp.zero_at]; omega) (Bool.eq_false_iff.mpr nb) r1
end
end DV

set_option Elab.async false
set_option linter.all false
set_option maxRecDepth 100000
set_option maxHeartbeats 2000000
/-! DV22: own errors: class C(F), F(Exception); C.__init__: super().__init__(text), self.fld = v. -/
namespace PySem
namespace DVE
open PySem.W PySem.Calls PyProof.Rows PySem.HandSPX PySem.ESX
section
open Builtin Builtin.ObjectAttr
variable {prog : Program} {w : World} {A : Around} {E : Value → Shared → Prop} {R : Result → Shared → Prop} {hp : Heap} {g : Array GenState} {d : Drawn} {t : Nat} {os : OsState}
theorem osa_new2 {K : W.Frag} {name : Str} {tk : Tok} {v : Value} {x C F0 : Addr} {fv : Array Value} {cd : ClassData}
    (X : K.In hp) (hx : hp.get? x = some { cls := .ref C, data := .fields fv }) (hcd : W.clsIn K C = some cd) (hm : cd.mro = .ref C :: .ref F0 :: exTail) (hh : cd.hasDict = true) (ha : W.findIn K (.ref C) name = some none)
    (hq : ∀ h' tk' dx, (∀ b o, b ≠ x → hp.get? b = some o → h'.get? b = some o) → hp.objs.size ≤ dx → dx ≠ x → h'.get? x = some { cls := .ref C, dict := some dx, data := .fields fv } →
      h'.Ns1 dx (fun y => if y = name then some v else none) → R (.ok (.ret .none)) ⟨h', g, d, tk', os⟩) :
    codeAny (model prog w) A (.call (.builtin "object.__setattr__") ⟨[.ref x, .str name tk, v], []⟩) R ⟨hp, g, d, t, os⟩ := by
  have I : W.InstAt hp x { cls := .ref C, data := .fields fv } C none := ⟨hx, rfl, rfl, trivial⟩
  have hxs : x ≠ hp.objs.size := Nat.ne_of_lt (Heap.lt_size hx)
  have SF := F.store_object
  have hob : cd.mro.contains (.type "object") = true := by
    rw [hm, List.contains_cons, List.contains_cons, (by decide +kernel : exTail.contains (.type "object") = true), Bool.or_true, Bool.or_true]
  have hne : cd.mro.isEmpty = false := by rw [hm]; rfl
  have sub : W.Looks (model prog w) hp (isInstance (.ref x) (.type "object")) true := I.type.andThen (W.looks_mroIn X (by unfold W.mroIn; rw [hcd, Option.bind_some, if_neg (by rw [hne]; decide), hob]))
  refine codeAny_call_builtin SF.slot.plain SF.entry (@W.check_slot (model prog w) _ _ ⟨hp, g, d, t, os⟩ "object.__setattr__" "object" "__setattr__" (.ref x) [.str name tk, v] [] _ SF.kind SF.split sub (SF.args (.ref x) (.str name tk) v) ?_)
  have hmr : W.Looks (model prog w) hp (mroOf (.ref C)) cd.mro := (W.looks_clsIn X hcd).andThen .now
  have L3 : W.Looks (model prog w) hp (storeTaker? none) none := .now
  have hpass : refuseLoop (.ref x) "__setattr__" cd.mro = pure () := by
    rw [hm, refuseLoop_ref, refuseLoop_ref]
    exact F.store_Exception.passes _
  have hcls : W.Looks (model prog w) hp (classData C) cd := W.looks_clsIn X hcd
  rw [W.osa_eq, refuse_eq]
  refine wpAny_bind (wpAny_bind (I.type.at (wpAny_bind (hmr.at ?_))))
  rw [hpass]
  refine wpAny_pure (wpAny_bind (I.type.at (wpAny_bind ((W.looks_findIn X ha).at (wpAny_bind (L3.at ?_))))))
  show wpAny _ _ (storeInOwnDict (.ref x) (.ref C) (.str name tk) name v false) _ _ _
  obtain ⟨nm, bs, mro, ns, qn, hd, sn, sb, ab, col, del⟩ := cd
  dsimp only at hh
  subst hh
  unfold storeInOwnDict ownDictForStores
  repeat (first | with_reducible refine HandSPX.store_in_new ?_ ?_ | with_reducible refine wpAny_loadPart_at hx ?_ | with_reducible refine hcls.at ?_ | wp_step)
  · exact ⟨_, #[], _, (Heap.get?_update_ne _ _ _ _ hxs.symm).trans (Heap.get?_push_at rfl rfl), rfl, fun e he => absurd he (by simp), fun _ => rfl⟩
  · intro h' tk' hn' hs
    have hx₁ : (hp.push { cls := .type "dict", data := .dict #[] }).get? x = some { cls := .ref C, data := .fields fv } := Heap.get?_push_of_some _ hx
    refine hq h' tk' hp.objs.size (fun b o hb ho => ?_) (Nat.le_refl _) hxs.symm ?_ hn'
    · exact (hs.2 b (Nat.ne_of_lt (Heap.lt_size ho))).trans ((Heap.get?_update_ne _ _ _ _ hb).trans (Heap.get?_push_of_some _ ho))
    · exact (hs.2 x hxs).trans (Heap.get?_update_self _ hx₁ rfl)
end
/-- the text of __init__ -/
structure InitTxt (arg fld : Str) (params : Arguments) (body : List Stmt) (scope : Scope) : Prop where
  bd : ∃ (text : Str) (j : Nat) (p0 p1 p2 p3 p4 p5 q1 q2 q3 q4 : Pos), body = [.Expr (.Call (.Attribute (.Call (.Name "super" p0) [] [] p1) "__init__" p2) [.Constant (.str text) j p3] [] p4) p5, .Assign [.Attribute (.Name "self" q1) fld q2] (.Name arg q3) q4] ∧ (p2.endLine == p4.line) = true
  hd : ∃ (ar : Arg), (params.posonlyargs ++ params.args).head? = some ar ∧ ar.arg = ("self" : Str)
  ks : scope.names.lookup ("super" : Str) = some .globalImplicit
  kc : scope.names.lookup ("__class__" : Str) = some .free
  ka : scope.names.lookup ("self" : Str) = some .local
  kb : scope.names.lookup arg = some .local
  kind : scope.kind = .function
  co : scope.isCoroutine = false
  gen : scope.isGenerator = false
  nocell : ∀ x ∈ scope.names, x.2 ≠ .cell
  ne : (arg == ("self" : Str)) = false
  dbg : (arg == ("__debug__" : Str)) = false
/-- what the written part says of the class x at C, whose field is fld, and of its __init__ at fI -/
structure ErrTxt (prog : Program) (K : Frag) (mg : Str → Option Value) (x fld : Str) (C fI : Addr) : Prop where
  gC : mg x = some (.ref C)
  gS : mg "super" = none
  cls : ∃ nm q N F0 bs sn sub ab col dd k0 k1 k2 k3 k5, K.lookup C = some (excClassObj nm q C N bs [.ref F0, .type "Exception", .type "BaseException", .type "object"] true sn sub ab col dd k0 k1 k2 k3 k5 "Exception.__new__")
  sa : findIn K (.ref C) "__setattr__" = some (some (.builtin "object.__setattr__"))
  ga : findIn K (.ref C) "__getattribute__" = some (some (.builtin "BaseException.__getattribute__"))
  gg : findIn K (.ref C) "__getattr__" = some none
  noN : findIn K (.ref C) fld = some none
  iC : findIn K (.ref C) "__init__" = some (some (.ref fI))
  tC : typeIn K (.ref fI) = some (.type "function")
  kC : keepIn K (.ref C) = true
  exC : subIn K (.ref C) (.type "BaseException") = some true
  exE : subIn K (.ref C) (.type "Exception") = some true
  tyC : typeIn K (.ref C) = some (.type "type")
  hdC : hasDictIn K C = true
  any : nsIn K cStatics "thirdparty.any" = some none
  sup : ks_superIn K C C "__init__" = some (some (.builtin "Exception.__init__"))
  sub : mroIn K C (.ref C) = some true
  fn : ∃ (oc : Value) (od : Option Addr) (arg qual : Str) (params : Arguments) (body : List Stmt) (scope : Scope) (dV kV doc pm : Value) (an : Option Addr) (cda : Addr) (ct : Value) (osl : Array (Option Value)) (cc : Addr),
    K.lookup fI = some ⟨oc, od, .func (ksFn "__init__" qual params body scope dV kV doc pm an (.ref cda) ct cc), osl⟩ ∧ codeIn K (.ref cda) qual = true ∧ InitTxt arg fld params body scope ∧
    (∀ (s : Shared) (a b : Value), BindsTo s (ksFn "__init__" qual params body scope dV kV doc pm an (.ref cda) ct cc) ⟨[a, b], []⟩ [("self", a), (arg, b)]) ∧
    (∃ cl cld csl, K.lookup cc = some ⟨cl, cld, .cell (some (.ref C)), csl⟩) ∧ ∃ ccl cdd vs ccs file tf, K.lookup cda = some ⟨ccl, cdd, .fields vs, ccs⟩ ∧ vs[2]? = some (.str file tf) ∧ ((prog.main.file : Str) == file) = true
  top : (prog.main.scope.names.lookup ("super" : Str)).isSome = false
theorem call_form {o : Expr} {name : Str} {apos pos : Pos} {text : Str} {j : Nat} {p3 : Pos} {env : Env} (hl : (apos.endLine == pos.line) = true) :
    eval (.Call (.Attribute o name apos) [.Constant (.str text) j p3] [] pos) env = (do
      let ov ← attributeBase o name env (eval o env)
      standAt apos.atName
      let (f, first) ← holding [ov] (getMethod ov name (do return (← importBound o env).getD true))
      callWith pos f first (backTo pos (starEach [.Constant (.str text) j p3] env)) []) := by
  show (do
    let ov ← attributeBase o name env (eval o env)
    standAt apos.atName
    methodCall o name apos pos env ov 1 (backTo pos (starEach [.Constant (.str text) j p3] env)) []) = _
  unfold methodCall
  have e1 : methodCallForm 1 (backTo pos (starEach [.Constant (.str text) j p3] env)) [] = true := rfl
  have e2 : methodCallPos true o env apos pos = pure pos := by
    unfold methodCallPos
    rw [hl]; rfl
  simp only [e1, e2, calleeOf, if_true, pure_bind]
structure InitEnd2 (h h' : Heap) (x C dx t1 : Addr) (fld : Str) (v : Value) : Prop where
  keep : ∀ b o, b ≠ x → h.get? b = some o → h'.get? b = some o
  obj : h'.get? x = some { cls := .ref C, dict := some dx, data := .fields #[.ref t1, .none, .none, .none, .bool false, .none] }
  dbig : h.objs.size ≤ dx
  dne : dx ≠ x
  ns : h'.Ns1 dx (fun y => if y = fld then some v else none)
section
variable {prog : Program} {w : World} {A : Around} {E : Value → Shared → Prop} {R : Result → Shared → Prop} {s : Shared} {K : Frag} {mg : Str → Option Value} {xn fld : Str} {C fI : Addr}
theorem err_init (T : ErrTxt prog K mg xn fld C fI) {x t0 : Addr} {v : Value} (X : K.In s.heap) (G : s.heap.Ns mainGlobals mg) (B : ∃ mb, s.heap.Ns builtinsNs mb ∧ ∀ x : Str, x ≠ "__name__" → mb x = bootBuiltins x) (hlim : s.heap.NoLimit) (hx : s.heap.get? x = some (excO C t0)) (hnx : K.lookup x = none) (hroom : A.depth < recursionLimit)
    (hq : ∀ h' tk dx t1, InitEnd2 s.heap h' x C dx t1 fld v → R (.ok (.ret .none)) { s with heap := h', toks := tk }) :
    codeAny (model prog w) A (.call (.ref fI) ⟨[.ref x, v], []⟩) R s := by
  obtain ⟨oc, od, arg, qual, params, body, scope, dV, kV, doc, pm, an, cda, ct, osl, cc, ho, hcd, IT, hbind, ⟨cl, cld, csl, hcell⟩, ccl, cdd, vs, ccs, file, tf, hcode, hvs, hfile⟩ := T.fn
  obtain ⟨nm, q, N, F0, bs, sn, sub, ab, col, dd, k0, k1, k2, k3, k5, hC⟩ := T.cls
  obtain ⟨text, j, p0, p1, p2, p3, p4, p5, q1, q2, q3, q4, rfl, hline⟩ := IT.bd
  obtain ⟨ar, har, hself⟩ := IT.hd
  obtain ⟨mb, hmb, hmb2⟩ := B
  let cd0 : ClassData := { name := nm, bases := bs, mro := .ref C :: [.ref F0, .type "Exception", .type "BaseException", .type "object"], ns := N, qualname := q, hasDict := true, slotNames := sn, subclasses := sub, abstract := ab, collection := col, hasDel := false }
  have hcl : clsIn K C = some cd0 := by unfold clsIn; rw [hC] <;> rfl
  refine ks_codeAny_call_defAt (fd := ksFn "__init__" qual params _ scope dV kV doc pm an (.ref cda) ct cc) (binds := [("self", .ref x), (arg, v)]) hroom (X _ _ ho) rfl hlim (codeRec_of X hcd) rfl (hbind s _ _) IT.nocell (fun y hy => ?_) (fun h₁ hn k => ?_) IT.co IT.gen IT.kind
  · rcases List.mem_cons.mp hy with rfl | hy
    · exact IT.ka
    · rcases List.mem_cons.mp hy with rfl | hy
      · exact IT.kb
      · cases hy
  have X₁ : K.In h₁ := X.keeps k
  have hx₁ := k _ _ hx
  have hxL : s.heap.objs.size ≠ x := Nat.ne_of_gt (Heap.lt_size hx)
  have ksl : (ksEnv qual scope s.heap.objs.size fI (.ref cda) cc).kindOf "self" = some .local := IT.ka
  have ms : (fun y => List.lookup y [(("self" : Str), Value.ref x), (arg, v)].reverse) ("self" : Str) = some (.ref x) := by
    show List.lookup ("self" : Str) [(arg, v), (("self" : Str), Value.ref x)] = _
    have ne : (("self" : Str) == arg) = false := by
      have := IT.ne
      rw [beq_eq_false_iff_ne] at this ⊢
      exact Ne.symm this
    rw [List.lookup_cons, ne, List.lookup_cons, beq_self_eq_true]
  have ma : (fun y => List.lookup y [(("self" : Str), Value.ref x), (arg, v)].reverse) arg = some v := by
    show List.lookup arg [(arg, v), (("self" : Str), Value.ref x)] = _
    rw [List.lookup_cons, beq_self_eq_true]
  refine ks_wpAt_execs_cons (ks_wpAt_Expr_any (ks_wpAt_MethodCall (pl := do return (← importBound (.Call (.Name "super" p0) [] [] p1) (ksEnv qual scope s.heap.objs.size fI (.ref cda) cc)).getD true) ?_ (call_form hline)) ?_)
  case refine_2 =>
    show (scope.kind == .module && _) = false
    rw [IT.kind]; rfl
  obtain ⟨hh, g, d, t, os⟩ := s
  refine ks_wpAt_super_base (env := ksEnv qual scope hh.objs.size fI (.ref cda) cc) IT.ks IT.kc (by decide) rfl (X₁ _ _ ho) rfl har rfl (X₁ _ _ hcode) rfl hvs hfile T.top ?_
  refine ks_loadName_global IT.kind IT.ks (loadGlobal_builtin (env := ksEnv qual scope hh.objs.size fI (.ref cda) cc) (G.keeps k) T.gS (hmb.keeps k) ((hmb2 _ (by decide)).trans (by rfl)) ⟨rfl, ?_⟩)
  refine wpAny_loadName_free IT.kind IT.kc rfl ⟨_, X₁ _ _ hcell, rfl⟩ ?_
  rw [hself]
  refine wpAny_loadName_local IT.kind IT.ka hn ms ?_
  have hD2 : (excClassObj nm q C N bs [.ref F0, .type "Exception", .type "BaseException", .type "object"] true sn sub ab col dd k0 k1 k2 k3 k5 "Exception.__new__").data = .cls cd0 := rfl
  refine ks_wpAny_isType_cls (X₁ _ _ hC) hD2 ⟨rfl, ?_⟩
  refine ks_wpAny_call_super (X₁ _ _ hC) hD2 hx₁ rfl (fun c e => nomatch e) (looks_mroIn X₁ T.sub) (fun h2 e2 u2 => ?_)
  have X2 : K.In h2 := X₁.keeps u2
  have I2 : InstAt h2 x (excO C t0) C none := ⟨u2 _ _ hx₁, rfl, rfl, trivial⟩
  have hsup : ks_superIn K C C "__init__" = some (some (.builtin "Exception.__init__")) := T.sup
  unfold ks_superIn at hsup
  rw [hcl] at hsup
  refine ESX.getMethod_super e2 (looks_opaque X2 T.any) (l₀ := cd0.mro) (fun A Q E s k q => wpAny_bind ((looks_clsIn X2 hcl) A _ E s k (wpAny_pure q))) rfl X2 hsup (ks_ne X2 I2 hcl) (by decide) (I2.type.andThen (looks_subIn X2 T.exE)) ?_
  -- the bound __init__ is called
  refine callWith_bound (x := x) ?_
  refine Calls.spliced_cons ?_
  refine Calls.Constant_str (k := j) (pos := p3) ?_
  refine Calls.spliced_nil ⟨Heap.get?_push_at rfl rfl, ?_⟩
  have hC2 := X2 _ _ hC
  have hx2 := u2 _ _ hx₁
  refine call_bw (Heap.get?_push_of_some _ hC2) (Heap.get?_push_of_some _ hx2) (Heap.get?_push_at rfl rfl) (by rw [sizeLine_eq]; show 1 ≤ _; omega) fun h3 t1 k3 hx3 => ?_
  -- self.fld = arg
  have k13 : ∀ b o, b ≠ x → h₁.get? b = some o → h3.get? b = some o := fun b o hb e => k3 b o hb (Heap.get?_push_of_some _ (u2 b o e))
  have X3 : K.In h3 := fun a o e => k13 a o (fun z => by rw [z, hnx] at e; cases e) (X₁ a o e)
  obtain ⟨oL, es, ep, hL, rL⟩ := hn
  have hn3 : h3.Ns hh.objs.size (fun y => List.lookup y [(("self" : Str), Value.ref x), (arg, v)].reverse) := ⟨oL, es, ep, k13 _ _ hxL hL, rL⟩
  refine wpAt_of_wpAny (wpAny_execs_cons (plainObj_wpAny_Assign_Attribute ?_))
  refine ldL hn3 ma (ldL hn3 ms ?_ IT.kind IT.ka) IT.kind IT.kb IT.dbg
  refine set_plain X3 (ox := excO C t1) (od := none) ⟨hx3, rfl, rfl, trivial⟩ T.sa ?_
  refine osa_new2 X3 hx3 hcl rfl rfl T.noN (fun h₄ tk₄ dx k₄ dn dne hx₄ hn₄ => ?_)
  show wpAny _ _ (execs _ _) _ _ _
  have z1 : hh.objs.size < h3.objs.size := Heap.lt_size (k13 _ _ hxL hL)
  exact wpAny_execs_nil (hq h₄ tk₄ dx t1 ⟨fun b o hb e => k₄ b o hb (k13 b o hb (k b o e)), hx₄, Nat.le_of_lt (Nat.lt_of_lt_of_le z1 dn), dne, hn₄⟩)
end
end DVE
end PySem

set_option Elab.async false
set_option linter.all false
set_option maxRecDepth 100000
set_option maxHeartbeats 2000000
/-! DV23: raise, try. -/
namespace PySem
namespace DVE
open PySem.W PySem.Calls PyProof.Rows PySem.HandSPX PySem.ESX
structure OwnMade2 (h h' : Heap) (e C d : Addr) (fld : Str) (v : Value) : Prop where
  keep : ∀ b o, h.get? b = some o → h'.get? b = some o
  new : h.objs.size ≤ e
  obj : ∃ oe vs, h'.get? e = some oe ∧ oe.cls = .ref C ∧ oe.dict = some d ∧ oe.data = .fields vs ∧ vs[1]? = some .none
  dbig : h.objs.size ≤ d
  dne : d ≠ e
  ns : h'.Ns1 d (fun y => if y = fld then some v else none)
section
variable {prog : Program} {w : World} {A : Around} {R : Result → Shared → Prop} {s : Shared} {K : Frag} {mg : Str → Option Value} {xn fld : Str} {C fI : Addr}
theorem err_made (T : ErrTxt prog K mg xn fld C fI) {v : Value} (X : K.In s.heap) (G : s.heap.Ns mainGlobals mg) (B : ∃ mb, s.heap.Ns builtinsNs mb ∧ ∀ x : Str, x ≠ "__name__" → mb x = bootBuiltins x) (hlim : s.heap.NoLimit) (hroom : A.depth + 1 < recursionLimit)
    (hq : ∀ h' tk e d, OwnMade2 s.heap h' e C d fld v → R (.ok (.ret (.ref e))) { s with heap := h', toks := tk }) :
    codeAny (model prog w) A (.call (.ref C) ⟨[v], []⟩) R s := by
  obtain ⟨nm, q, N, F0, bs, sn, sub, ab, col, dd, k0, k1, k2, k3, k5, hC⟩ := T.cls
  obtain ⟨hp, g, dr, tk, os⟩ := s
  have k : ∀ b o, hp.get? b = some o → ((hp.push (kdv_tup [v])).push (excO C hp.objs.size)).get? b = some o := fun b o e => Heap.get?_push_of_some _ (Heap.get?_push_of_some _ e)
  have hget : ((hp.push (kdv_tup [v])).push (excO C hp.objs.size)).get? (hp.objs.size + 1) = some (excO C hp.objs.size) := by heap_get
  have hnx : K.lookup (hp.objs.size + 1) = none := by
    cases e : K.lookup (hp.objs.size + 1) with
    | none => rfl
    | some o =>
      have z : hp.get? (hp.objs.size + 1) = some o := X _ _ e
      exact absurd (Nat.lt_of_succ_lt (Heap.lt_size z)) (Nat.lt_irrefl _)
  obtain ⟨mb, hmb, hmb2⟩ := B
  have one : [v].length ≤ sizeLine := by rw [sizeLine_eq]; exact (by decide : 1 ≤ 16777216)
  refine call_own F.excBase_Exception (bm := [.ref F0, .type "Exception", .type "BaseException", .type "object"]) (fun Y => by rw [List.contains_cons]; rfl) (X _ _ hC) (looks_findIn X T.iC) (fun self => bind_fn X self T.tC) one ?_
  refine err_init (s := ⟨(hp.push (kdv_tup [v])).push (excO C hp.objs.size), g, dr, tk, os⟩) T (X.keeps k) (G.keeps k) ⟨mb, hmb.keeps k, hmb2⟩ (hlim.keeps k) hget hnx ?_ fun h' tk' dx t1 ⟨k', hx, dn, dne, hns⟩ => ?_
  · show A.depth + 1 < recursionLimit
    exact hroom
  · have old : ∀ b o, hp.get? b = some o → h'.get? b = some o := fun b o e => k' b o (Nat.ne_of_lt (Nat.lt_succ_of_lt (Heap.lt_size e))) (k b o e)
    have z : hp.objs.size + 1 + 1 ≤ dx := by
      first
        | (simpa only [Heap.size_push] using dn)
        | exact dn
        | (have q := dn; rw [Heap.size_push, Heap.size_push] at q; exact q)
    exact ⟨rfl, hq h' tk' (hp.objs.size + 1) dx ⟨old, Nat.le_succ _, ⟨_, _, hx, rfl, rfl, rfl, rfl⟩, Nat.le_trans (Nat.le_trans (Nat.le_succ _) (Nat.le_succ _)) z, dne, hns⟩⟩
end
end DVE
end PySem
namespace DV
open PySem L2 PySem.Spec PyProof.Rows
theorem relO_fld {v : V} {v' : Value} (r : RelV v v') (fld f : Str) : RelO (List.lookup f [(fld, v)]) (if f = fld then some v' else none) := by
  by_cases hw : f = fld
  · subst hw
    rw [if_pos rfl, List.lookup_cons, beq_self_eq_true]
    exact r
  · rw [if_neg hw]
    have qw : (f == fld) = false := by simpa using hw
    rw [List.lookup_cons, qw]
    exact trivial
section
variable {X : Cx} {C fI : Addr} {xn fld : Str}
def tMkE (fld : Str) (C : Addr) (ta : TA) : L2.St → Hp → XK → Prop := fun σ H Q => ta σ H fun vs H1 => ∃ v, vs = [v] ∧ ∀ d, H1 d = none → Q (.ref C) (some d) (upd H1 d (.xd [(fld, v)]))
theorem pmk_err {a : Expr} {ta : TA} {p pos : Pos} {k : Nat} (T : PySem.DVE.ErrTxt X.prog X.K X.mg xn fld C fI) (hr : Room k X.A) (ha : PA X [a] ta) (hg : Gl X xn) (hdb : (xn == ("__debug__" : Str)) = false := by decide)
    (he : starEach (a :: []) X.env = (false, eval a X.env) :: starEach [] X.env := by rfl) (hpl : (backTo pos (starEach [] X.env)).any (·.1) = false := by rfl) :
    PMk X (.Call (.Name xn p) [a] [] pos) (tMkE fld C ta) := by
  intro pins s σ H Q I h
  refine wpAny_Call_Name_kw (ld_glob I hg T.gC ?_ hdb)
  refine PySem.W.callWith_K (h₀ := X.base) I.ok.mod.kin T.kC (thn (ha.run pos pins s σ H _ I h) fun us s1 hh => ?_) he hpl
  obtain ⟨vs, H1, I1, r1, v, ev, q1⟩ := hh
  subst ev
  refine ⟨I1.kIn, ?_⟩
  cases r1 with
  | cons rv rn =>
    rename_i v' us'
    cases rn
    show wpAny _ _ (call (.ref C) [v']) _ _ _
    have hlim := I1.nolimit
    have hglob : s1.heap.Ns mainGlobals X.mg := I1.mod.glob.keeps I1.bk
    obtain ⟨mb, hb1, hb2⟩ := I1.mod.blt
    have hblt := hb1.keeps I1.bk
    obtain ⟨hp, g, dr, tk, os⟩ := s1
    refine wpAny_call (PySem.DVE.err_made T I1.kIn hglob ⟨mb, hblt, hb2⟩ hlim (by have := hr.dp; omega) fun h' tk' e d M => ?_)
    show MkP X pins σ Q (.ref e) ⟨h', g, dr, tk', os⟩
    obtain ⟨oe, fv, hoe, hc, hd, hdat, h1⟩ := M.obj
    have hns := M.ns
    obtain ⟨G', g1, g2⟩ := restrict h' fun b => decide (b ≠ e)
    have gk : ∀ b, b ≠ e → G'.get? b = h'.get? b := fun b hb => g1 b (decide_eq_true hb)
    have ge : G'.get? e = none := g2 e (by simp)
    have old : ∀ b o, hp.get? b = some o → G'.get? b = some o := fun b o q => (gk b (Nat.ne_of_lt (Nat.lt_of_lt_of_le (Heap.lt_size q) M.new))).trans (M.keep b o q)
    have ob : ObjOk X.prog X.w (upd H1 d (.xd [(fld, v)])) G' d (.xd [(fld, v)]) :=
      ⟨_, hns.at (fun o q => (gk d M.dne).trans q), fun f => relO_fld rv fld f⟩
    have J : Inv X pins σ (upd H1 d (.xd [(fld, v)])) ⟨G', g, dr, tk', os⟩ := I1.laid (t' := tk') old M.dbig ob
    refine ⟨e, oe, fv, ⟨G', g, dr, tk', os⟩, _, .ref C, some d, rfl, J, fun b o q => ?_, ge, hoe, ⟨hc, hd⟩, hdat, h1, ?_, rfl, I1.bare, raises_own T.exC T.tyC, q1 d (I1.hok.fresh M.dbig)⟩
    · by_cases hb : b = e
      · have q' : G'.get? b = some o := q
        rw [hb, ge] at q'; cases q'
      · exact (gk b hb).symm.trans q
    · rw [upd_ne (Ne.symm M.dne)]
      exact I1.hok.fresh M.new
/-- raise C(e) -/
theorem s_rais {G : List Info} {W : WX} {io k : Nat} {c : Ce} {a : Expr} {p pos pos2 : Pos} (hc : X.calm = true) (T : PySem.DVE.ErrTxt X.prog X.K X.mg xn fld C fI) (hr : Room k X.A) (tk : Takes X W) (ha : PA X [a] (TAc X G W (.cons c .nil))) (hg : Gl X xn) (hdb : (xn == ("__debug__" : Str)) = false := by decide)
    (he : starEach (a :: []) X.env = (false, eval a X.env) :: starEach [] X.env := by rfl) (hpl : (backTo pos (starEach [] X.env)).any (·.1) = false := by rfl) :
    PS X (.Raise (some (.Call (.Name xn p) [a] [] pos)) none pos2) (TSc X G W io (.rais xn fld c)) :=
  (ps_raise hc tk (pmk_err T hr ha hg hdb he hpl)).imp fun D σ H ⟨fr, fps, s, rel, h⟩ => by
    have h' : EndS X.K X.mg W io fr fps 0 σ H ((evs G (.cons c .nil) s).bind fun vs s1 => match vs with
      | [v] => if scalD v.2 = true then .exc ⟨xn, fld, v.2⟩ s1 else .no
      | _ => .no) D := by
      rw [evs_one, Rs.bind_assoc]
      exact h
    refine tS_step (R1 := rMs X.K) (f0 := 0) rel h' fun x s1 us H1 fps1 f1 e1 st1 rel1 r1 h1 => ?_
    split at h1
    · rename_i x
      obtain ⟨u, eu, ru⟩ := (one_rep (m := x.1) (d := x.2) r1)
      split at h1
      · rename_i hs
        refine ⟨u, eu, fun d hd => ?_⟩
        have h2 : ∀ σ' H' fps' dx C w, Stp false fr fps1 (0 + f1) H1 H' fps' 0 → Slots X.K (cn fr fps') σ' H' s1 fps' → Kio io σ σ' → X.mg xn = some (.ref C) → Rep X.K 0 H' x.2 w → scalD x.2 = true → H' dx = some (.xd [(fld, w)]) → W (.ref C) (some dx) σ' H' := h1
        have g := Grw.upd (o := .xd [(fld, u)]) hd
        have rel2 := rel1.grw g
        refine h2 σ _ fps1 d C u ⟨fun a => ?_, fun a z => rel2.lv a ?_, fun a z => .inl ?_, fun a o e _ => g a o e⟩ (Rel.sl0 rel2) Kio.refl T.gC (Rep.mono ⟨fun a o e _ => g a o e, fun _ _ _ z => z⟩ _ _ (RepM.b ru)) hs upd_same
        · have := rel2.le a
          rw [Fp.add_at] at this
          show fr a + 0 + _ ≤ 1
          omega
        · have z' : 0 < fr a + 0 + tot fps1 a := z
          rw [Fp.add_at]; omega
        · have z' : 0 < 0 + tot fps1 a := z
          omega
      · exact h1.elim
    · exact h1.elim

/-! ### several clauses, with names or without -/
def offD (i : Option Nat) (D : Ends) : Ends := match i with
  | none => D
  | some i => { nx := fun σ' H' => D.nx (σ'.set i none) H', rt := D.rt, bk := fun σ' H' => D.bk (σ'.set i none) H', ct := fun σ' H' => D.ct (σ'.set i none) H' }
def onS (i : Option Nat) (a : Addr) (σ : L2.St) : L2.St := match i with
  | none => σ
  | some i => σ.set i (some (.ref a))
def wManyA (K : PySem.W.Frag) (Wout : WX) (D : Ends) : List (Value × Option Nat × (Addr → Value → Option Addr → TS)) → WX
  | [] => Wout
  | (c, i, ts) :: r => fun cls d σ H => ∃ b, PySem.W.exmOne K cls c = some b ∧ (b = true → ∀ a, H a = none → ts a cls d (offD i D) (onS i a σ) H) ∧ (b = false → wManyA K Wout D r cls d σ H)
inductive HdsA (X : Cx) : List ExceptHandler → List (Value × Option Nat × (Addr → Value → Option Addr → TS)) → Prop
  | nil : HdsA X [] []
  | cons {x : Str} {c : Value} {ts : Addr → Value → Option Addr → TS} {b₀ : Stmt} {suite : List Stmt} {np pos' : Pos} {hds : List ExceptHandler} {l : List (Value × Option Nat × (Addr → Value → Option Addr → TS))} (hc : Names X x c)
      (hsu : ∀ (a : Addr) (oe : Obj) (cls : Value) (d : Option Addr) (pn : List (Addr × Obj)), Zc cls d oe → (∃ vs, oe.data = .fields vs) → PSs (X.suite a ((a, oe) :: pn)) (b₀ :: suite) (ts a cls d)) (r : HdsA X hds l) :
      HdsA X (.ExceptHandler (some (.Name x np)) none (b₀ :: suite) pos' :: hds) ((c, none, ts) :: l)
  | consA {x n : Str} {i : Nat} {c : Value} {ts : Addr → Value → Option Addr → TS} {b₀ : Stmt} {suite : List Stmt} {np pos' : Pos} {hds : List ExceptHandler} {l : List (Value × Option Nat × (Addr → Value → Option Addr → TS))} (hc : Names X x c) (hi : X.N[i]? = some n) (hln : X.env.kindOf n = some .local)
      (hsu : ∀ (a : Addr) (oe : Obj) (cls : Value) (d : Option Addr) (pn : List (Addr × Obj)), Zc cls d oe → (∃ vs, oe.data = .fields vs) → PSs (X.suite a ((a, oe) :: pn)) (b₀ :: suite) (ts a cls d)) (r : HdsA X hds l) :
      HdsA X (.ExceptHandler (some (.Name x np)) (some n) (b₀ :: suite) pos' :: hds) ((c, some i, ts) :: l)
variable {body : List Stmt} {h₀ : ExceptHandler} {hds : List ExceptHandler} {l : List (Value × Option Nat × (Addr → Value → Option Addr → TS))} {pos : Pos} {tb : WX → TS} {Wout : WX}
theorem ps_try_manyA (hs : X.stack = X.env :: X.outer) (hf : X.env.frame = some X.env.locals) (hN : X.N.Nodup) (tk : Takes X Wout)
    (hb : ∀ (W : WX) (pn : List (Addr × Obj)) (xe : Value → Shared → Prop), Takes (X.tr pn xe) W → PassesOwn (model X.prog X.w) X.A X.env xe → PSs (X.tr pn xe) body (tb W))
    (hh : HdsA X (h₀ :: hds) l) : PS X (.Try body (h₀ :: hds) [] [] pos) (fun D σ H => tb (wManyA X.K Wout D l) D σ H) := by
  refine ⟨fun pins s σ H D I h => ?_⟩
  have ok := I.ok
  have hfr : X.A.frames = some (X.env :: X.outer) := by rw [ok.frames, hs]
  refine wpAny_Try_except ?_
  refine wpAny_mono ((hb (wManyA X.K Wout D l) (X.pn ++ pins) (fun e s₁ => wpAny (model X.prog X.w) X.A (noteFrame e X.env) (fun _ s₂ => wpAny (model X.prog X.w) X.A (setFlight e none) (fun _ s₃ =>
    wpAny (model X.prog X.w) X.A (handleBy e X.env (h₀ :: hds)) (SP X pins D) X.xe s₃) X.xe s₂) X.xe s₁) (fun u s' xx => ?_) PassesOwn.looking).run [] s σ H D (I.toTry _) h) (fun f s1 hsp => ?_) (fun e s1 he => he)
  · -- the catch
    obtain ⟨a, B, sI, pins', σ', H', cls, d, rfl, J', nb, up, sky, na, os, ag, w⟩ := xx
    have J : Inv X pins σ' H' sI := J'.ofTry ok
    have sky' : Sky B (X.env :: X.outer) a (Zc cls d) X.env.locals s'.heap := by rw [← hs]; exact sky
    show wpAny (model X.prog X.w) X.A (noteFrame (.ref a) X.env) _ _ _
    refine Sky.land Zc.steady hfr hf sky' fun h3 fl3 up3 => ?_
    have J3 : Inv X pins σ' H' { s' with heap := h3 } := J.landed nb fl3.1 (up.trans up3) os ag
    obtain ⟨oe3, vs3, he3, hz3, hd3⟩ := fl3.there
    have notFr : ∀ {h : Heap} {o : Obj} {vs : Array Value}, h.FunFrames B (X.env :: X.outer) → h.get? a = some o → o.data = .fields vs → a ∉ frs (X.env :: X.outer) := fun {h o vs} ff e dd hm => by
      obtain ⟨_, o', e', hnf⟩ := ff.mem hm
      rw [e] at e'; cases e'
      exact hnf _ dd
    have nfr := notFr fl3.2.2.1 he3 hd3
    have nL : a ≠ X.env.locals := fun z => nfr (List.mem_filterMap.mpr ⟨X.env, List.mem_cons_self, by rw [hf, z]⟩)
    have nF : a ∉ X.fs := fun hm => by
      obtain ⟨e, he, q⟩ := List.mem_filterMap.mp hm
      exact nfr (List.mem_filterMap.mpr ⟨e, List.mem_cons_of_mem _ he, q⟩)
    have S3 := J3.suite he3 hd3 na nL nF
    have go : ∀ {hds' : List ExceptHandler} {l' : List (Value × Option Nat × (Addr → Value → Option Addr → TS))}, HdsA X hds' l' → wManyA X.K Wout D l' cls d σ' H' →
        wpAny (model X.prog X.w) X.A (handleBy (.ref a) X.env hds') (SP X pins D) X.xe { s' with heap := h3 } := by
      intro hds' l' hk
      induction hk with
      | nil =>
        intro w
        refine wpAny_handleBy_nil ?_
        obtain ⟨k1, k2, k3, oe, vs, T, oT, ts', he, hz, hd, h1, hr⟩ := id fl3
        unfold PySem.passOn
        refine wpAny_bind (wpAny_field he hd h1 ?_)
        rw [if_neg (show ¬ ((Value.ref T == Value.none) = true) from by simp)]
        have fin : wpAny (model X.prog X.w) X.A (setFlight (.ref a) X.env.frame) (fun _ s4 => wpAny (model X.prog X.w) X.A (throw (.ref a) : Sem Flow) (SP X pins D) X.xe s4) X.xe { s' with heap := h3 } := by
          rw [hf]
          refine HandSPX.setFlight_upZ fl3 fun h4 hh4 up4 => wpAny_throw (tk _ _ ?_)
          exact ⟨a, B, sI, pins, σ', H', cls, d, rfl, J, nb, (up.trans up3).trans up4, .inr (.inr (by rw [hs]; exact hh4)), na, os, ag, w⟩
        first
          | exact wpAny_bind (wpAny_pure (wpAny_bind fin))
          | exact wpAny_bind fin
      | @cons x c ts b₀ suite np pos' hds2 l2 hc hsu r ih =>
        intro w
        obtain ⟨b, hb1, hyes, hno⟩ := w
        refine wpAny_handleBy_cons (codeAny_handlers_test ?_) (by intro q; cases q)
        have LT : PySem.W.Looks (model X.prog X.w) h3 (typeOf (.ref a)) cls := fun A Q E s k q => wpAny_typeOf_ref (k _ _ he3) (by rw [hz3.1]; exact q)
        have LM := PySem.W.exm_one (M := model X.prog X.w) (J3.kIn) LT hb1
        have test : ∀ {Q : Value → Shared → Prop} {E : Value → Shared → Prop}, Q c { s' with heap := h3 } → wpAny (model X.prog X.w) (X.A.mark (some (.ref a))) (eval (.Name x np) X.env) Q E { s' with heap := h3 } := fun {Q E} q => by
          obtain ⟨hg, hdbg, hm | ⟨hm, hv, hnn⟩⟩ := hc
          · exact ld_glob (X := X.suite a ((a, oe3) :: (X.pn ++ pins))) S3 hg hm q hdbg
          · exact ld_blt (X := X.suite a ((a, oe3) :: (X.pn ++ pins))) S3 hg hm hv q hnn hdbg
        refine test (LM.here ?_)
        cases b with
        | true =>
          refine codeAny_handlers_suite ?_
          refine HandSPX.lands_againZ fl3 fun h4 fl4 up4 => ?_
          have J4 : Inv X pins σ' H' { s' with heap := h4 } := J.landed nb fl4.1 ((up.trans up3).trans up4) os ag
          obtain ⟨oe4, vs4, he4, hz4, hd4⟩ := fl4.there
          have S4 := J4.suite he4 hd4 na nL nF
          refine wpAny_mono ((hsu a oe4 cls d (X.pn ++ pins) hz4 ⟨_, hd4⟩).run [] _ _ H' _ S4 (hyes rfl a na)) (fun f s6 hsp => ?_) (fun _ _ z => False.elim z)
          cases f with
          | next =>
            obtain ⟨σ6, H6, S6, q6⟩ := hsp
            exact ⟨_, _, S6.unsuite ok, q6⟩
          | brk =>
            obtain ⟨σ6, H6, S6, q6⟩ := hsp
            exact ⟨_, _, S6.unsuite ok, q6⟩
          | cont =>
            obtain ⟨σ6, H6, S6, q6⟩ := hsp
            exact ⟨_, _, S6.unsuite ok, q6⟩
          | ret u =>
            obtain ⟨v6, σ6, H6, S6, r6, q6⟩ := hsp
            exact ⟨_, _, _, S6.unsuite ok, r6, q6⟩
        | false =>
          show wpAny _ X.A (handleBy (.ref a) X.env hds2) _ _ _
          exact ih (hno rfl)
      | @consA x n i c ts b₀ suite np pos' hds2 l2 hc hi hln hsu r ih =>
        intro w
        obtain ⟨b, hb1, hyes, hno⟩ := w
        have hloc : Loc X.env.scope n := .inl hln
        refine wpAny_handleBy_cons (codeAny_handlers_test ?_) (by intro q; cases q)
        have LT : PySem.W.Looks (model X.prog X.w) h3 (typeOf (.ref a)) cls := fun A Q E s k q => wpAny_typeOf_ref (k _ _ he3) (by rw [hz3.1]; exact q)
        have LM := PySem.W.exm_one (M := model X.prog X.w) (J3.kIn) LT hb1
        have test : ∀ {Q : Value → Shared → Prop} {E : Value → Shared → Prop}, Q c { s' with heap := h3 } → wpAny (model X.prog X.w) (X.A.mark (some (.ref a))) (eval (.Name x np) X.env) Q E { s' with heap := h3 } := fun {Q E} q => by
          obtain ⟨hg, hdbg, hm | ⟨hm, hv, hnn⟩⟩ := hc
          · exact ld_glob (X := X.suite a ((a, oe3) :: (X.pn ++ pins))) S3 hg hm q hdbg
          · exact ld_blt (X := X.suite a ((a, oe3) :: (X.pn ++ pins))) S3 hg hm hv q hnn hdbg
        refine test (LM.here ?_)
        cases b with
        | true =>
          refine codeAny_handlers_suite_as ?_
          refine HandSPX.lands_againZ fl3 fun h4 fl4 up4 => ?_
          have J4 : Inv X pins σ' H' { s' with heap := h4 } := J.landed nb fl4.1 ((up.trans up3).trans up4) os ag
          obtain ⟨oe4, vs4, he4, hz4, hd4⟩ := fl4.there
          have S4 := J4.suite he4 hd4 na nL nF
          refine store_ok (X := X.suite a ((a, oe4) :: (X.pn ++ pins))) (v := .ref a) S4 hN hi hloc rfl (fun s5 S5 => ?_) (.inr hln)
          refine wpAny_mono ((hsu a oe4 cls d (X.pn ++ pins) hz4 ⟨_, hd4⟩).run [] s5 _ H' _ S5 (hyes rfl a na)) (fun f s6 hsp => ?_) (fun _ _ z => False.elim z)
          have end_ : ∀ {σ6 : L2.St} {H6 : Hp} {Q : Shared → Prop}, Inv (X.suite a ((a, oe4) :: (X.pn ++ pins))) [] σ6 H6 s6 → (∀ s7, Inv X pins (σ6.set i none) H6 s7 → Q s7) →
              wpAny (model X.prog X.w) X.A (do bindName X.env n .none; unbindBehindTheSuite X.env n pos') (fun _ s7 => Q s7) X.xe s6 := fun {σ6 H6 Q} S6 hq => gone_ok (S6.unsuite ok) hN hi hln hq
          cases f with
          | next =>
            obtain ⟨σ6, H6, S6, q6⟩ := hsp
            exact end_ S6 fun s7 J7 => ⟨_, _, J7, q6⟩
          | brk =>
            obtain ⟨σ6, H6, S6, q6⟩ := hsp
            exact end_ S6 fun s7 J7 => ⟨_, _, J7, q6⟩
          | cont =>
            obtain ⟨σ6, H6, S6, q6⟩ := hsp
            exact end_ S6 fun s7 J7 => ⟨_, _, J7, q6⟩
          | ret u =>
            obtain ⟨v6, σ6, H6, S6, r6, q6⟩ := hsp
            exact end_ S6 fun s7 J7 => ⟨_, _, _, J7, r6, q6⟩
        | false =>
          show wpAny _ X.A (handleBy (.ref a) X.env hds2) _ _ _
          exact ih (hno rfl)
    exact go hh w
  · cases f with
    | next =>
      obtain ⟨σ', H', J', q⟩ := hsp
      exact wpAny_execs_nil ⟨σ', H', J'.ofTry ok, q⟩
    | brk =>
      obtain ⟨σ', H', J', q⟩ := hsp
      exact ⟨σ', H', J'.ofTry ok, q⟩
    | cont =>
      obtain ⟨σ', H', J', q⟩ := hsp
      exact ⟨σ', H', J'.ofTry ok, q⟩
    | ret u =>
      obtain ⟨v, σ', H', J', r, q⟩ := hsp
      exact ⟨v, σ', H', J'.ofTry ok, r, q⟩
end
end DV

set_option Elab.async false
set_option linter.all false
set_option maxRecDepth 100000
set_option maxHeartbeats 2000000
/-! DV24: try. -/
namespace DV
open PySem L2 PySem.Spec PyProof.Rows

def cV : PyData → V
  | .bool b => .bl b
  | .int i => .int i
  | .str x => .str x
  | _ => .non
theorem cV_rep {K : PySem.W.Frag} {c : Fp} {H : Hp} {d : PyData} (h : scalD d = true) : Rep K c H d (cV d) := by
  cases d with
  | none => rfl
  | bool _ => rfl
  | int _ => rfl
  | str _ => rfl
  | list _ => cases h
  | tuple _ => cases h
  | dict _ => cases h
theorem scal_rep {K : PySem.W.Frag} {c c' : Fp} {H H' : Hp} {d : PyData} {v : V} (h : scalD d = true) (r : Rep K c H d v) : Rep K c' H' d v := by
  cases d with
  | none => exact r
  | bool _ => exact r
  | int _ => exact r
  | str _ => exact r
  | list _ => cases h
  | tuple _ => cases h
  | dict _ => cases h
/-- e.fld, e the error that the suite holds -/
def tFld (X : Cx) (fld : Str) (a : Addr) (cls : Value) (d : Option Addr) (te : TE) : TE := fun σ H Q => te σ H fun x H1 => x = .ref a ∧ ∃ (xn : Str) (C fI : Addr), cls = .ref C ∧ PySem.DVE.ErrTxt X.prog X.K X.mg xn fld C fI ∧ ∃ (dd : Addr) (v : V), d = some dd ∧ H1 dd = some (.xd [(fld, v)]) ∧ Q v H1
def tParts (X : Cx) (n : Nat) (fld : Str) (a : Addr) (cls : Value) (d : Option Addr) : List (Option PyData) → TA
  | [] => tNil
  | some v :: r => tCons (tC (cV v)) (tParts X n fld a cls d r)
  | none :: r => tCons (tFld X fld a cls d (tVar n)) (tParts X n fld a cls d r)
def tHd (X : Cx) (h : Hd) (a : Addr) (cls : Value) (d : Option Addr) : TS := match h.k with
  | .retc v => tRet (tC (cV v))
  | .ret => tRet (tTup (tParts X (h.nm.getD 0) h.fld a cls d h.parts))
  | .asg i => tAsg (tTup (tParts X (h.nm.getD 0) h.fld a cls d h.parts)) (gName i)
section
variable {X : Cx} {fld : Str}
theorem pe_fldE {a : Addr} {oe : Obj} {cls : Value} {d : Option Addr} {pn : List (Addr × Obj)} {e : Expr} {te : TE} {pos : Pos} (hz : Zc cls d oe) (hf : ∃ vs, oe.data = .fields vs) (he : PE (X.suite a ((a, oe) :: pn)) e te)
    (hb : attributeBase e fld X.env (eval e X.env) = eval e X.env := by rfl) :
    PE (X.suite a ((a, oe) :: pn)) (.Attribute e fld pos) (tFld X fld a cls d te) := by
  refine ⟨fun pins s σ H Q I h => ?_⟩
  refine attr_of hb (thn (he.run pins s σ H _ I h) fun u s1 hh => ?_)
  obtain ⟨x, H1, I1, rx, ex, xn, C, fI, ec, T, dd, v, ed, ea, q⟩ := hh
  subst ex
  obtain rfl : u = Value.ref a := rx
  subst ec
  subst ed
  obtain ⟨ha, _⟩ := I1.pin (a, oe) (List.mem_append_left _ List.mem_cons_self)
  obtain ⟨vs, hd⟩ := hf
  have hx : ObjOk X.prog X.w H1 s1.heap dd (.xd [(fld, v)]) := I1.hok dd _ ea
  obtain ⟨mA, hns, hr⟩ := hx
  obtain ⟨od, ho, hl⟩ := lookIn_ns hns
  have l : List.lookup fld [(fld, v)] = some v := by simp [List.lookup]
  obtain ⟨u, hu, ru⟩ := RelO.some_of (v := v) (o := mA fld) (by rw [← l]; exact hr fld)
  have J : PySem.W.InstAt s1.heap a oe C (some od) := ⟨ha, hz.1, by unfold PySem.W.notCls; rw [hd] <;> rfl, by rw [hz.2]; exact ho⟩
  exact PySem.HandSPX.exc_get I1.kIn J T.ga T.gg T.exC (PySem.W.findObj_own T.hdC T.noN rfl (by rw [hl, hu])) (handed_of ru) ⟨v, H1, I1.tok _, ru, q⟩
/-- the suites of clauses -/
def SuiteOk (X : Cx) (h : Hd) (ss : List Stmt) : Prop := ∀ (a : Addr) (oe : Obj) (cls : Value) (d : Option Addr) (pn : List (Addr × Obj)), Zc cls d oe → (∃ vs, oe.data = .fields vs) → PSs (X.suite a ((a, oe) :: pn)) ss (tHd X h a cls d)
/-- what a clause's parts are -/
def PartsOk (X : Cx) (n : Nat) (fld : Str) (ps : List (Option PyData)) (es : List Expr) : Prop := ∀ (a : Addr) (oe : Obj) (cls : Value) (d : Option Addr) (pn : List (Addr × Obj)), Zc cls d oe → (∃ vs, oe.data = .fields vs) → PA (X.suite a ((a, oe) :: pn)) es (tParts X n fld a cls d ps)
theorem hp_nil {n : Nat} : PartsOk X n fld [] [] := fun _ _ _ _ _ _ _ => pa_nil
theorem hp_str {n : Nat} {x : Str} {j : Nat} {p : Pos} {ps : List (Option PyData)} {es : List Expr} (h : PartsOk X n fld ps es) : PartsOk X n fld (some (.str x) :: ps) (.Constant (.str x) j p :: es) := fun a oe cls d pn hz hf => pa_cons pe_str (h a oe cls d pn hz hf)
theorem hp_int {n : Nat} {x : Int} {j : Nat} {p : Pos} {ps : List (Option PyData)} {es : List Expr} (h : PartsOk X n fld ps es) : PartsOk X n fld (some (.int x) :: ps) (.Constant (.int x) j p :: es) := fun a oe cls d pn hz hf => pa_cons pe_int (h a oe cls d pn hz hf)
theorem hp_fld {n : Nat} {e : Str} {p q : Pos} {ps : List (Option PyData)} {es : List Expr} (hN : X.N[n]? = some e) (hv : Vis X.env.scope e) (h : PartsOk X n fld ps es) (hd : (e == ("__debug__" : Str)) = false := by decide) (hcd : (e == ("__classdict__" : Str)) = false := by decide)
    (hb : attributeBase (.Name e p) fld X.env (eval (.Name e p) X.env) = eval (.Name e p) X.env := by rfl) (hs : starEach (.Attribute (.Name e p) fld q :: es) X.env = (false, eval (.Attribute (.Name e p) fld q) X.env) :: starEach es X.env := by rfl) : PartsOk X n fld (none :: ps) (.Attribute (.Name e p) fld q :: es) :=
  fun a oe cls d pn hz hf => pa_cons (X := X.suite a ((a, oe) :: pn)) (pe_fldE hz hf (pe_var (X := X.suite a ((a, oe) :: pn)) hN hv hd hcd) hb) (h a oe cls d pn hz hf) hs
theorem hs_ret {h : Hd} {es : List Expr} {x1} {p pos : Pos} (hk : h.k = .ret) (hp : PartsOk X (h.nm.getD 0) h.fld h.parts es) : SuiteOk X h [.Return (some (.Tuple es x1 p)) pos] := fun a oe cls d pn hz hf => by
  unfold tHd
  rw [hk]
  exact pss_one (ps_ret (pe_tup (hp a oe cls d pn hz hf)))
theorem hs_asg {h : Hd} {es : List Expr} {x1} {p q pos : Pos} {i : Nat} {x : Str} (hk : h.k = .asg i) (hN : X.N.Nodup) (hi : X.N[i]? = some x) (hx : Loc X.env.scope x) (hp : PartsOk X (h.nm.getD 0) h.fld h.parts es)
    (hs : swapsWith (.Tuple es x1 p) (some (.Name x q)) pos.line X.env = pure false := by rfl) (hf : X.fn x = true ∨ X.env.scope.names.lookup x = some .local := by first | exact .inl rfl | exact .inr rfl | assumption) : SuiteOk X h [.Assign [.Name x q] (.Tuple es x1 p) pos] := fun a oe cls d pn hz hf' => by
  unfold tHd
  rw [hk]
  exact pss_one (ps_set (X := X.suite a ((a, oe) :: pn)) hN hi hx (pe_tup (hp a oe cls d pn hz hf')) hs hf)
theorem hs_retb {h : Hd} {b : Bool} {j : Nat} {p pos : Pos} (hk : h.k = .retc (.bool b)) : SuiteOk X h [.Return (some (.Constant (.bool b) j p)) pos] := fun a oe cls d pn hz hf => by
  unfold tHd
  rw [hk]
  exact pss_one (ps_ret pe_bl)
theorem hs_retn {h : Hd} {j : Nat} {p pos : Pos} (hk : h.k = .retc .none) : SuiteOk X h [.Return (some (.Constant .none j p)) pos] := fun a oe cls d pn hz hf => by
  unfold tHd
  rw [hk]
  exact pss_one (ps_ret pe_non)
/-- what is told of a clause -/
structure HdOk (X : Cx) (io : Nat) (h : Hd) (c : Value) (ss : List Stmt) : Prop where
  su : SuiteOk X h ss
  exm : ∀ cn ∈ h.knw, ∀ C, X.mg cn = some (.ref C) → PySem.W.exmOne X.K (.ref C) c = some (h.clss.contains cn)
  err : h.parts.any (·.isNone) = true → h.nm ≠ none ∧ ∀ cn ∈ h.clss, ∀ C, X.mg cn = some (.ref C) → ∃ fI, PySem.DVE.ErrTxt X.prog X.K X.mg cn h.fld C fI
  sc : h.parts.all (fun p => scalD (p.getD .none)) = true ∧ (match h.k with | .retc d => scalD d | _ => true) = true ∧ h.parts.length ≤ 10
  io1 : ∀ n, h.nm = some n → io ≤ n
  io2 : ∀ i, h.k = .asg i → io ≤ i ∧ h.nm ≠ some i
inductive HdsG (X : Cx) (io : Nat) : List ExceptHandler → List Hd → Prop
  | nil : HdsG X io [] []
  | cons {x : Str} {c : Value} {h : Hd} {b₀ : Stmt} {suite : List Stmt} {np pos' : Pos} {hds : List ExceptHandler} {hs : List Hd} (hc : Names X x c) (hn : h.nm = none) (ok : HdOk X io h c (b₀ :: suite)) (r : HdsG X io hds hs) : HdsG X io (.ExceptHandler (some (.Name x np)) none (b₀ :: suite) pos' :: hds) (h :: hs)
  | consA {x n : Str} {i : Nat} {c : Value} {h : Hd} {b₀ : Stmt} {suite : List Stmt} {np pos' : Pos} {hds : List ExceptHandler} {hs : List Hd} (hc : Names X x c) (hn : h.nm = some i) (hi : X.N[i]? = some n) (hln : X.env.kindOf n = some .local) (ok : HdOk X io h c (b₀ :: suite)) (r : HdsG X io hds hs) :
      HdsG X io (.ExceptHandler (some (.Name x np)) (some n) (b₀ :: suite) pos' :: hds) (h :: hs)
theorem parts_in {n : Nat} {a : Addr} {C dx : Addr} {x : Xn} {w : V} {σ : L2.St} {H : Hp} (hn : σ[n]? = some (some (.ref a))) (hx : H dx = some (.xd [(fld, w)])) : ∀ (ps : List (Option PyData)) (Q : List V → Hp → Prop), (ps.any (·.isNone) = true → ∃ xn fI, PySem.DVE.ErrTxt X.prog X.K X.mg xn fld C fI) → Q (ps.map fun p => match p with | some v => cV v | none => w) H →
    tParts X n fld a (.ref C) (some dx) ps σ H Q
  | [], Q, _, q => q
  | some v :: r, Q, he, q => parts_in (x := x) hn hx r _ (fun z => he (by rw [List.any_cons, z, Bool.or_true])) q
  | none :: r, Q, he, q => by
    obtain ⟨xn, fI, T⟩ := he (by rw [List.any_cons]; rfl)
    exact ⟨_, hn, rfl, xn, C, fI, rfl, T, dx, w, rfl, hx, parts_in (x := x) hn hx r _ (fun z => he (by rw [List.any_cons, z, Bool.or_true])) q⟩
theorem parts_in0 {n : Nat} {a : Addr} {cls : Value} {d : Option Addr} {σ : L2.St} {H : Hp} {w : V} : ∀ (ps : List (Option PyData)) (Q : List V → Hp → Prop), ps.any (·.isNone) = false → Q (ps.map fun p => match p with | some v => cV v | none => w) H →
    tParts X n fld a cls d ps σ H Q
  | [], Q, _, q => q
  | some v :: r, Q, he, q => parts_in0 r _ (by rw [List.any_cons] at he; exact (Bool.or_eq_false_iff.mp he).2) q
  | none :: r, Q, he, q => by rw [List.any_cons] at he; cases he
theorem parts_rep {K : PySem.W.Frag} {c : Fp} {H : Hp} {d : PyData} {w : V} (hd : scalD d = true) (r : Rep K c H d w) : ∀ {ps : List (Option PyData)}, ps.all (fun p => scalD (p.getD .none)) = true → Reps K c H (ps.map fun p => p.getD d) (ps.map fun p => match p with | some v => cV v | none => w)
  | [], _ => rfl
  | some v :: ps, h => by
    rw [List.all_cons, Bool.and_eq_true] at h
    exact ⟨cV v, _, rfl, cV_rep h.1, parts_rep hd r h.2⟩
  | none :: ps, h => by
    rw [List.all_cons, Bool.and_eq_true] at h
    exact ⟨w, _, rfl, r, parts_rep hd r h.2⟩
/-- the clauses, found -/
theorem hds_in {io : Nat} {hds : List ExceptHandler} {hs : List Hd} (hg : HdsG X io hds hs) : ∃ l, HdsA X hds l ∧ ∀ (W : WX) (D : Ends) (fr : Fp) (fps : List Fp) (f0 : Fp) (σ : L2.St) (H : Hp) (x : Xn) (s' : En), EndS X.K X.mg W io fr fps f0 σ H (hdR x s' hs) D →
    ∀ σ' H' fps' dx C w, Stp false fr fps f0 H H' fps' 0 → Slots X.K (cn fr fps') σ' H' s' fps' → Kio io σ σ' → X.mg x.cls = some (.ref C) → Rep X.K 0 H' x.val w → scalD x.val = true → H' dx = some (.xd [(x.fld, w)]) → wManyA X.K W D l (.ref C) (some dx) σ' H' := by
  have main : ∀ {h : Hd} {hs : List Hd} {c : Value} {ss : List Stmt} {l}, HdOk X io h c ss → (∀ (W : WX) (D : Ends) (fr : Fp) (fps : List Fp) (f0 : Fp) (σ : L2.St) (H : Hp) (x : Xn) (s' : En), EndS X.K X.mg W io fr fps f0 σ H (hdR x s' hs) D →
      ∀ σ' H' fps' dx C w, Stp false fr fps f0 H H' fps' 0 → Slots X.K (cn fr fps') σ' H' s' fps' → Kio io σ σ' → X.mg x.cls = some (.ref C) → Rep X.K 0 H' x.val w → scalD x.val = true → H' dx = some (.xd [(x.fld, w)]) → wManyA X.K W D l (.ref C) (some dx) σ' H') →
      ∀ (W : WX) (D : Ends) (fr : Fp) (fps : List Fp) (f0 : Fp) (σ : L2.St) (H : Hp) (x : Xn) (s' : En), EndS X.K X.mg W io fr fps f0 σ H (hdR x s' (h :: hs)) D →
      ∀ σ' H' fps' dx C w, Stp false fr fps f0 H H' fps' 0 → Slots X.K (cn fr fps') σ' H' s' fps' → Kio io σ σ' → X.mg x.cls = some (.ref C) → Rep X.K 0 H' x.val w → scalD x.val = true → H' dx = some (.xd [(x.fld, w)]) →
      wManyA X.K W D ((c, h.nm, tHd X h) :: l) (.ref C) (some dx) σ' H' := by
    intro h hs c ss l ok ih W D fr fps f0 σ H x s' hE σ' H' fps' dx C w st sl kk hm hr hsc hx
    unfold hdR at hE
    split at hE
    · rename_i hk
      rw [Bool.and_eq_true] at hk
      have hk1 : x.cls ∈ h.knw := List.contains_iff_mem.mp hk.1
      refine ⟨h.clss.contains x.cls, ok.exm x.cls hk1 C hm, fun hb a ha => ?_, fun hb => ?_⟩
      · rw [if_pos hb] at hE
        have hcl : x.cls ∈ h.clss := List.contains_iff_mem.mp hb
        -- the slots with the error's name out
        have leq : ∀ a, fr a + tot fps' a ≤ 1 := fun a => st.le a
        have slO : Slots X.K (cn fr fps') (onS h.nm a σ') H' (offE s' h.nm) fps' := by
          cases hn : h.nm with
          | none => exact sl
          | some n =>
            refine ⟨by show (s'.set n none).length = _; rw [List.length_set]; exact sl.ln, by show (s'.set n none).length = (σ'.set n _).length; rw [List.length_set, List.length_set]; exact sl.ls, fun j m d e => ?_⟩
            have e' : (s'.set n none)[j]? = some (some (m, d)) := e
            by_cases z : j = n
            · subst z
              by_cases y : j < s'.length
              · rw [List.getElem?_set_self y] at e'; cases e'
              · rw [List.getElem?_eq_none (by rw [List.length_set]; omega)] at e'; cases e'
            · rw [List.getElem?_set_ne (Ne.symm z)] at e'
              obtain ⟨v, f, h1, h2⟩ := sl.at_ j m d e'
              exact ⟨v, f, by show (σ'.set n _)[j]? = _; rw [List.getElem?_set_ne (Ne.symm z)]; exact h1, h2⟩
        have kO : Kio io σ (onS h.nm a σ') := by
          cases hn : h.nm with
          | none => exact kk
          | some n => exact kk.trans (Kio.set (ok.io1 n hn))
        -- the parts, read
        have hparts : ∀ (Q : List V → Hp → Prop), x.fld = h.fld → Q (h.parts.map fun p => match p with | some v => cV v | none => w) H' → tParts X (h.nm.getD 0) h.fld a (.ref C) (some dx) h.parts (onS h.nm a σ') H' Q := fun Q hf q => by
          by_cases hz : h.parts.any (·.isNone) = true
          · obtain ⟨hnm, herr⟩ := ok.err hz
            cases hn : h.nm with
            | none => exact absurd hn hnm
            | some n =>
              have hlen : n < s'.length := by
                have := hk.2
                unfold okN at this
                rw [hn] at this
                exact of_decide_eq_true this
              refine parts_in (x := x) (fld := h.fld) ?_ (by rw [← hf]; exact hx) h.parts Q (fun _ => ?_) q
              · show (σ'.set n _)[n]? = _
                exact List.getElem?_set_self (by rw [← sl.ls]; exact hlen)
              · obtain ⟨fI, T⟩ := herr x.cls hcl C hm
                exact ⟨_, fI, T⟩
          · exact parts_in0 h.parts Q (Bool.eq_false_iff.mpr hz) q
        have tupOk : ∀ p, H' p = none → Grw H' (upd H' p (.tup (h.parts.map fun p => match p with | some v => cV v | none => w))) ∧ cn fr fps' p = 0 ∧ Rep X.K (cn fr fps') (upd H' p (.tup (h.parts.map fun p => match p with | some v => cV v | none => w))) (.tuple (h.parts.map fun p => p.getD x.val)) (.ref p) := fun p hp => by
          have rel0 : Rel X.K fr fps' σ' H' s' := ⟨leq, fun a z => st.lv a z, sl⟩
          have g := Grw.upd (o := .tup (h.parts.map fun p => match p with | some v => cV v | none => w)) hp
          have z := rel0.fresh p hp
          exact ⟨g, z, p, _, rfl, .inl ⟨.of upd_same, z⟩, parts_rep hsc (scal_rep hsc hr) ok.sc.1⟩
        have hlen10 : (h.parts.map fun p => match p with | some v => cV v | none => w).length ≤ sizeLine := by
          rw [List.length_map, sizeLine_eq]
          have := ok.sc.2.2
          omega
        have stG : ∀ {H2}, Grw H' H2 → Stp false fr fps f0 H H2 fps' 0 := fun {H2} g => ⟨st.le, fun a z => by
          have := st.lv a z
          cases e : H' a with
          | none => exact absurd e this
          | some o => rw [g a o e]; exact fun y => (nomatch y), st.nw, fun a o e z => g a o (st.kp a o e z)⟩
        have slG : ∀ {H2}, Grw H' H2 → Slots X.K (cn fr fps') (onS h.nm a σ') H2 (offE s' h.nm) fps' := fun {H2} g => slO.mono ⟨fun a o e _ => g a o e, fun _ _ _ z => z⟩ fun a o e _ => g a o e
        unfold tHd
        cases hk' : h.k with
        | retc d =>
          rw [hk'] at hE
          have hE' : ∀ σ' u H' fps' f, Stp false fr fps f0 H H' fps' f → Slots X.K (cn (fr + f) fps') σ' H' (offE s' h.nm) fps' → Kio io σ σ' → RepM X.K (cn (fr + f) fps') H' .fz d u f → Md.fz.isB = false → D.rt u H' := hE
          have hsd : scalD d = true := by
            have := ok.sc.2.1
            rw [hk'] at this; exact this
          have fin := hE' (onS h.nm a σ') (cV d) H' fps' 0 st slO kO ⟨cV_rep hsd, rfl⟩ rfl
          show (offD h.nm D).rt (cV d) H'
          cases hn : h.nm with
          | none => exact fin
          | some n => exact fin
        | ret =>
          rw [hk'] at hE
          have hE2 : EndS X.K X.mg W io fr fps f0 σ H (if x.fld = h.fld then .ok (.rt (fzv (.tuple (h.parts.map fun p => p.getD x.val)))) (offE s' h.nm) else .no) D := hE
          split at hE2
          · rename_i hf
            have hE' : ∀ σ' u H' fps' f, Stp false fr fps f0 H H' fps' f → Slots X.K (cn (fr + f) fps') σ' H' (offE s' h.nm) fps' → Kio io σ σ' → RepM X.K (cn (fr + f) fps') H' .fz (.tuple (h.parts.map fun p => p.getD x.val)) u f → Md.fz.isB = false → D.rt u H' := hE2
            refine hparts _ hf ⟨hlen10, fun p hp => ?_⟩
            obtain ⟨g, z, rt⟩ := tupOk p hp
            have fin := hE' (onS h.nm a σ') (.ref p) _ fps' 0 (stG g) (slG g) kO ⟨rt, rfl⟩ rfl
            show (offD h.nm D).rt (.ref p) _
            cases hn : h.nm with
            | none => exact fin
            | some n => exact fin
          · exact hE2.elim
        | asg i =>
          rw [hk'] at hE
          have hE2 : EndS X.K X.mg W io fr fps f0 σ H (if x.fld = h.fld then .ok .nx ((offE s' h.nm).set i (some (fzv (.tuple (h.parts.map fun p => p.getD x.val))))) else .no) D := hE
          split at hE2
          · rename_i hf
            have hE' : ∀ σ' H' fps', Stp false fr fps f0 H H' fps' 0 → Slots X.K (cn fr fps') σ' H' ((offE s' h.nm).set i (some (fzv (.tuple (h.parts.map fun p => p.getD x.val))))) fps' → Kio io σ σ' → D.nx σ' H' := hE2
            obtain ⟨hio, hni⟩ := ok.io2 i hk'
            refine hparts _ hf ⟨hlen10, fun p hp => ?_⟩
            obtain ⟨g, z, rt⟩ := tupOk p hp
            have rel2 : Rel X.K (fr + 0) fps' (onS h.nm a σ') (upd H' p (.tup (h.parts.map fun p => match p with | some v => cV v | none => w))) (offE s' h.nm) := ⟨leq, fun a z => (stG g).lv a z, slG g⟩
            obtain ⟨st2, sl2⟩ := put_ok (m := .fz) (fv := 0) (i := i) (v := .ref p) rel2 (fun _ => Nat.le_refl _) rfl ⟨rt, rfl⟩
            have st3 : Stp false fr fps f0 H (upd H' p (.tup (h.parts.map fun p => match p with | some v => cV v | none => w))) (fps'.set i 0) 0 := by
              have wl := fun a => tot_set0_le (fps := fps') i a
              refine ⟨fun a => ?_, fun a z => (stG g).lv a ?_, fun a z => (stG g).nw a ?_, (stG g).kp⟩
              · have := (stG g).le a
                have := wl a
                omega
              · have := wl a; omega
              · have := wl a; omega
            show (offD h.nm D).nx ((onS h.nm a σ').set i (some (.ref p))) _
            cases hn : h.nm with
            | none =>
              rw [hn] at sl2 hE' kO
              exact hE' _ _ _ st3 sl2 (kO.trans (Kio.set hio))
            | some n =>
              rw [hn] at sl2 hE' kO hni
              have nei : n ≠ i := fun z => hni (by rw [z])
              refine hE' (((onS (some n) a σ').set i (some (.ref p))).set n none) _ _ st3 ?_ ((kO.trans (Kio.set hio)).trans (Kio.set (ok.io1 n hn)))
              refine ⟨sl2.ln, sl2.ls.trans List.length_set.symm, fun j m d e => ?_⟩
              obtain ⟨v, f, h1, h2⟩ := sl2.at_ j m d e
              by_cases zj : j = n
              · exfalso
                subst zj
                rw [List.getElem?_set_ne (Ne.symm nei)] at e
                have e' : (s'.set j none)[j]? = some (some (m, d)) := e
                by_cases y : j < s'.length
                · rw [List.getElem?_set_self y] at e'; cases e'
                · rw [List.getElem?_eq_none (by rw [List.length_set]; omega)] at e'; cases e'
              · exact ⟨v, f, by rw [List.getElem?_set_ne (Ne.symm zj)]; exact h1, h2⟩
          · exact hE2.elim
      · rw [if_neg (by rw [hb]; exact Bool.false_ne_true)] at hE
        exact ih W D fr fps f0 σ H x s' hE σ' H' fps' dx C w st sl kk hm hr hsc hx
    · exact hE.elim
  induction hg with
  | nil => exact ⟨[], .nil, fun W D fr fps f0 σ H x s' hE σ' H' fps' dx C w st sl kk hm hr hs hx => hE σ' H' fps' dx C w st sl kk hm hr hs hx⟩
  | cons hc hn ok r ih =>
    obtain ⟨l, h1, h2⟩ := ih
    refine ⟨(_, none, _) :: l, .cons hc ok.su h1, ?_⟩
    have := main ok h2
    rw [hn] at this
    exact this
  | consA hc hn hi hln ok r ih =>
    obtain ⟨l, h1, h2⟩ := ih
    refine ⟨(_, some _, _) :: l, .consA hc hi hln ok.su h1, ?_⟩
    have := main ok h2
    rw [hn] at this
    exact this
/-- try: .. except .. -/
theorem s_try {G : List Info} {W : WX} {io : Nat} {body : List Stmt} {bs : Css} {h₀ : ExceptHandler} {hds : List ExceptHandler} {hs : List Hd} {pos : Pos} (hst : X.stack = X.env :: X.outer) (hf : X.env.frame = some X.env.locals) (hN : X.N.Nodup) (tk : Takes X W)
    (hb : ∀ (W : WX) (pn : List (Addr × Obj)) (xe : Value → Shared → Prop), Takes (X.tr pn xe) W → PassesOwn (model X.prog X.w) X.A X.env xe → PSs (X.tr pn xe) body (TSs X G W io bs)) (hh : HdsG X io (h₀ :: hds) hs) :
    PS X (.Try body (h₀ :: hds) [] [] pos) (TSc X G W io (.tryr bs hs)) := by
  obtain ⟨l, hA, hin⟩ := hds_in hh
  refine (ps_try_manyA hst hf hN tk hb hA).imp fun D σ H ⟨fr, fps, s, rel, h⟩ => ⟨fr, fps, s, rel, ?_⟩
  have h' : EndS X.K X.mg W io fr fps 0 σ H (match exs G bs s with
    | .exc x s1 => hdR x s1 hs
    | r => r) D := h
  cases e : exs G bs s with
  | no => rw [e] at h'; exact h'
  | ok fl s1 =>
    rw [e] at h'
    cases fl with
    | nx => exact h'
    | bk => exact h'
    | ct => exact h'
    | rt v => exact h'
  | exc x s1 =>
    rw [e] at h'
    exact fun σ' H' fps' dx C w st sl kk hm hr hsc hx => hin W D fr fps 0 σ H x s1 h' σ' H' fps' dx C w st sl kk hm hr hsc hx
end
end DV

set_option Elab.async false
set_option linter.all false
set_option maxRecDepth 100000
set_option maxHeartbeats 2000000
/-! DV25: defs. -/
namespace DV
open PySem L2 PySem.Spec PyProof.Rows

section
variable {K : PySem.W.Frag} {mg : Str → Option Value} {fr f0 f : Fp} {fps : List Fp} {σ : L2.St} {H H' : Hp} {s : En} {c : Fp}
theorem RepMs.split : ∀ {as : List MD} {vs : List V} {f0 : Fp}, RepMs K c H as vs f0 → ∃ fs : List Fp, fs.length = as.length ∧ (∀ a, tot fs a = f0 a) ∧ ∀ (i : Nat) (m : Md) (d : PyData), as[i]? = some (m, d) → ∃ v f, vs[i]? = some v ∧ fs[i]? = some f ∧ RepM K c H m d v f
  | [], vs, f0, r => ⟨[], rfl, fun a => by rw [r.2]; rfl, fun i m d e => by simp at e⟩
  | x :: as, vs, f0, ⟨v, r, g, h, e, h1, h2, ef⟩ => by
    obtain ⟨fs, hl, ht, hi⟩ := RepMs.split h2
    subst e ef
    refine ⟨g :: fs, by rw [List.length_cons, List.length_cons, hl], fun a => by rw [tot_cons, ht]; rfl, fun i m d e => ?_⟩
    cases i with
    | zero =>
      have e' : x = (m, d) := Option.some.inj e
      subst e'
      exact ⟨v, g, rfl, rfl, h1⟩
    | succ i => exact hi i m d e
theorem tot_app (as bs : List Fp) (a : Addr) : tot (as ++ bs) a = tot as a + tot bs a := by
  induction as with
  | nil => rw [List.nil_append, tot_nil, Nat.zero_add]
  | cons x xs ih => rw [List.cons_append, tot_cons, tot_cons, ih, Nat.add_assoc]
theorem tot_rep (n : Nat) (a : Addr) : tot (List.replicate n (0 : Fp)) a = 0 := by
  induction n with
  | zero => rfl
  | succ n ih => rw [List.replicate_succ, tot_cons, ih]; rfl
theorem mapM_app {α β : Type} (g : α → Option β) : ∀ (xs ys : List α), (xs ++ ys).mapM g = (xs.mapM g).bind fun a => (ys.mapM g).bind fun b => some (a ++ b)
  | [], ys => by
    rw [List.nil_append, List.mapM_nil]
    show _ = (ys.mapM g).bind fun b => some ([] ++ b)
    cases ys.mapM g <;> rfl
  | x :: xs, ys => by
    rw [List.cons_append, List.mapM_cons, List.mapM_cons, mapM_app g xs ys]
    cases g x with
    | none => rfl
    | some y =>
      show ((xs.mapM g).bind fun a => (ys.mapM g).bind fun b => some (a ++ b)).bind _ = ((xs.mapM g).bind fun a => some (y :: a)).bind _
      cases xs.mapM g with
      | none => rfl
      | some zs =>
        show ((ys.mapM g).bind fun b => some (zs ++ b)).bind _ = (ys.mapM g).bind fun b => some (y :: zs ++ b)
        cases ys.mapM g <;> rfl
/-- what the first slots hold at the end -/
theorem outs_ok {vs : List V} (sl : Slots K c σ H s fps) : ∀ (n : Nat) {outs : List MD}, (∀ j, j < n → σ[j]? = (vs[j]?).map some) → ((List.range n).mapM fun i => (s[i]?).bind id) = some outs →
    ∃ fo, RepMs K c H outs (vs.take n) fo ∧ (∀ a, fo a ≤ tot (fps.take n) a) ∧ outs.any (·.1.isB) = false
  | 0, outs, _, h => by
    cases h
    exact ⟨0, ⟨by rw [List.take_zero], rfl⟩, fun a => Nat.zero_le _, rfl⟩
  | n + 1, outs, hσ, h => by
    rw [List.range_succ, mapM_app] at h
    obtain ⟨as, ha, h⟩ := Option.bind_eq_some_iff.mp h
    obtain ⟨bs, hb, h⟩ := Option.bind_eq_some_iff.mp h
    cases h
    obtain ⟨fo, r, hf, hn⟩ := outs_ok sl n (fun j hj => hσ j (by omega)) ha
    rw [List.mapM_cons, List.mapM_nil] at hb
    obtain ⟨md, hmd, hb⟩ := Option.bind_eq_some_iff.mp hb
    cases hb
    obtain ⟨o, ho, hmd⟩ := Option.bind_eq_some_iff.mp hmd
    have ho' : s[n]? = some (some md) := by rw [ho]; exact congrArg some hmd
    obtain ⟨m, d⟩ := md
    obtain ⟨v, g, h1, h2, h3, h4⟩ := sl.at_ n m d ho'
    have hv : vs[n]? = some v := by
      have := hσ n (Nat.lt_succ_self n)
      rw [h1] at this
      cases e : vs[n]? with
      | none => rw [e] at this; cases this
      | some u =>
        rw [e] at this
        exact (Option.some.inj (Option.some.inj this)).symm ▸ rfl
    have tk : vs.take (n + 1) = vs.take n ++ [v] := by
      rw [List.take_succ, hv]; rfl
    have tf : fps.take (n + 1) = fps.take n ++ [g] := by
      rw [List.take_succ, h2]; rfl
    refine ⟨fo + g, ?_, fun a => ?_, ?_⟩
    · rw [tk]
      exact RepMs.app r ⟨v, [], g, 0, rfl, h4, ⟨rfl, rfl⟩, Fp.add_zero _⟩
    · rw [tf, tot_app, tot_cons, tot_nil]
      have := hf a
      show fo a + g a ≤ _
      omega
    · rw [List.any_append, hn, Bool.false_or, List.any_cons, h3]; rfl
theorem tot_take (n : Nat) (fps : List Fp) (a : Addr) : tot (fps.take n) a ≤ tot fps a := by
  have := tot_app (fps.take n) (fps.drop n) a
  rw [List.take_append_drop] at this
  omega
end

/-- the law of a def: its body, run -/
theorem def_in {P : Program} {w : World} {K : PySem.W.Frag} {mg : Str → Option Value} {base : Heap} {N : List Str} {qual : Str} {scope : Scope} {f : Addr} {cdv : Value} {A : Around} {outer : List Env} {s : Shared} {H : Hp} {vs : List V} {Q : VK} {E : XK} {G : List Info} {i : Info} {css : Css}
    (hsem : i.sem = runD G N.length i.io css) (hio : i.io ≤ i.ps.length) (hps : i.ps.length ≤ N.length) (h : spI K mg i vs H Q E) :
    TSs (cxOf (L2.CX P w) P w K mg base N qual scope f cdv A outer s H E) G (fun cls d _ H => E cls d H) i.io css { nx := fun _ H' => Q .non H', rt := Q } (start N vs) H := by
  obtain ⟨hl, as, fr, f0, ra, le, lv, nb, hsp⟩ := h
  obtain ⟨fs, hfl, hft, hfi⟩ := RepMs.split ra
  have hal : as.length = vs.length := RepMs.len ra
  let fps := fs ++ List.replicate (N.length - vs.length) (0 : Fp)
  let s0 : En := as.map some ++ List.replicate (N.length - as.length) none
  have htot : ∀ a, tot fps a = f0 a := fun a => by
    show tot (fs ++ _) a = _
    rw [tot_app, tot_rep, hft]; rfl
  have ecn : cn fr [f0] = cn fr fps := funext fun a => by
    show fr a + tot [f0] a = fr a + tot fps a
    rw [tot_one, htot]
  have rel : Rel K fr fps (start N vs) H s0 := by
    refine ⟨fun a => by rw [htot]; exact le a, fun a z => lv a (by rw [← htot]; exact z), ?_, ?_, fun j m d e => ?_⟩
    · show (as.map some ++ _).length = (fs ++ _).length
      rw [List.length_append, List.length_append, List.length_map, List.length_replicate, List.length_replicate, hfl, hal]
    · show (as.map some ++ _).length = (vs.map some ++ _).length
      rw [List.length_append, List.length_append, List.length_map, List.length_map, List.length_replicate, List.length_replicate, hal]
    · have e' : (as.map some ++ List.replicate (N.length - as.length) none)[j]? = some (some (m, d)) := e
      by_cases hj : j < as.length
      · rw [List.getElem?_append_left (by rw [List.length_map]; exact hj), List.getElem?_map] at e'
        obtain ⟨x, hx, ex⟩ := Option.map_eq_some_iff.mp e'
        cases ex
        obtain ⟨v, g, h1, h2, h3⟩ := hfi j m d hx
        refine ⟨v, g, ?_, ?_, ?_, by rw [← ecn]; exact h3⟩
        · show (vs.map some ++ _)[j]? = _
          rw [List.getElem?_append_left (by rw [List.length_map]; omega), List.getElem?_map, h1]; rfl
        · show (fs ++ _)[j]? = _
          rw [List.getElem?_append_left (by rw [hfl]; exact hj)]; exact h2
        · exact Bool.eq_false_iff.mpr fun z => (Bool.eq_false_iff.mp nb) (List.any_eq_true.mpr ⟨_, List.mem_of_getElem? hx, z⟩)
      · rw [List.getElem?_append_right (by rw [List.length_map]; omega)] at e'
        rw [List.getElem?_replicate] at e'
        split at e'
        · cases e'
        · cases e'
  refine ⟨fr, fps, s0, rel, ?_⟩
  have hst : ∀ σ', Kio i.io (start N vs) σ' → ∀ j, j < i.io → σ'[j]? = (vs[j]?).map some := fun σ' kk j hj => by
    rw [kk j hj]
    show (vs.map some ++ _)[j]? = _
    rw [List.getElem?_append_left (by rw [List.length_map]; omega), List.getElem?_map]
  have stp : ∀ {H' fps' g}, Stp false fr fps 0 H H' fps' g → ∀ fo : Fp, (∀ a, fo a ≤ tot fps' a) → Stp false fr [f0] 0 H H' [fo] g := fun {H' fps' g} st fo hf => ⟨fun a => by have := st.le a; have := hf a; rw [tot_one]; omega, fun a z => st.lv a (by rw [tot_one] at z; have := hf a; omega),
    fun a z => (st.nw a (by rw [tot_one] at z; have := hf a; omega)).imp (fun y => by rw [htot] at y; rw [tot_one]; exact y) id, fun a o e z => st.kp a o e (z.imp id fun y => by rw [tot_one] at y; rw [htot]; exact y)⟩
  have lss : ∀ {fps' : List Fp} {g fo : Fp}, (∀ a, fo a ≤ tot fps' a) → ∀ a, cn (fr + g) fps' a = 0 → cn (fr + g) [fo] a = 0 := fun {fps' g fo} hf a z => by
    rw [cn_zero] at z ⊢
    rw [tot_one]
    have := hf a
    omega
  have hsp' : match runD G N.length i.io css as with
    | .ret v outs => ∀ u H' f fo, Stp false fr [f0] 0 H H' [fo] f → RepM K (cn (fr + f) [fo]) H' v.1 v.2 u f → RepMs K (cn (fr + f) [fo]) H' outs (vs.take i.io) fo → Q u H'
    | .exc x outs => ∀ H' fo dx C w, Stp false fr [f0] 0 H H' [fo] 0 → RepMs K (cn fr [fo]) H' outs (vs.take i.io) fo → mg x.cls = some (.ref C) → Rep K 0 H' x.val w → scalD x.val = true → H' dx = some (.xd [(x.fld, w)]) → E (.ref C) (some dx) H'
    | .no => False := by rw [← hsem]; exact hsp
  unfold runD at hsp'
  show EndS K mg _ i.io fr fps 0 (start N vs) H (exs G css s0) _
  cases e : exs G css s0 with
  | no =>
    have e' : exs G css (as.map some ++ List.replicate (N.length - as.length) none) = .no := e
    simp only [e'] at hsp'
  | exc x s1 =>
    have e' : exs G css (as.map some ++ List.replicate (N.length - as.length) none) = .exc x s1 := e
    simp only [e'] at hsp'
    intro σ' H' fps' dx C w' st sl kk hm hr hs hx
    cases ho : (List.range i.io).mapM fun j => (s1[j]?).bind id with
    | some outs =>
      simp only [ho] at hsp'
      obtain ⟨fo, ro, hf, _⟩ := outs_ok sl i.io (hst σ' kk) ho
      have hf' := fun a => Nat.le_trans (hf a) (tot_take i.io fps' a)
      exact hsp' H' fo dx C w' (stp st fo hf') (lessMs _ _ _ _ _ _ (lss (g := 0) hf') ro) hm hr hs hx
    | none => simp only [ho] at hsp'
  | ok fl s1 =>
    have e' : exs G css (as.map some ++ List.replicate (N.length - as.length) none) = .ok fl s1 := e
    cases fl with
    | bk => simp only [e'] at hsp'
    | ct => simp only [e'] at hsp'
    | nx =>
      simp only [e'] at hsp'
      intro σ' H' fps' st sl kk
      cases ho : (List.range i.io).mapM fun j => (s1[j]?).bind id with
      | some outs =>
        simp only [ho] at hsp'
        obtain ⟨fo, ro, hf, _⟩ := outs_ok sl i.io (hst σ' kk) ho
        have hf' := fun a => Nat.le_trans (hf a) (tot_take i.io fps' a)
        exact hsp' .non H' 0 fo (stp st fo hf') ⟨rfl, rfl⟩ (lessMs _ _ _ _ _ _ (lss (g := 0) hf') ro)
      | none => simp only [ho] at hsp'
    | rt v =>
      simp only [e'] at hsp'
      intro σ' u H' fps' g st sl kk rv nbv
      cases ho : (List.range i.io).mapM fun j => (s1[j]?).bind id with
      | some outs =>
        simp only [ho] at hsp'
        obtain ⟨fo, ro, hf, _⟩ := outs_ok sl i.io (hst σ' kk) ho
        have hf' := fun a => Nat.le_trans (hf a) (tot_take i.io fps' a)
        exact hsp' u H' g fo (stp st fo hf') (lessM _ _ _ v _ _ (lss hf') rv) (lessMs _ _ _ _ _ _ (lss hf') ro)
      | none => simp only [ho] at hsp'
/-- a def, found -/
theorem def_at {P : Program} {w : World} {K : PySem.W.Frag} {mg : Str → Option Value} {base : Heap} {N : List Str} {x qual : Str} {st : Stmt} {f : Addr} {fd : FuncData} {G : List Info} {i : Info} {css : Css} {k : Nat} (F : L2.Fun K x qual st f fd) (S : FnScope N i.ps (defScope st))
    (hsem : i.sem = runD G N.length i.io css) (hio : i.io ≤ i.ps.length) (hps : i.ps.length ≤ N.length) (hg : mg i.name = some (.ref f)) (hb : Binds K fd i.ps [])
    (hbody : ∀ (cdv : Value) (A : Around) (outer : List Env) (s : Shared) (H : Hp) (E : XK), Room k (A.deeper (envOfC qual (defScope st) s.heap.objs.size f cdv)) →
      PSs (cxOf (L2.CX P w) P w K mg base N qual (defScope st) f cdv A outer s H E) (defBody st) (TSs (cxOf (L2.CX P w) P w K mg base N qual (defScope st) f cdv A outer s H E) G (fun cls d _ H => E cls d H) i.io css)) :
    FnAt P w K mg base (k + 1) i f fd :=
  ⟨F.okX S (fun vs H Q E h => h.1) fun cdv A outer s H vs Q E hr h => ⟨_, hbody cdv A outer s H E hr, def_in hsem hio hps h⟩, hg, F.kp, hb⟩
end DV

set_option Elab.async false
set_option linter.all false
set_option maxRecDepth 100000
set_option maxHeartbeats 2000000
/-! DV26: parallel assignments through a tuple. -/
namespace DV
open PySem L2 PySem.Spec PyProof.Rows

def gNames : List Nat → TGs
  | [] => gNil
  | i :: is => gCons (gName i) (gNames is)
theorem gNames_in {H : Hp} {Q : L2.St → Hp → Prop} : ∀ {is : List Nat} {us : List V} {σ : L2.St}, us.length = is.length → Q ((is.zip us).foldl (fun σ p => σ.set p.1 (some p.2)) σ) H → gNames is us σ H Q
  | [], [], σ, _, h => ⟨rfl, h⟩
  | [], _ :: _, σ, hl, h => nomatch hl
  | _ :: _, [], σ, hl, h => nomatch hl
  | i :: is, u :: us, σ, hl, h => ⟨u, us, rfl, gNames_in (Nat.succ.inj hl) h⟩
theorem parS_len : ∀ {is : List Nat} {vs : List MD} {s s' : En}, parS is vs s = some s' → vs.length = is.length
  | [], [], _, _, _ => rfl
  | [], _ :: _, _, _, h => nomatch h
  | _ :: _, [], _, _, h => nomatch h
  | i :: is, v :: vs, s, s', h => by
    unfold parS at h
    split at h
    · cases h
    · rw [List.length_cons, List.length_cons, parS_len h]
section
variable {X : Cx} {G : List Info} {W : WX} {c ca cb cc ci : Ce} {cs : Ces} {a b e e1 e2 e3 : Expr} {es ns : List Expr} {pos p p2 q2 : Pos} {io : Nat}
theorem rN_nil : PGs X [] (gNames []) := pgs_nil
theorem rN_cons {i : Nat} {x : Str} {is : List Nat} (hN : X.N.Nodup) (hi : X.N[i]? = some x) (hx : Loc X.env.scope x) (h : PGs X ns (gNames is)) (hf : X.fn x = true ∨ X.env.scope.names.lookup x = some .local := by first | exact .inl rfl | exact .inr rfl | assumption)
    (hs : (assignEach (.Name x p :: ns) X.env).map (·.2) = assign (.Name x p) X.env :: (assignEach ns X.env).map (·.2) := by rfl) : PGs X (.Name x p :: ns) (gNames (i :: is)) := pgs_cons (pg_name hN hi hx hf) h hs
theorem s_parT {n : Nat} {is : List Nat} {kt k2 : Nat} {pt pt2 : Pos} (hc : X.calm = true) (ha : PA X es (TAc X G W cs)) (hg : PGs X ns (gNames is)) (hio : ∀ l ∈ is, io ≤ l := by decide) (hn2 : is.length = n := by rfl) (hn : (assignEach ns X.env).length = n := by rfl) (hst : (assignEach ns X.env).findIdx? (·.1) = none := by rfl)
    (hs : swapsWithSole [.Tuple ns kt pt] (.Tuple es k2 pt2) pos.line X.env = pure false := by rfl) (hw : swappedStores [.Tuple ns kt pt] (.Tuple es k2 pt2) X.env = pure none := by rfl)
    (h1 : (assignEach [.Tuple ns kt pt] X.env).map (·.2) = [assign (.Tuple ns kt pt) X.env] := by rfl) :
    PS X (.Assign [.Tuple ns kt pt] (.Tuple es k2 pt2) pos) (TSc X G W io (.par is cs)) :=
  (ps_asg (pe_tup ha) (pg_tup hc hg hn hst) hs hw h1).imp fun D σ H ⟨fr, fps, s, rel, h⟩ => by
    have h' : EndS X.K X.mg W io fr fps 0 σ H ((evs G cs s).bind fun vs s1 => if is.Nodup then (match parS is vs s1 with
      | some s2 => if okLen vs.length = true then .ok .nx s2 else .no
      | none => .no) else .no) D := h
    refine tS_step (R1 := rMs X.K) (f0 := 0) rel h' fun x s1 us H1 fps1 f1 e1 st1 rel1 r1 h1 => ?_
    split at h1
    · split at h1
      · rename_i s2 hp
        split at h1
        · rename_i hl
          have hlu : us.length = is.length := by rw [← RepMs.len r1]; exact parS_len hp
          refine ⟨by rw [← RepMs.len r1]; exact okLen_le hl, fun q hq => ⟨q, us, rfl, .inl (.of upd_same), hlu.trans hn2, gNames_in hlu ?_⟩⟩
          have g := Grw.upd (o := .tup us) hq
          have z0 := rel1.new0 hq
          have relg := rel1.grw g
          have stg : Stp true (fr + (0 + f1)) fps1 0 H1 (upd H1 q (.tup us)) fps1 0 := ⟨fun a => by have := rel1.le a; show (fr + (0 + f1)) a + 0 + _ ≤ 1; omega, fun a z => relg.lv a (by have z' : 0 < (fr + (0 + f1)) a + 0 + tot fps1 a := z; omega), fun a z => .inl z, fun a o e _ => g a o e⟩
          have h2 := EndS.trans stg rel1.le Kio.refl h1
          have rg : RepMs X.K (cn (fr + (0 + f1)) fps1) (upd H1 q (.tup us)) x us f1 := RepMs.mono ⟨fun a o e _ => g a o e, fun _ _ _ z => z⟩ (fun a o e _ => g a o e) r1
          exact par_end (f0 := 0 + f1 + 0) relg (fun a => by simp only [Fp.add_at, Fp.zero_at]; omega) rg hp hio h2
        · exact h1.elim
      · exact h1.elim
    · exact h1.elim
end
end DV

set_option Elab.async false
set_option linter.all false
set_option maxRecDepth 100000
set_option maxHeartbeats 2000000
/-! DV27: a law's end. -/
namespace DV
open PySem L2 PySem.Spec PyProof.Rows

/-- a class's first def -/
def initOf : Stmt → Stmt
  | .ClassDef _ _ _ (b :: _) _ _ _ _ _ _ _ => b
  | s => s
theorem exm_of {K : PySem.W.Frag} {S C : Addr} {b : Bool} (h1 : PySem.W.subIn K (.ref S) (.type "BaseException") = some true) (h2 : PySem.W.isClsIn K S = true) (h3 : PySem.W.typeIn K (.ref S) = some (.type "type")) (h4 : PySem.W.subIn K (.ref C) (.ref S) = some b) :
    PySem.W.exmOne K (.ref C) (.ref S) = some b := by
  have e1 : (PySem.W.subIn K (.ref S) (.type "BaseException") == some true) = true := by rw [h1] <;> rfl
  have e2 : ((PySem.W.clsIn K S).isSome && PySem.W.typeIn K (.ref S) == some (.type "type")) = true := by
    have h2' : (PySem.W.clsIn K S).isSome = true := h2
    rw [h2', h3] <;> rfl
  show (if (PySem.W.subIn K (.ref S) (.type "BaseException") == some true) = true then (if ((PySem.W.clsIn K S).isSome && PySem.W.typeIn K (.ref S) == some (.type "type")) = true then PySem.W.subIn K (.ref C) (.ref S) else none) else none) = some b
  rw [if_pos e1, if_pos e2]
  exact h4
/-- the law's promise -/
def spL (K : PySem.W.Frag) : Sp := fun vs H Q _ => ∃ (a : Addr) (ns : List Int), vs = [.ref a] ∧ ns.length ≤ 63 ∧ SqL K H a (ns.map V.int) ∧ ∀ H', Q (.bl true) H'
theorem fnok_imp {P : Program} {w : World} {K : PySem.W.Frag} {mg : Str → Option Value} {base : Heap} {CX : CXT} {k : Nat} {f : Addr} {fd : FuncData} {ps : List Str} {sp sp' : Sp} (F : FnOk P w K mg base CX k f fd ps sp) (h : ∀ vs H Q E, sp' vs H Q E → sp vs H Q E) : FnOk P w K mg base CX k f fd ps sp' :=
  ⟨fun vs H Q E h' => F.len vs H Q E (h _ _ _ _ h'), fun A outer s H args us vs Q E r e b v h' => F.run A outer s H args us vs Q E r e b v (h _ _ _ _ h')⟩
theorem law_in {K : PySem.W.Frag} {mg : Str → Option Value} {i : Info} (hps : i.ps.length = 1) (hio : i.io = 0) (ht : ∀ ns : List Int, ns.length ≤ 63 → i.sem [(.fz, .list (ns.map PyData.int))] = .ret (.fz, .bool true) []) (vs : List V) (H : Hp) (Q : VK) (E : XK) (h : spL K vs H Q E) : spI K mg i vs H Q E := by
  obtain ⟨a, ns, rfl, hl, hs, hq⟩ := h
  have r : Rep K (cn 0 [0]) H (.list (ns.map PyData.int)) (.ref a) := by
    refine ⟨a, _, rfl, ?_, Reps.of_ints ns⟩
    rcases hs with hs | hs
    · exact .inl ⟨hs, rfl⟩
    · exact .inr hs
  refine ⟨by rw [hps]; rfl, [(.fz, .list (ns.map PyData.int))], 0, 0, ⟨.ref a, [], 0, 0, rfl, ⟨r, rfl⟩, ⟨rfl, rfl⟩, rfl⟩, fun _ => Nat.zero_le _, fun a z => absurd z (Nat.lt_irrefl _), rfl, ?_⟩
  rw [ht ns hl]
  intro u H' f fo st rv ro
  obtain rfl : u = .bl true := rv.1
  exact hq H'
theorem law_fn {P : Program} {w : World} {K : PySem.W.Frag} {mg : Str → Option Value} {CX : CXT} {k : Nat} {fa : Addr} {i : Info} {x : Str} (ht : i.ps.length = 1 ∧ i.io = 0 ∧ ∀ ns : List Int, ns.length ≤ 63 → i.sem [(.fz, .list (ns.map PyData.int))] = .ret (.fz, .bool true) [])
    (h : ∃ fd : FuncData, (∀ (s : Shared) (v : Value), BindsTo s fd ⟨[v], []⟩ [(x, v)]) ∧ ∀ base : Heap, K.In base → base.Ns mainGlobals mg → FnOk P w K mg base CX k fa fd [x] (spI K mg i)) :
    ∃ fd : FuncData, (∀ (s : Shared) (v : Value), BindsTo s fd ⟨[v], []⟩ [(x, v)]) ∧ ∀ base : Heap, K.In base → base.Ns mainGlobals mg → FnOk P w K mg base CX k fa fd [x] (spL K) := by
  obtain ⟨fd, h1, h2⟩ := h
  exact ⟨fd, h1, fun base hb hn => fnok_imp (h2 base hb hn) (law_in ht.1 ht.2.1 ht.2.2)⟩
theorem cx_false {P : Program} {w : World} {outer : List Env} {H : Hp} {s s' : Shared} {e : Value} (h : L2.CX P w outer H s (fun _ _ _ => False) e s') : False := by
  obtain ⟨_, _, _, _, _, _, _, _, _, _, _, _, h⟩ := h
  exact h
end DV

set_option Elab.async false
set_option linter.all false
set_option maxRecDepth 100000
set_option maxHeartbeats 2000000
/-! DV28: evaluating core bodies by simp. -/
namespace DV
open PySem

section
variable {α β : Type} {s : En} {G : List Info}
@[simp] theorem bind_ok (a : α) (k : α → En → Rs β) : (Rs.ok a s).bind k = k a s := rfl
@[simp] theorem bind_exc (x : Xn) (k : α → En → Rs β) : (Rs.exc x s).bind k = .exc x s := rfl
@[simp] theorem bind_no (k : α → En → Rs β) : (Rs.no : Rs α).bind k = .no := rfl
theorem bind_ite (c : Prop) [Decidable c] (a b : Rs α) (k : α → En → Rs β) : (if c then a else b).bind k = if c then a.bind k else b.bind k := by split <;> rfl
@[simp] theorem isB_fz : Md.isB .fz = false := rfl
@[simp] theorem isB_o1 : Md.isB .o1 = false := rfl
@[simp] theorem isB_o2 : Md.isB .o2 = false := rfl
@[simp] theorem isB_b1 : Md.isB .b1 = true := rfl
@[simp] theorem isB_b2 : Md.isB .b2 = true := rfl
@[simp] theorem is2_fz : Md.is2 .fz = false := rfl
@[simp] theorem is2_o1 : Md.is2 .o1 = false := rfl
@[simp] theorem is2_o2 : Md.is2 .o2 = true := rfl
@[simp] theorem is2_b1 : Md.is2 .b1 = false := rfl
@[simp] theorem is2_b2 : Md.is2 .b2 = true := rfl
@[simp] theorem rd_fz : Md.rd .fz = .fz := rfl
@[simp] theorem rd_o1 : Md.rd .o1 = .b1 := rfl
@[simp] theorem rd_o2 : Md.rd .o2 = .b2 := rfl
@[simp] theorem rd_b1 : Md.rd .b1 = .b1 := rfl
@[simp] theorem rd_b2 : Md.rd .b2 = .b2 := rfl
@[simp] theorem tbR_ok (m : Md) (b : Bool) : tbR (.ok (m, .bool b) s) = .ok b s := rfl
@[simp] theorem tbR_exc (x : Xn) : tbR (.exc x s) = .exc x s := rfl
@[simp] theorem tbR_no : tbR .no = .no := rfl
@[simp] theorem keepR_fz (d : PyData) : keepR (.ok (.fz, d) s) = .ok (.fz, d) s := rfl
@[simp] theorem keepR_o1 (d : PyData) : keepR (.ok (.o1, d) s) = .ok (.o1, d) s := rfl
@[simp] theorem keepR_o2 (d : PyData) : keepR (.ok (.o2, d) s) = .ok (.o2, d) s := rfl
@[simp] theorem keepR_exc (x : Xn) : keepR (.exc x s) = .exc x s := rfl
@[simp] theorem ofO_some (a : α) : ofO (some a) s = .ok a s := rfl
@[simp] theorem ofO_none : ofO (none : Option α) s = .no := rfl
theorem fzv_eq (d : PyData) : fzv d = (.fz, d) := rfl
/-- a call that changes no argument -/
theorem callR0 (i : Info) (vs : List MD) (h0 : i.io = 0) (hl : vs.length = i.ps.length) : callR i [] vs s = (match i.sem (vs.map fun v => fzv v.2) with
    | .no => Rs.no
    | .ret v [] => if v.1.isB = true then .no else .ok v s
    | .ret _ _ => .no
    | .exc x [] => .exc x s
    | .exc _ _ => .no : Rs MD) := by
  unfold callR
  rw [if_neg (by rw [h0]; show ¬ ((0 : Nat) ≠ 0 ∨ 0 + vs.length ≠ i.ps.length); omega)]
  show (match i.sem ([] ++ vs.map fun v => fzv v.2) with
    | .no => Rs.no
    | .ret v outs => if v.1.isB = true then .no else match giveS [] outs s with
      | none => .no
      | some s2 => .ok v s2
    | .exc x outs => match giveS [] outs s with
      | none => .no
      | some s2 => .exc x s2) = _
  rw [List.nil_append]
  cases i.sem (vs.map fun v => fzv v.2) with
  | no => rfl
  | ret v outs =>
    cases outs with
    | nil => rfl
    | cons o os =>
      show (if v.1.isB = true then Rs.no else Rs.no) = Rs.no
      split <;> rfl
  | exc x outs => cases outs <;> rfl
theorem callR0_ret {i : Info} {vs : List MD} {d : PyData} {m : Md} (h0 : i.io = 0) (hl : vs.length = i.ps.length) (hm : m.isB = false) (h : i.sem (vs.map fun v => fzv v.2) = .ret (m, d) []) : callR i [] vs s = .ok (m, d) s := by
  rw [callR0 i vs h0 hl, h]
  show (if m.isB = true then Rs.no else Rs.ok (m, d) s) = _
  rw [hm]; rfl
theorem callR0_exc {i : Info} {vs : List MD} {x : Xn} (h0 : i.io = 0) (hl : vs.length = i.ps.length) (h : i.sem (vs.map fun v => fzv v.2) = .exc x []) : callR i [] vs s = .exc x s := by
  rw [callR0 i vs h0 hl, h]
/-- a call that changes its first argument, in slot j -/
theorem callR1_ret {i : Info} {j : Nat} {vs : List MD} {m m0 m1 : Md} {d d0 d1 : PyData} (h0 : i.io = 1) (hl : 1 + vs.length = i.ps.length) (hs : s[j]? = some (some (m0, d0))) (hm0 : m0 ≠ .fz) (hm : m.isB = false) (hm1 : m1.isB = false)
    (h : i.sem ((m0, d0) :: vs.map fun v => fzv v.2) = .ret (m, d) [(m1, d1)]) : callR i [j] vs s = .ok (m, d) (s.set j (some (m1, d1))) := by
  unfold callR
  rw [if_neg (by rw [h0]; show ¬ ((1 : Nat) ≠ 1 ∨ 1 + vs.length ≠ i.ps.length); omega)]
  have ht : takeS [j] s = some ([(m0, d0)], s.set j none) := by
    unfold takeS
    rw [hs]
    simp [hm0, takeS]
  rw [ht]
  show (match i.sem ((m0, d0) :: vs.map fun v => fzv v.2) with
    | .no => Rs.no
    | .ret v outs => if v.1.isB = true then .no else match giveS [j] outs (s.set j none) with
      | none => .no
      | some s2 => .ok v s2
    | .exc x outs => match giveS [j] outs (s.set j none) with
      | none => .no
      | some s2 => .exc x s2) = _
  rw [h]
  simp [hm, hm1, giveS]
end

/-! ### data -/
@[simp] theorem eqD_int (a b : Int) : eqD (.int a) (.int b) = some (a == b) := rfl
@[simp] theorem eqD_bool (a b : Bool) : eqD (.bool a) (.bool b) = some (a == b) := rfl
@[simp] theorem eqD_none : eqD .none .none = some true := rfl
@[simp] theorem cmp_eq (a b : PyData) : cmpD .Eq a b = eqD a b := by cases a <;> cases b <;> rfl
@[simp] theorem cmp_ne (a b : PyData) : cmpD .NotEq a b = (eqD a b).map not := by cases a <;> cases b <;> rfl
@[simp] theorem cmp_lt (a b : Int) : cmpD .Lt (.int a) (.int b) = some (decide (a < b)) := rfl
@[simp] theorem cmp_le (a b : Int) : cmpD .LtE (.int a) (.int b) = some (decide (a ≤ b)) := rfl
@[simp] theorem cmp_gt (a b : Int) : cmpD .Gt (.int a) (.int b) = some (decide (b < a)) := rfl
@[simp] theorem cmp_ge (a b : Int) : cmpD .GtE (.int a) (.int b) = some (decide (b ≤ a)) := rfl
@[simp] theorem bin_add (a b : Int) : binD .Add (.int a) (.int b) = some (.fz, .int (a + b)) := rfl
@[simp] theorem bin_sub (a b : Int) : binD .Sub (.int a) (.int b) = some (.fz, .int (a - b)) := rfl
@[simp] theorem bi_lenL (xs : List PyData) : biD .len [.list xs] = some (.fz, .int xs.length) := rfl
@[simp] theorem bi_lenT (xs : List PyData) : biD .len [.tuple xs] = some (.fz, .int xs.length) := rfl
@[simp] theorem bi_intI (i : Int) : biD .int [.int i] = some (.fz, .int i) := rfl
theorem bin_mul {a b : Int} (h : (-(2 ^ 64) < a ∧ a < 2 ^ 64) ∨ (-(2 ^ 64) < b ∧ b < 2 ^ 64)) : binD .Mult (.int a) (.int b) = some (.fz, .int (a * b)) := if_pos h
theorem bin_mod {a b : Int} (h : 0 < b) : binD .Mod (.int a) (.int b) = some (.fz, .int (a % b)) := if_pos h
theorem bin_fdiv {a b : Int} (h : 0 < b ∧ b < 1073741824) : binD .FloorDiv (.int a) (.int b) = some (.fz, .int (a / b)) := if_pos h
theorem bin_catT {xs ys : List PyData} (h : xs.length + ys.length ≤ lineN) : binD .Add (.tuple xs) (.tuple ys) = some (.fz, .tuple (xs ++ ys)) := if_pos (decide_eq_true h)
theorem bin_catL {xs ys : List PyData} (h : xs.length + ys.length ≤ lineN) : binD .Add (.list xs) (.list ys) = some (.o1, .list (xs ++ ys)) := if_pos (decide_eq_true h)
theorem intsD_map (ns : List Int) : intsD (ns.map PyData.int) = some ns := by
  induction ns with
  | nil => rfl
  | cons n ns ih => show (intsD (ns.map PyData.int)).map (n :: ·) = _; rw [ih]; rfl
theorem boolsD_map (ns : List Bool) : boolsD (ns.map PyData.bool) = some ns := by
  induction ns with
  | nil => rfl
  | cons n ns ih => show (boolsD (ns.map PyData.bool)).map (n :: ·) = _; rw [ih]; rfl
theorem bi_all (bs : List Bool) : biD .all [.list (bs.map PyData.bool)] = some (.fz, .bool (bs.all id)) := by
  show (boolsD _).map _ = _
  rw [boolsD_map]; rfl
theorem atD_get {α : Type} {xs : List α} {i : Nat} {x : α} (h : xs[i]? = some x) : atD xs (i : Int) = some x := by
  have hl := (List.getElem?_eq_some_iff.mp h).1
  unfold atD ixI
  rw [if_pos (by omega), if_pos (by omega)]
  exact h

/-! ### loops -/
theorem wipeE_wipeE (s : En) : ∀ own : List Nat, wipeE (wipeE s own) own = wipeE s own := by
  have key : ∀ (vs : List Nat) (s : En) (j : Nat), (wipeE s vs)[j]? = if j ∈ vs ∧ j < s.length then some none else s[j]? := by
    intro vs
    induction vs with
    | nil => intro s j; simp [wipeE]
    | cons v vs ih =>
      intro s j
      have hl : ∀ (vs : List Nat) (s : En), (wipeE s vs).length = s.length := by
        intro vs
        induction vs with
        | nil => intro s; rfl
        | cons v vs ih => intro s; show ((wipeE s vs).set v none).length = _; rw [List.length_set, ih]
      show ((wipeE s vs).set v none)[j]? = _
      rw [List.getElem?_set, hl, ih]
      by_cases e : v = j
      · subst e
        by_cases h : v < s.length
        · simp [h]
        · simp [h, List.getElem?_eq_none (Nat.le_of_not_lt h)]
      · have e' : ¬ j = v := fun z => e z.symm
        simp [e, e']
  intro own
  refine List.ext_getElem? fun j => ?_
  have hl : ∀ (vs : List Nat) (s : En), (wipeE s vs).length = s.length := by
    intro vs
    induction vs with
    | nil => intro s; rfl
    | cons v vs ih => intro s; show ((wipeE s vs).set v none).length = _; rw [List.length_set, ih]
  rw [key, key, hl]
  split <;> simp_all
/-- the slots but own's are alike: the first's are put back -/
theorem restE_eq {own : List Nat} {s s' : En} (h : wipeE s' own = wipeE s own) : restE s s' own = s := by
  have hlw : ∀ (vs : List Nat) (s : En), (wipeE s vs).length = s.length := by
    intro vs
    induction vs with
    | nil => intro s; rfl
    | cons v vs ih => intro s; show ((wipeE s vs).set v none).length = _; rw [List.length_set, ih]
  have hout : ∀ (vs : List Nat) (s : En) (j : Nat), j ∉ vs → (wipeE s vs)[j]? = s[j]? := by
    intro vs
    induction vs with
    | nil => intro s j _; rfl
    | cons v vs ih =>
      intro s j hj
      rw [List.mem_cons, not_or] at hj
      show ((wipeE s vs).set v none)[j]? = _
      rw [List.getElem?_set_ne (Ne.symm hj.1), ih s j hj.2]
  have hl : s'.length = s.length := by rw [← hlw own s', h, hlw]
  have key : ∀ (vs : List Nat) (j : Nat), (restE s s' vs)[j]? = if j ∈ vs then s[j]? else s'[j]? := by
    intro vs
    have hlr : ∀ vs : List Nat, (restE s s' vs).length = s'.length := by
      intro vs
      induction vs with
      | nil => rfl
      | cons v vs ih => show ((restE s s' vs).set v _).length = _; rw [List.length_set, ih]
    induction vs with
    | nil => intro j; simp [restE]
    | cons v vs ih =>
      intro j
      show ((restE s s' vs).set v ((s[v]?).getD none))[j]? = _
      rw [List.getElem?_set, hlr, ih]
      by_cases e : v = j
      · subst e
        by_cases hv : v < s.length
        · simp [hl, hv, List.getElem?_eq_getElem hv]
        · simp [hl, hv, List.getElem?_eq_none (Nat.le_of_not_lt hv)]
      · have e' : ¬ j = v := fun z => e z.symm
        simp [e, e']
  refine List.ext_getElem? fun j => ?_
  rw [key]
  split
  · rfl
  · rename_i hj
    rw [← hout own s' j hj, h, hout own s j hj]
/-- one turn of a comprehension whose block changes no other slot -/
inductive Turn1 (two : Bool) (own : List Nat) (bnd : PyData → En → Option En) (test : En → Rs Bool) (elt : En → Rs MD) (σ : En) (x : PyData) : Option PyData → Prop
  | out (s1 s2 : En) (h1 : bnd x σ = some s1) (h2 : test s1 = .ok false s2) (h3 : wipeE s2 own = σ) : Turn1 two own bnd test elt σ x none
  | inn (s1 s2 s3 : En) (m : Md) (d : PyData) (h1 : bnd x σ = some s1) (h2 : test s1 = .ok true s2) (h3 : elt s2 = .ok (m, d) s3) (h4 : ((two && decide (m ≠ .o1)) || m.isB) = false) (h5 : wipeE s3 own = σ) : Turn1 two own bnd test elt σ x (some d)
theorem compL_run {two : Bool} {own : List Nat} {bnd : PyData → En → Option En} {test : En → Rs Bool} {elt : En → Rs MD} {σ : En} (f : PyData → Option PyData) : ∀ (xs acc : List PyData) (s : En), wipeE s own = σ → (∀ x ∈ xs, Turn1 two own bnd test elt σ x (f x)) →
    ∃ s', compL two own bnd test elt xs acc s = .ok (acc ++ xs.filterMap f) s' ∧ wipeE s' own = σ
  | [], acc, s, hs, _ => ⟨s, by rw [List.filterMap_nil, List.append_nil]; rfl, hs⟩
  | x :: xs, acc, s, hs, h => by
    have hx := h x List.mem_cons_self
    have hr := fun y hy => h y (List.mem_cons_of_mem _ hy)
    unfold compL
    rw [hs]
    cases e : f x with
    | none =>
      rw [e] at hx
      cases hx with
      | out s1 s2 h1 h2 h3 =>
        rw [h1]
        simp only [h2]
        obtain ⟨s', e1, e2⟩ := compL_run f xs acc s2 h3 hr
        exact ⟨s', by rw [e1, List.filterMap_cons_none e], e2⟩
    | some d =>
      rw [e] at hx
      cases hx with
      | inn s1 s2 s3 m _ h1 h2 h3 h4 h5 =>
        rw [h1]
        simp only [h2, h3, h4]
        obtain ⟨s', e1, e2⟩ := compL_run f xs (acc ++ [d]) s3 h5 hr
        exact ⟨s', by rw [if_neg Bool.false_ne_true, e1, List.filterMap_cons_some e, List.append_assoc]; rfl, e2⟩
/-- a whole comprehension, run -/
theorem comp_run {G : List Info} {two : Bool} {own : List Nat} {elt : Ce} {tg : Tg} {sk : Sk} {ses ifs : Ces} {s s1 : En} {vs : List MD} {xs : List PyData} {b : Bool} (f : PyData → Option PyData) (h1 : evs G ses s = .ok vs s1) (h2 : itemsD sk vs = some (xs, b)) (h3 : ((b && !(qt elt && qts ifs)) || own.any (heldE s1)) = false)
    (h4 : ∀ x ∈ xs, Turn1 two own (bindT tg) (fun s => evTs G ifs s) (fun s => ev G elt s) (wipeE s1 own) x (f x)) : ev G (.comp two own elt tg sk ses ifs) s = .ok (if two = true then .o2 else .o1, .list (xs.filterMap f)) s1 := by
  obtain ⟨s', e1, e2⟩ := compL_run f xs [] s1 rfl h4
  show ((evs G ses s).bind fun vs s1 => match itemsD sk vs with
    | none => Rs.no
    | some (xs, b) => if ((b && !(qt elt && qts ifs)) || own.any (heldE s1)) = true then Rs.no else
      (compL two own (bindT tg) (fun s => evTs G ifs s) (fun s => ev G elt s) xs [] s1).bind fun acc s2 => Rs.ok ((if two = true then Md.o2 else Md.o1, PyData.list acc) : MD) (restE s1 s2 own)) = _
  rw [h1]
  show (match itemsD sk vs with
    | none => Rs.no
    | some (xs, b) => if ((b && !(qt elt && qts ifs)) || own.any (heldE s1)) = true then Rs.no else
      (compL two own (bindT tg) (fun s => evTs G ifs s) (fun s => ev G elt s) xs [] s1).bind fun acc s2 => Rs.ok ((if two = true then Md.o2 else Md.o1, PyData.list acc) : MD) (restE s1 s2 own)) = _
  rw [h2]
  show (if ((b && !(qt elt && qts ifs)) || own.any (heldE s1)) = true then Rs.no else
      (compL two own (bindT tg) (fun s => evTs G ifs s) (fun s => ev G elt s) xs [] s1).bind fun acc s2 => Rs.ok ((if two = true then Md.o2 else Md.o1, PyData.list acc) : MD) (restE s1 s2 own)) = _
  rw [h3, if_neg Bool.false_ne_true, e1, List.nil_append]
  show Rs.ok _ (restE s1 s' own) = _
  rw [restE_eq e2]
/-- a for loop by an invariant that tells the slots: st i is the state behind i turns -/
theorem forL_run {bnd : PyData → En → Option En} {body : En → Rs Fl} : ∀ (xs : List PyData) (st : Nat → En → Prop) (k : Nat) (s : En), st k s → (∀ i x s, xs[i]? = some x → st (k + i) s → ∃ s1 s2, bnd x s = some s1 ∧ (body s1 = .ok .nx s2 ∨ body s1 = .ok .ct s2) ∧ st (k + i + 1) s2) → ∃ s', forL bnd body xs s = .ok .nx s' ∧ st (k + xs.length) s'
  | [], st, k, s, h, _ => ⟨s, rfl, h⟩
  | x :: xs, st, k, s, h, hs => by
    obtain ⟨s1, s2, h1, h2, h3⟩ := hs 0 x s rfl h
    obtain ⟨s', e1, e2⟩ := forL_run xs st (k + 1) s2 h3 fun i y s hi hst => by
      have := hs (i + 1) y s hi (by rw [show k + (i + 1) = k + 1 + i by omega]; exact hst)
      rw [show k + (i + 1) + 1 = k + 1 + i + 1 by omega] at this
      exact this
    refine ⟨s', ?_, by rw [show k + (x :: xs).length = k + 1 + xs.length by rw [List.length_cons]; omega]; exact e2⟩
    unfold forL
    rw [h1]
    rcases h2 with h2 | h2
    · simp only [h2]; exact e1
    · simp only [h2]; exact e1
theorem for_run {G : List Info} {tg : Tg} {sk : Sk} {ses : Ces} {body : Css} {s s1 : En} {vs : List MD} {xs : List PyData} (st : Nat → En → Prop) (h1 : evs G ses s = .ok vs s1) (h2 : itemsD sk vs = some (xs, false)) (h3 : st 0 s1)
    (h4 : ∀ i x s, xs[i]? = some x → st i s → ∃ s1 s2, bindT tg x s = some s1 ∧ (exs G body s1 = .ok .nx s2 ∨ exs G body s1 = .ok .ct s2) ∧ st (i + 1) s2) : ∃ s', ex G (.for tg sk ses body) s = .ok .nx s' ∧ st xs.length s' := by
  obtain ⟨s', e1, e2⟩ := forL_run (bnd := bindT tg) (body := fun s => exs G body s) xs st 0 s1 h3 (fun i x s hx hst => by
    rw [Nat.zero_add] at hst ⊢
    exact h4 i x s hx hst)
  refine ⟨s', ?_, by rw [Nat.zero_add] at e2; exact e2⟩
  show ((evs G ses s).bind fun vs s1 => match itemsD sk vs with
    | some (xs, false) => forL (bindT tg) (fun s => exs G body s) xs s1
    | _ => .no) = _
  rw [h1]
  show (match itemsD sk vs with
    | some (xs, false) => forL (bindT tg) (fun s => exs G body s) xs s1
    | _ => Rs.no) = _
  rw [h2]
  exact e1
/-- a for loop that may return -/
theorem forL_ret {bnd : PyData → En → Option En} {body : En → Rs Fl} {v : MD} : ∀ (xs : List PyData) (st : Nat → En → Prop) (k n : Nat) (x : PyData) (s : En), st k s → xs[n]? = some x → (∀ i y s, i < n → xs[i]? = some y → st (k + i) s → ∃ s1 s2, bnd y s = some s1 ∧ (body s1 = .ok .nx s2 ∨ body s1 = .ok .ct s2) ∧ st (k + i + 1) s2) →
    (∀ s, st (k + n) s → ∃ s1 s2, bnd x s = some s1 ∧ body s1 = .ok (.rt v) s2) → ∃ s', forL bnd body xs s = .ok (.rt v) s'
  | [], st, k, n, x, s, h, hx, _, _ => by simp at hx
  | y :: xs, st, k, 0, x, s, h, hx, _, hr => by
    have e : y = x := Option.some.inj hx
    subst e
    obtain ⟨s1, s2, h1, h2⟩ := hr s h
    refine ⟨s2, ?_⟩
    unfold forL
    rw [h1]
    simp only [h2]
  | y :: xs, st, k, n + 1, x, s, h, hx, hs, hr => by
    obtain ⟨s1, s2, h1, h2, h3⟩ := hs 0 y s (Nat.succ_pos n) rfl h
    obtain ⟨s', e1⟩ := forL_ret xs st (k + 1) n x s2 h3 hx (fun i z s hi hz hst => by
      have := hs (i + 1) z s (Nat.succ_lt_succ hi) hz (by rw [show k + (i + 1) = k + 1 + i by omega]; exact hst)
      rw [show k + (i + 1) + 1 = k + 1 + i + 1 by omega] at this
      exact this) (fun s hst => hr s (by rw [show k + (n + 1) = k + 1 + n by omega]; exact hst))
    refine ⟨s', ?_⟩
    unfold forL
    rw [h1]
    rcases h2 with h2 | h2
    · simp only [h2]; exact e1
    · simp only [h2]; exact e1
theorem rangeD0_at {n : Nat} {i : Nat} {d : PyData} (h : (rangeD 0 n)[i]? = some d) : d = .int i ∧ i < n := by
  unfold rangeD at h
  rw [List.getElem?_map] at h
  obtain ⟨m, hm, rfl⟩ := Option.map_eq_some_iff.mp h
  obtain ⟨hl, hm⟩ := List.getElem?_eq_some_iff.mp hm
  rw [List.getElem_range] at hm
  subst hm
  rw [List.length_range] at hl
  exact ⟨by rw [Int.zero_add], by omega⟩
theorem rangeD0_len (n : Nat) : (rangeD 0 n).length = n := by
  unfold rangeD
  rw [List.length_map, List.length_range]
  omega
theorem rangeD0 (n : Nat) : rangeD 0 n = (List.range n).map fun i => PyData.int (i : Nat) := by
  unfold rangeD
  have : ((n : Int) - 0).toNat = n := by omega
  rw [this]
  exact List.map_congr_left fun i _ => by rw [Int.zero_add]
theorem okRg0 {n : Nat} (h : n ≤ lineN) : okRg 0 n = true := by
  have : lineN = 16777216 := rfl
  unfold okRg
  exact decide_eq_true (by omega)
theorem items_rng (m : Md) {n : Nat} (h : n ≤ lineN) : itemsD .rng1 [(m, .int n)] = some (rangeD 0 n, false) := by
  show (if okRg 0 n = true then some (rangeD 0 n, false) else none) = _
  rw [okRg0 h, if_pos rfl]
/-! ### a body, statement by statement -/
section
variable {G : List Info} {c : Cs} {cs : Css} {s s1 : En} {v o : MD} {x : Xn}
theorem exs_nx (h : ex G c s = .ok .nx s1) : exs G (.cons c cs) s = exs G cs s1 := by
  show (match ex G c s with
    | .ok .nx s1 => exs G cs s1
    | r => r) = _
  rw [h]
theorem exs_rt (h : ex G c s = .ok (.rt v) s1) : exs G (.cons c cs) s = .ok (.rt v) s1 := by
  show (match ex G c s with
    | .ok .nx s1 => exs G cs s1
    | r => r) = _
  rw [h]
theorem exs_exc (h : ex G c s = .exc x s1) : exs G (.cons c cs) s = .exc x s1 := by
  show (match ex G c s with
    | .ok .nx s1 => exs G cs s1
    | r => r) = _
  rw [h]
theorem run_ret {n : Nat} {body : Css} {args : List MD} (h : exs G body (args.map some ++ List.replicate (n - args.length) none) = .ok (.rt v) s1) : runD G n 0 body args = .ret v [] := by
  unfold runD
  rw [h]
  rfl
theorem run_exc {n : Nat} {body : Css} {args : List MD} (h : exs G body (args.map some ++ List.replicate (n - args.length) none) = .exc x s1) : runD G n 0 body args = .exc x [] := by
  unfold runD
  rw [h]
  rfl
theorem run_ret1 {n : Nat} {body : Css} {args : List MD} (h : exs G body (args.map some ++ List.replicate (n - args.length) none) = .ok (.rt v) s1) (ho : s1[0]? = some (some o)) : runD G n 1 body args = .ret v [o] := by
  unfold runD
  rw [h]
  show (match (List.range 1).mapM fun i => (s1[i]?).bind id with
    | some outs => RC.ret v outs
    | none => .no) = _
  have e : ((List.range 1).mapM fun i => (s1[i]?).bind id) = some [o] := by
    show ([0] : List Nat).mapM _ = _
    rw [List.mapM_cons, List.mapM_nil, ho]
    rfl
  rw [e]
/-- if: the test known -/
theorem ex_if_t {cc : Ce} {a b : Css} (h : tbR (ev G cc s) = .ok true s1) : ex G (.ite cc a b) s = exs G a s1 := by
  show ((tbR (ev G cc s)).bind fun t s1 => if t = true then exs G a s1 else exs G b s1) = _
  rw [h]; rfl
theorem ex_if_f {cc : Ce} {a b : Css} (h : tbR (ev G cc s) = .ok false s1) : ex G (.ite cc a b) s = exs G b s1 := by
  show ((tbR (ev G cc s)).bind fun t s1 => if t = true then exs G a s1 else exs G b s1) = _
  rw [h]; rfl
theorem ex_ret {c : Ce} (h : ev G c s = .ok v s1) (hb : v.1.isB = false) : ex G (.ret c) s = .ok (.rt v) s1 := by
  show (keepR (ev G c s)).bind (fun v s1 => Rs.ok (Fl.rt v) s1) = _
  rw [h]
  show (if v.1.isB = true then Rs.no else Rs.ok v s1).bind _ = _
  rw [hb]; rfl
theorem ex_set {c : Ce} {i : Nat} (h : ev G c s = .ok v s1) (hb : v.1.isB = false) : ex G (.asg (.nm i) c) s = .ok .nx (s1.set i (some v)) := by
  show (keepR (ev G c s)).bind (fun v s1 => Rs.ok Fl.nx (s1.set i (some v))) = _
  rw [h]
  show (if v.1.isB = true then Rs.no else Rs.ok v s1).bind _ = _
  rw [hb]; rfl
end
theorem lineN_val : lineN = 16777216 := rfl
/-! ### subscripts -/
theorem atD_eq {xs : List PyData} {i : Nat} {d : PyData} (h : xs[i]? = some d) {z : Int} (hz : z = i) : atD xs z = some d := by subst hz; exact atD_get h
theorem ixT {m m' : Md} {xs : List PyData} {z : Int} {i : Nat} {d : PyData} (hz : z = i) (h : xs[i]? = some d) : ixR (m, .tuple xs) (m', .int z) = some (.fz, d) := by
  show (atD xs z).map (fun d => ((Md.fz, d) : MD)) = _
  rw [atD_eq h hz]; rfl
theorem ixL {m m' : Md} {xs : List PyData} {z : Int} {i : Nat} {d : PyData} (hm : m.is2 = false) (hz : z = i) (h : xs[i]? = some d) : ixR (m, .list xs) (m', .int z) = some (.fz, d) := by
  show ((atD xs z).bind fun d => match m with
    | .b2 => some (if imm d = true then Md.fz else Md.b1, d)
    | .o2 => if imm d = true then some (Md.fz, d) else none
    | _ => some (Md.fz, d)) = _
  rw [atD_eq h hz]
  cases m <;> first | rfl | cases hm
@[simp] theorem ixT0 (m m' : Md) (d : PyData) (ds : List PyData) : ixR (m, .tuple (d :: ds)) (m', .int 0) = some (.fz, d) := ixT (i := 0) rfl rfl
@[simp] theorem ixT1 (m m' : Md) (d0 d : PyData) (ds : List PyData) : ixR (m, .tuple (d0 :: d :: ds)) (m', .int 1) = some (.fz, d) := ixT (i := 1) rfl rfl
@[simp] theorem ixT2 (m m' : Md) (d0 d1 d : PyData) (ds : List PyData) : ixR (m, .tuple (d0 :: d1 :: d :: ds)) (m', .int 2) = some (.fz, d) := ixT (i := 2) rfl rfl
theorem ixTm {m m' : Md} {α : Type} {enc : α → PyData} {xs : List α} {i : Nat} {x : α} (h : xs[i]? = some x) : ixR (m, .tuple (xs.map enc)) (m', .int (i : Nat)) = some (.fz, enc x) := ixT (i := i) rfl (by rw [List.getElem?_map, h]; rfl)
theorem ixLm {m m' : Md} {α : Type} {enc : α → PyData} {xs : List α} {i : Nat} {x : α} (hm : m.is2 = false) (h : xs[i]? = some x) : ixR (m, .list (xs.map enc)) (m', .int (i : Nat)) = some (.fz, enc x) := ixL (i := i) hm rfl (by rw [List.getElem?_map, h]; rfl)
theorem le_line {n : Nat} (h : n ≤ 1000000) : n ≤ lineN := by
  rw [lineN_val]
  exact Nat.le_trans h (by decide)
/-! ### and, or -/
section
variable {G : List Info} {c c' : Ce} {cs : Ces} {s s1 : En}
theorem and_t (h : tbR (ev G c s) = .ok true s1) : ev G (.and (.cons c (.cons c' cs))) s = ev G (.and (.cons c' cs)) s1 := by
  show (tbR (ev G c s)).bind (fun b s1 => if b = true then evAnd G (.cons c' cs) s1 else Rs.ok (fzv (.bool false)) s1) = _
  rw [h]; rfl
theorem and_f (h : tbR (ev G c s) = .ok false s1) : ev G (.and (.cons c (.cons c' cs))) s = .ok (.fz, .bool false) s1 := by
  show (tbR (ev G c s)).bind (fun b s1 => if b = true then evAnd G (.cons c' cs) s1 else Rs.ok (fzv (.bool false)) s1) = _
  rw [h]; rfl
theorem and_1 : ev G (.and (.cons c .nil)) s = ev G c s := rfl
theorem or_t (h : tbR (ev G c s) = .ok true s1) : ev G (.or (.cons c (.cons c' cs))) s = .ok (.fz, .bool true) s1 := by
  show (tbR (ev G c s)).bind (fun b s1 => if b = true then Rs.ok (fzv (.bool true)) s1 else evOr G (.cons c' cs) s1) = _
  rw [h]; rfl
theorem or_f (h : tbR (ev G c s) = .ok false s1) : ev G (.or (.cons c (.cons c' cs))) s = ev G (.or (.cons c' cs)) s1 := by
  show (tbR (ev G c s)).bind (fun b s1 => if b = true then Rs.ok (fzv (.bool true)) s1 else evOr G (.cons c' cs) s1) = _
  rw [h]; rfl
theorem or_1 : ev G (.or (.cons c .nil)) s = ev G c s := rfl
theorem bi_run {b : Bi} {m : Md} {d : PyData} {r : MD} (h : ev G c s = .ok (m, d) s1) (hm : (m.is2 && decide (b ≠ .len)) = false) (hr : biD b [d] = some r) : ev G (.bi b (.cons c .nil)) s = .ok r s1 := by
  show ((ev G c s).bind fun x s1 => if (x.1.isB && !qts .nil) = true then .no else (evs G .nil s1).bind fun xs s2 => .ok (x :: xs) s2).bind (fun vs s1 => if (vs.any (·.1.is2) && decide (b ≠ .len)) = true then Rs.no else ofO (biD b (vs.map (·.2))) s1) = _
  rw [h]
  show ((if (m.isB && !true) = true then Rs.no else Rs.ok [(m, d)] s1).bind _) = _
  rw [show (m.isB && !true) = false from Bool.and_false _, if_neg Bool.false_ne_true]
  show (if ([(m, d)].any (·.1.is2) && decide (b ≠ .len)) = true then Rs.no else ofO (biD b [d]) s1) = _
  rw [show [(m, d)].any (·.1.is2) = m.is2 from Bool.or_false _, hm, if_neg Bool.false_ne_true, hr]
  rfl
end
/-! ### the other constructs, run -/
section
variable {G : List Info} {a b c : Ce} {cs : Ces} {s s1 s2 s3 : En} {x y r : MD} {vs : List MD}
theorem run_cmp {op : CmpOp} {t : Bool} (ha : ev G a s = .ok x s1) (hb : ev G b s1 = .ok y s2) (hq : (x.1.isB && !qt b) = false) (h : cmpD op x.2 y.2 = some t) : ev G (.cmp op a b) s = .ok (.fz, .bool t) s2 := by
  show ((ev G a s).bind fun x s1 => if (x.1.isB && !qt b) = true then Rs.no else (ev G b s1).bind fun y s2 => (ofO (cmpD op x.2 y.2) s2).bind fun r s3 => .ok (fzv (.bool r)) s3) = _
  rw [ha, bind_ok, hq, if_neg Bool.false_ne_true, hb, bind_ok, h]
  rfl
theorem run_bin {op : Operator} (ha : ev G a s = .ok x s1) (hb : ev G b s1 = .ok y s2) (hq : (x.1.isB && !qt b) = false) (h2 : (x.1.is2 || y.1.is2) = false) (h : binD op x.2 y.2 = some r) : ev G (.bin op a b) s = .ok r s2 := by
  show ((ev G a s).bind fun x s1 => if (x.1.isB && !qt b) = true then Rs.no else (ev G b s1).bind fun y s2 => if (x.1.is2 || y.1.is2) = true then .no else ofO (binD op x.2 y.2) s2) = _
  rw [ha, bind_ok, hq, if_neg Bool.false_ne_true, hb, bind_ok, h2, if_neg Bool.false_ne_true, h]
  rfl
theorem run_ix (ha : ev G a s = .ok x s1) (hb : ev G b s1 = .ok y s2) (hq : (x.1.isB && !qt b) = false) (h : ixR x y = some r) : ev G (.ix a b) s = .ok r s2 := by
  show ((ev G a s).bind fun x s1 => if (x.1.isB && !qt b) = true then Rs.no else (ev G b s1).bind fun y s2 => ofO (ixR x y) s2) = _
  rw [ha, bind_ok, hq, if_neg Bool.false_ne_true, hb, bind_ok, h]
  rfl
theorem run_evs0 : evs G .nil s = .ok [] s := rfl
theorem run_evs (ha : ev G a s = .ok x s1) (hb : evs G cs s1 = .ok vs s2) (hq : (x.1.isB && !qts cs) = false) : evs G (.cons a cs) s = .ok (x :: vs) s2 := by
  show ((ev G a s).bind fun x s1 => if (x.1.isB && !qts cs) = true then Rs.no else (evs G cs s1).bind fun xs s2 => .ok (x :: xs) s2) = _
  rw [ha, bind_ok, hq, if_neg Bool.false_ne_true, hb]
  rfl
theorem run_call {g : Nat} {i : Info} {ios : List Nat} (ha : evs G cs s = .ok vs s1) (hn : vs.any (·.1.isB) = false) (hi : G[g]? = some i) (h : callR i ios vs s1 = .ok r s2) (hs : ios.all (hasE s) = true) : ev G (.call g ios cs) s = .ok r s2 := by
  show (if ios.all (hasE s) = true then (evs G cs s).bind fun vs s1 => if vs.any (·.1.isB) = true then Rs.no else (match G[g]? with
    | none => .no
    | some i => callR i ios vs s1) else .no) = _
  rw [if_pos hs, ha, bind_ok, hn, if_neg Bool.false_ne_true, hi]
  exact h
theorem run_call_exc {g : Nat} {i : Info} {ios : List Nat} {e : Xn} (ha : evs G cs s = .ok vs s1) (hn : vs.any (·.1.isB) = false) (hi : G[g]? = some i) (h : callR i ios vs s1 = .exc e s2) (hs : ios.all (hasE s) = true) : ev G (.call g ios cs) s = .exc e s2 := by
  show (if ios.all (hasE s) = true then (evs G cs s).bind fun vs s1 => if vs.any (·.1.isB) = true then Rs.no else (match G[g]? with
    | none => .no
    | some i => callR i ios vs s1) else .no) = _
  rw [if_pos hs, ha, bind_ok, hn, if_neg Bool.false_ne_true, hi]
  exact h
theorem run_not {t : Bool} (ha : tbR (ev G a s) = .ok t s1) : ev G (.not a) s = .ok (.fz, .bool (!t)) s1 := by
  show ((tbR (ev G a s)).bind fun b s1 => Rs.ok (fzv (.bool (!b))) s1) = _
  rw [ha]; rfl
theorem run_tb {m : Md} {t : Bool} (ha : ev G a s = .ok (m, .bool t) s1) : tbR (ev G a s) = .ok t s1 := by rw [ha]; rfl
theorem run_isi {tys : List Ty} (ha : ev G a s = .ok x s1) : ev G (.isi a tys) s = .ok (.fz, .bool (tys.any (tyD x.2))) s1 := by
  show ((ev G a s).bind fun x s1 => Rs.ok (fzv (.bool (tys.any (tyD x.2)))) s1) = _
  rw [ha]; rfl
theorem run_tup (ha : evs G cs s = .ok vs s1) (hn : vs.any (·.1.isB) = false) (hl : okLen vs.length = true) : ev G (.tup cs) s = .ok (.fz, .tuple (vs.map (·.2))) s1 := by
  show ((evs G cs s).bind fun vs s1 => if vs.any (·.1.isB) = true then Rs.no else if okLen vs.length = true then .ok (fzv (.tuple (vs.map (·.2)))) s1 else .no) = _
  rw [ha, bind_ok, hn, if_neg Bool.false_ne_true, if_pos hl]
  rfl
theorem run_ite {t : Bool} (hc : tbR (ev G c s) = .ok t s1) : ev G (.ite c a b) s = if t = true then ev G a s1 else ev G b s1 := by
  show ((tbR (ev G c s)).bind fun t s1 => if t = true then ev G a s1 else ev G b s1) = _
  rw [hc]; rfl
end
/-! ### names -/
section
variable {G : List Info} {s : En} {i : Nat} {m : Md} {d : PyData}
theorem run_var (h : s[i]? = some (some (.fz, d))) : ev G (.var i) s = .ok (.fz, d) s := by
  show rdv i s = _
  unfold rdv
  rw [h]; rfl
theorem run_varO (h : s[i]? = some (some (.o1, d))) : ev G (.var i) s = .ok (.b1, d) s := by
  show rdv i s = _
  unfold rdv
  rw [h]; rfl
theorem run_var2 (h : s[i]? = some (some (.o2, d))) : ev G (.var i) s = .ok (.b2, d) s := by
  show rdv i s = _
  unfold rdv
  rw [h]; rfl
theorem run_frz (h : s[i]? = some (some (.fz, d))) : ev G (.frz i) s = .ok (.fz, d) s := by
  show frv i s = _
  unfold frv
  rw [h]
theorem run_frzO (h : s[i]? = some (some (.o1, d))) : ev G (.frz i) s = .ok (.fz, d) (s.set i (some (.fz, d))) := by
  show frv i s = _
  unfold frv
  rw [h]
theorem run_mv (h : s[i]? = some (some (m, d))) : ev G (.mv i) s = .ok (m, d) (s.set i none) := by
  show mvv i s = _
  unfold mvv
  rw [h]
theorem run_int {n : Int} : ev G (.int n) s = .ok (.fz, .int n) s := rfl
theorem run_str {n : Str} : ev G (.str n) s = .ok (.fz, .str n) s := rfl
theorem run_bl {n : Bool} : ev G (.bl n) s = .ok (.fz, .bool n) s := rfl
theorem run_non : ev G .non s = .ok (.fz, .none) s := rfl
theorem run_glo {x : Str} {n : Int} : ev G (.glo x n) s = .ok (.fz, .int n) s := rfl
end
end DV

set_option Elab.async false
set_option linter.all false
set_option maxRecDepth 100000
set_option maxHeartbeats 2000000
/-! DV29: weakest preconditions over the core. -/
namespace DV
open PySem

section
variable {α β : Type}
/-- the run ends well with Q, or raises with X -/
inductive Wp (Q : α → En → Prop) (X : Xn → En → Prop) : Rs α → Prop
  | ok {a : α} {s : En} (h : Q a s) : Wp Q X (.ok a s)
  | exc {x : Xn} {s : En} (h : X x s) : Wp Q X (.exc x s)
inductive WpC (Q : MD → List MD → Prop) (X : Xn → List MD → Prop) : RC → Prop
  | ret {v : MD} {os : List MD} (h : Q v os) : WpC Q X (.ret v os)
  | exc {x : Xn} {os : List MD} (h : X x os) : WpC Q X (.exc x os)
theorem wpc_no {Q : MD → List MD → Prop} {X : Xn → List MD → Prop} (h : WpC Q X .no) : False := nomatch h
theorem wpc_r {Q : MD → List MD → Prop} {X : Xn → List MD → Prop} {v : MD} {os : List MD} (h : WpC Q X (.ret v os)) : Q v os := by cases h with | ret h => exact h
theorem wpc_x {Q : MD → List MD → Prop} {X : Xn → List MD → Prop} {v : Xn} {os : List MD} (h : WpC Q X (.exc v os)) : X v os := by cases h with | exc h => exact h
/-- an optional result -/
def Wo (Q : α → Prop) (o : Option α) : Prop := ∃ r, o = some r ∧ Q r
/-- a side condition that computes -/
def Cq (b : Bool) (p : Prop) : Prop := b = false ∧ p
def Ct (b : Bool) (p : Prop) : Prop := b = true ∧ p
/-- a branch -/
def Ft (t : Bool) (p q : Prop) : Prop := (t = true → p) ∧ (t = false → q)
variable {Q : α → En → Prop} {X : Xn → En → Prop}
theorem wp_n (h : Wp Q X .no) : False := nomatch h
theorem wp_o {a : α} {s : En} (h : Wp Q X (.ok a s)) : Q a s := by cases h with | ok h => exact h
theorem wp_x {x : Xn} {s : En} (h : Wp Q X (.exc x s)) : X x s := by cases h with | exc h => exact h
theorem Wp.imp {Q' : α → En → Prop} {X' : Xn → En → Prop} {r : Rs α} (h : Wp Q X r) (hq : ∀ a s, Q a s → Q' a s) (hx : ∀ x s, X x s → X' x s) : Wp Q' X' r := by
  cases r with
  | ok a s => exact .ok (hq a s (wp_o h))
  | exc x s => exact .exc (hx x s (wp_x h))
  | no => exact (wp_n h).elim
theorem Wp.imq {Q' : α → En → Prop} {r : Rs α} (h : Wp Q X r) (hq : ∀ a s, Q a s → Q' a s) : Wp Q' X r := h.imp hq fun _ _ z => z
theorem Wp.bind {Q : β → En → Prop} {r : Rs α} {k : α → En → Rs β} (h : Wp (fun a s => Wp Q X (k a s)) X r) : Wp Q X (r.bind k) := by
  cases r with
  | ok a s => exact wp_o h
  | exc x s => exact .exc (wp_x h)
  | no => exact (wp_n h).elim
theorem wp_ok {a : α} {s : En} (h : Q a s) : Wp Q X (.ok a s) := .ok h
theorem wp_exc {x : Xn} {s : En} (h : X x s) : Wp Q X (.exc x s) := .exc h
theorem wp_eq {r r' : Rs α} (e : r = r') (h : Wp Q X r') : Wp Q X r := e ▸ h
theorem wp_eqo {r : Rs α} {a : α} {s : En} (e : r = .ok a s) (h : Q a s) : Wp Q X r := by subst e; exact .ok h
theorem wp_ofO {o : Option α} {s : En} (h : Wo (fun r => Q r s) o) : Wp Q X (ofO o s) := by
  obtain ⟨r, rfl, h⟩ := h
  exact .ok h
theorem wo_eq {P : α → Prop} {o : Option α} {r : α} (e : o = some r) (h : P r) : Wo P o := ⟨r, e, h⟩
theorem wo_some {P : α → Prop} {r : α} (h : P r) : Wo P (some r) := ⟨r, rfl, h⟩
theorem cq {p : Prop} {b : Bool} (e : b = false) (h : p) : Cq b p := ⟨e, h⟩
theorem ct {p : Prop} {b : Bool} (e : b = true) (h : p) : Ct b p := ⟨e, h⟩
theorem ft {p q : Prop} {t : Bool} (h : t = true → p) (h' : t = false → q) : Ft t p q := ⟨h, h'⟩
theorem ft_t {p q : Prop} (h : p) : Ft true p q := ⟨fun _ => h, fun z => nomatch z⟩
theorem ft_f {p q : Prop} (h : q) : Ft false p q := ⟨(fun z => nomatch z), fun _ => h⟩
theorem ft_d {p q : Prop} {c : Prop} [Decidable c] (h : c → p) (h' : ¬c → q) : Ft (decide c) p q := ⟨fun z => h (of_decide_eq_true z), fun z => h' (of_decide_eq_false z)⟩
theorem ft_n {p q : Prop} {t : Bool} (h : Ft t q p) : Ft (!t) p q := by
  cases t with
  | false => exact ⟨fun _ => h.2 rfl, (fun z => nomatch z)⟩
  | true => exact ⟨(fun z => nomatch z), fun _ => h.1 rfl⟩
theorem ft_is_t {p q : Prop} {t : Bool} (e : t = true) (h : p) : Ft t p q := ⟨fun _ => h, (fun z => nomatch e.symm.trans z)⟩
theorem ft_is_f {p q : Prop} {t : Bool} (e : t = false) (h : q) : Ft t p q := ⟨(fun z => nomatch e.symm.trans z), fun _ => h⟩
theorem Ft.of {p q : Prop} {t : Bool} {r : Bool} (e : t = r) (h : Ft r p q) : Ft t p q := e ▸ h
end

/-! the same, what decides first -/
def Ev (e : Ce) (G : List Info) (s : En) (Q : MD → En → Prop) (X : Xn → En → Prop) : Prop := Wp Q X (ev G e s)
def Es (e : Ces) (G : List Info) (s : En) (Q : List MD → En → Prop) (X : Xn → En → Prop) : Prop := Wp Q X (evs G e s)
def Eo (e : Co) (G : List Info) (s : En) (Q : Option Int → En → Prop) (X : Xn → En → Prop) : Prop := Wp Q X (evo G e s)
def Et (e : Ces) (G : List Info) (s : En) (Q : Bool → En → Prop) (X : Xn → En → Prop) : Prop := Wp Q X (evTs G e s)
def Ex (e : Cs) (G : List Info) (s : En) (Q : Fl → En → Prop) (X : Xn → En → Prop) : Prop := Wp Q X (ex G e s)
def Exs (e : Css) (G : List Info) (s : En) (Q : Fl → En → Prop) (X : Xn → En → Prop) : Prop := Wp Q X (exs G e s)
def Cl (i : Info) (vs : List MD) (ios : List Nat) (s : En) (Q : MD → En → Prop) (X : Xn → En → Prop) : Prop := Wp Q X (callR i ios vs s)
def Bn (o : Operator) (a b : PyData) (Q : MD → Prop) : Prop := Wo Q (binD o a b)
def Cm (o : CmpOp) (a b : PyData) (Q : Bool → Prop) : Prop := Wo Q (cmpD o a b)
def Iy (a b : MD) (Q : MD → Prop) : Prop := Wo Q (ixR a b)
def Bf (b : Bi) (ds : List PyData) (Q : MD → Prop) : Prop := Wo Q (biD b ds)
def It (k : Sk) (vs : List MD) (Q : List PyData × Bool → Prop) : Prop := Wo Q (itemsD k vs)

section
variable {G : List Info} {a b c c' : Ce} {cs es : Ces} {s s1 s2 : En} {i : Nat} {m : Md} {d : PyData} {Q : MD → En → Prop} {X : Xn → En → Prop}
/-! ### names, constants -/
theorem w_var (h : s[i]? = some (some (.fz, d))) (q : Q (.fz, d) s) : Ev (.var i) G s Q X := wp_eq (run_var h) (.ok q)
theorem w_var1 (h : s[i]? = some (some (.o1, d))) (q : Q (.b1, d) s) : Ev (.var i) G s Q X := wp_eq (run_varO h) (.ok q)
theorem w_var2 (h : s[i]? = some (some (.o2, d))) (q : Q (.b2, d) s) : Ev (.var i) G s Q X := wp_eq (run_var2 h) (.ok q)
theorem w_frz (h : s[i]? = some (some (.fz, d))) (q : Q (.fz, d) s) : Ev (.frz i) G s Q X := wp_eq (run_frz h) (.ok q)
theorem w_frz1 (h : s[i]? = some (some (.o1, d))) (q : Q (.fz, d) (s.set i (some (.fz, d)))) : Ev (.frz i) G s Q X := wp_eq (run_frzO h) (.ok q)
theorem w_mv (h : s[i]? = some (some (m, d))) (q : Q (m, d) (s.set i none)) : Ev (.mv i) G s Q X := wp_eq (run_mv h) (.ok q)
theorem w_int {n : Int} (q : Q (.fz, .int n) s) : Ev (.int n) G s Q X := Wp.ok q
theorem w_str {n : Str} (q : Q (.fz, .str n) s) : Ev (.str n) G s Q X := Wp.ok q
theorem w_bl {n : Bool} (q : Q (.fz, .bool n) s) : Ev (.bl n) G s Q X := Wp.ok q
theorem w_non (q : Q (.fz, .none) s) : Ev (.non) G s Q X := Wp.ok q
theorem w_glo {x : Str} {n : Int} (q : Q (.fz, .int n) s) : Ev (.glo x n) G s Q X := Wp.ok q
/-! ### operators -/
theorem w_bin {op : Operator} (h : Wp (fun x s1 => Cq (x.1.isB && !qt b) (Wp (fun y s2 => Cq (x.1.is2 || y.1.is2) (Wo (fun r => Q r s2) (binD op x.2 y.2))) X (ev G b s1))) X (ev G a s)) : Ev (.bin op a b) G s Q X := by
  show Wp Q X ((ev G a s).bind fun x s1 => if (x.1.isB && !qt b) = true then Rs.no else (ev G b s1).bind fun y s2 => if (x.1.is2 || y.1.is2) = true then .no else ofO (binD op x.2 y.2) s2)
  refine Wp.bind (h.imq fun x s1 h => ?_)
  rw [h.1, if_neg Bool.false_ne_true]
  refine Wp.bind (h.2.imq fun y s2 h => ?_)
  rw [h.1, if_neg Bool.false_ne_true]
  exact wp_ofO h.2
theorem w_neg (h : Wp (fun x s1 => ∃ m i, x = (m, .int i) ∧ Q (.fz, .int (-i)) s1) X (ev G a s)) : Ev (.neg a) G s Q X := by
  show Wp Q X ((ev G a s).bind fun x s1 => match x with
    | (_, .int i) => Rs.ok (fzv (.int (-i))) s1
    | _ => .no)
  refine Wp.bind (h.imq fun x s1 h => ?_)
  obtain ⟨m, i, rfl, h⟩ := h
  exact .ok h
theorem w_negI {n : Int} (q : Q (.fz, .int (-n)) s) : Ev (.neg (.int n)) G s Q X := Wp.ok q
theorem w_cmp {op : CmpOp} (h : Wp (fun x s1 => Cq (x.1.isB && !qt b) (Wp (fun y s2 => Wo (fun r => Q (.fz, .bool r) s2) (cmpD op x.2 y.2)) X (ev G b s1))) X (ev G a s)) : Ev (.cmp op a b) G s Q X := by
  show Wp Q X ((ev G a s).bind fun x s1 => if (x.1.isB && !qt b) = true then Rs.no else (ev G b s1).bind fun y s2 => (ofO (cmpD op x.2 y.2) s2).bind fun r s3 => .ok (fzv (.bool r)) s3)
  refine Wp.bind (h.imq fun x s1 h => ?_)
  rw [h.1, if_neg Bool.false_ne_true]
  refine Wp.bind (h.2.imq fun y s2 h => ?_)
  exact Wp.bind (wp_ofO (by obtain ⟨r, e, h⟩ := h; exact ⟨r, e, .ok h⟩))
theorem w_chn {op op' : CmpOp} (h : Wp (fun x s1 => Cq (x.1.isB && !qt b) (Wp (fun y s2 => Wo (fun r => Ft r (Cq (y.1.isB && !qt c) (Wp (fun z s4 => Wo (fun r' => Q (.fz, .bool r') s4) (cmpD op' y.2 z.2)) X (ev G c s2))) (Q (.fz, .bool false) s2)) (cmpD op x.2 y.2)) X (ev G b s1))) X (ev G a s)) : Ev (.chn op op' a b c) G s Q X := by
  show Wp Q X ((ev G a s).bind fun x s1 => if (x.1.isB && !qt b) = true then Rs.no else (ev G b s1).bind fun y s2 => (ofO (cmpD op x.2 y.2) s2).bind fun r s3 =>
    if r = true then (if (y.1.isB && !qt c) = true then .no else (ev G c s3).bind fun z s4 => (ofO (cmpD op' y.2 z.2) s4).bind fun r' s5 => .ok (fzv (.bool r')) s5) else .ok (fzv (.bool false)) s3)
  refine Wp.bind (h.imq fun x s1 h => ?_)
  rw [h.1, if_neg Bool.false_ne_true]
  refine Wp.bind (h.2.imq fun y s2 h => ?_)
  refine Wp.bind (wp_ofO ?_)
  obtain ⟨r, e, h⟩ := h
  refine ⟨r, e, ?_⟩
  cases r with
  | false => rw [if_neg Bool.false_ne_true]; exact .ok (h.2 rfl)
  | true =>
    rw [if_pos rfl]
    have h := h.1 rfl
    rw [h.1, if_neg Bool.false_ne_true]
    refine Wp.bind (h.2.imq fun z s4 h => ?_)
    exact Wp.bind (wp_ofO (by obtain ⟨r, e, h⟩ := h; exact ⟨r, e, .ok h⟩))
theorem w_tb {Q : Bool → En → Prop} {r : Rs MD} (h : Wp (fun v s => ∃ t, v.2 = .bool t ∧ Q t s) X r) : Wp Q X (tbR r) := by
  refine Wp.bind (h.imq fun v s h => ?_)
  obtain ⟨m, d⟩ := v
  obtain ⟨t, rfl, h⟩ := h
  exact .ok h
theorem w_not (h : Wp (fun v s1 => ∃ t, v.2 = .bool t ∧ Q (.fz, .bool (!t)) s1) X (ev G a s)) : Ev (.not a) G s Q X := by
  show Wp Q X ((tbR (ev G a s)).bind fun b s1 => .ok (fzv (.bool (!b))) s1)
  exact Wp.bind (w_tb (Q := fun b s1 => Wp Q X (.ok (fzv (.bool (!b))) s1)) (h.imq fun v s1 h => by obtain ⟨t, e, h⟩ := h; exact ⟨t, e, .ok h⟩))
theorem w_and1 (h : Wp Q X (ev G a s)) : Ev (.and (.cons a .nil)) G s Q X := h
theorem w_and (h : Wp (fun v s1 => ∃ t, v.2 = .bool t ∧ Ft t (Wp Q X (ev G (.and (.cons b cs)) s1)) (Q (.fz, .bool false) s1)) X (ev G a s)) : Ev (.and (.cons a (.cons b cs))) G s Q X := by
  show Wp Q X ((tbR (ev G a s)).bind (fun t s1 => if t = true then evAnd G (.cons b cs) s1 else Rs.ok (fzv (.bool false)) s1))
  refine Wp.bind (w_tb (Q := fun b' s1 => Wp Q X (if b' = true then evAnd G (.cons b cs) s1 else Rs.ok (fzv (.bool false)) s1)) (h.imq fun v s1 h => ?_))
  obtain ⟨t, e, h⟩ := h
  refine ⟨t, e, ?_⟩
  cases t with
  | false => exact .ok (h.2 rfl)
  | true => exact h.1 rfl
theorem w_or1 (h : Wp Q X (ev G a s)) : Ev (.or (.cons a .nil)) G s Q X := h
theorem w_or (h : Wp (fun v s1 => ∃ t, v.2 = .bool t ∧ Ft t (Q (.fz, .bool true) s1) (Wp Q X (ev G (.or (.cons b cs)) s1))) X (ev G a s)) : Ev (.or (.cons a (.cons b cs))) G s Q X := by
  show Wp Q X ((tbR (ev G a s)).bind (fun t s1 => if t = true then Rs.ok (fzv (.bool true)) s1 else evOr G (.cons b cs) s1))
  refine Wp.bind (w_tb (Q := fun b' s1 => Wp Q X (if b' = true then Rs.ok (fzv (.bool true)) s1 else evOr G (.cons b cs) s1)) (h.imq fun v s1 h => ?_))
  obtain ⟨t, e, h⟩ := h
  refine ⟨t, e, ?_⟩
  cases t with
  | false => exact h.2 rfl
  | true => exact .ok (h.1 rfl)
theorem w_ite (h : Wp (fun v s1 => ∃ t, v.2 = .bool t ∧ Ft t (Wp Q X (ev G a s1)) (Wp Q X (ev G b s1))) X (ev G c s)) : Ev (.ite c a b) G s Q X := by
  show Wp Q X ((tbR (ev G c s)).bind fun t s1 => if t = true then ev G a s1 else ev G b s1)
  refine Wp.bind (w_tb (Q := fun b' s1 => Wp Q X (if b' = true then ev G a s1 else ev G b s1)) (h.imq fun v s1 h => ?_))
  obtain ⟨t, e, h⟩ := h
  refine ⟨t, e, ?_⟩
  cases t with
  | false => exact h.2 rfl
  | true => exact h.1 rfl
/-- the value is a bool -/
theorem tbv {m : Md} {t : Bool} {p : Bool → Prop} (h : p t) : ∃ t', ((m, PyData.bool t) : MD).2 = .bool t' ∧ p t' := ⟨t, rfl, h⟩
/-! ### subscripts, displays -/
theorem w_ix (h : Wp (fun x s1 => Cq (x.1.isB && !qt b) (Wp (fun y s2 => Wo (fun r => Q r s2) (ixR x y)) X (ev G b s1))) X (ev G a s)) : Ev (.ix a b) G s Q X := by
  show Wp Q X ((ev G a s).bind fun x s1 => if (x.1.isB && !qt b) = true then Rs.no else (ev G b s1).bind fun y s2 => ofO (ixR x y) s2)
  refine Wp.bind (h.imq fun x s1 h => ?_)
  rw [h.1, if_neg Bool.false_ne_true]
  exact Wp.bind (h.2.imq fun y s2 h => wp_ofO h)
theorem w_onone {Q : Option Int → En → Prop} (h : Q none s) : Eo .none G s Q X := Wp.ok h
theorem w_osome {Q : Option Int → En → Prop} (h : Wp (fun x s1 => ∃ i, x.2 = .int i ∧ Q (some i) s1) X (ev G a s)) : Eo (.some a) G s Q X := by
  show Wp Q X ((ev G a s).bind fun x s1 => match x with
    | (_, .int i) => Rs.ok (some i) s1
    | _ => .no)
  refine Wp.bind (h.imq fun x s1 h => ?_)
  obtain ⟨m, d⟩ := x
  obtain ⟨i, rfl, h⟩ := h
  exact .ok h
theorem intv {m : Md} {i : Int} {p : Int → Prop} (h : p i) : ∃ t', ((m, PyData.int i) : MD).2 = .int t' ∧ p t' := ⟨i, rfl, h⟩
theorem w_sl {lo hi : Co} (h : Wp (fun x s1 => Cq ((x.1.isB && !(qto lo && qto hi)) || x.1.is2) (Wp (fun l s2 => Wp (fun h s3 => (∃ xs, x.2 = .tuple xs ∧ Q (.fz, .tuple (cutD xs l h)) s3) ∨ (∃ xs, x.2 = .list xs ∧ Q (.o1, .list (cutD xs l h)) s3)) X (evo G hi s2)) X (evo G lo s1))) X (ev G a s)) : Ev (.sl a lo hi) G s Q X := by
  show Wp Q X ((ev G a s).bind fun x s1 => if ((x.1.isB && !(qto lo && qto hi)) || x.1.is2) = true then Rs.no else (evo G lo s1).bind fun l s2 => (evo G hi s2).bind fun h s3 => match x.2 with
    | .list xs => .ok (.o1, .list (cutD xs l h)) s3
    | .tuple xs => .ok (fzv (.tuple (cutD xs l h))) s3
    | _ => .no)
  refine Wp.bind (h.imq fun x s1 h => ?_)
  rw [h.1, if_neg Bool.false_ne_true]
  refine Wp.bind (h.2.imq fun y s2 h1 => ?_)
  refine Wp.bind (h1.imq fun z s3 h2 => ?_)
  obtain ⟨m, d⟩ := x
  rcases h2 with ⟨xs, rfl, h2⟩ | ⟨xs, rfl, h2⟩ <;> exact .ok h2
theorem slT {m : Md} {xs : List PyData} {p : List PyData → Prop} {q : List PyData → Prop} (h : p xs) : (∃ ys, ((m, PyData.tuple xs) : MD).2 = .tuple ys ∧ p ys) ∨ (∃ ys, ((m, PyData.tuple xs) : MD).2 = .list ys ∧ q ys) := .inl ⟨xs, rfl, h⟩
theorem slL {m : Md} {xs : List PyData} {p : List PyData → Prop} {q : List PyData → Prop} (h : q xs) : (∃ ys, ((m, PyData.list xs) : MD).2 = .tuple ys ∧ p ys) ∨ (∃ ys, ((m, PyData.list xs) : MD).2 = .list ys ∧ q ys) := .inr ⟨xs, rfl, h⟩
theorem w_rev (h : Wp (fun x s1 => ∃ xs, (x = (.fz, .list xs) ∨ x = (.o1, .list xs) ∨ x = (.b1, .list xs)) ∧ Q (.o1, .list xs.reverse) s1) X (ev G a s)) : Ev (.rev a) G s Q X := by
  show Wp Q X ((ev G a s).bind fun x s1 => match x with
    | (.fz, .list xs) => Rs.ok (.o1, .list xs.reverse) s1
    | (.o1, .list xs) => .ok (.o1, .list xs.reverse) s1
    | (.b1, .list xs) => .ok (.o1, .list xs.reverse) s1
    | _ => .no)
  refine Wp.bind (h.imq fun x s1 h => ?_)
  obtain ⟨xs, h1, h⟩ := h
  rcases h1 with rfl | rfl | rfl <;> exact .ok h
theorem w_e0 {Q : List MD → En → Prop} (q : Q [] s) : Es .nil G s Q X := Wp.ok q
theorem w_es {Q : List MD → En → Prop} (h : Wp (fun x s1 => Cq (x.1.isB && !qts cs) (Wp (fun vs s2 => Q (x :: vs) s2) X (evs G cs s1))) X (ev G a s)) : Es (.cons a cs) G s Q X := by
  show Wp Q X ((ev G a s).bind fun x s1 => if (x.1.isB && !qts cs) = true then Rs.no else (evs G cs s1).bind fun xs s2 => .ok (x :: xs) s2)
  refine Wp.bind (h.imq fun x s1 h => ?_)
  rw [h.1, if_neg Bool.false_ne_true]
  exact Wp.bind (h.2.imq fun y s2 h => .ok h)
theorem w_tup (h : Wp (fun vs s1 => Cq (vs.any (·.1.isB)) (Ct (okLen vs.length) (Q (.fz, .tuple (vs.map (·.2))) s1))) X (evs G es s)) : Ev (.tup es) G s Q X := by
  show Wp Q X ((evs G es s).bind fun vs s1 => if vs.any (·.1.isB) = true then .no else if okLen vs.length = true then .ok (fzv (.tuple (vs.map (·.2)))) s1 else .no)
  refine Wp.bind (h.imq fun x s1 h => ?_)
  rw [h.1, if_neg Bool.false_ne_true, if_pos h.2.1]
  exact .ok h.2.2
theorem w_lst (h : Wp (fun vs s1 => Cq (vs.any (·.1.isB)) (Ct (okLen vs.length) (Q (.o1, .list (vs.map (·.2))) s1))) X (evs G es s)) : Ev (.lst false es) G s Q X := by
  show Wp Q X ((evs G es s).bind fun vs s1 => if vs.any (·.1.isB) = true then .no else if okLen vs.length = true then
      (if false = true then (if vs.all (fun v => decide (v.1 = .o1) || imm v.2) = true then .ok (.o2, .list (vs.map (·.2))) s1 else .no) else .ok (.o1, .list (vs.map (·.2))) s1) else .no)
  refine Wp.bind (h.imq fun x s1 h => ?_)
  rw [h.1, if_neg Bool.false_ne_true, if_pos h.2.1, if_neg Bool.false_ne_true]
  exact .ok h.2.2
theorem w_lst2 (h : Wp (fun vs s1 => Cq (vs.any (·.1.isB)) (Ct (okLen vs.length) (Ct (vs.all (fun v => decide (v.1 = .o1) || imm v.2)) (Q (.o2, .list (vs.map (·.2))) s1)))) X (evs G es s)) : Ev (.lst true es) G s Q X := by
  show Wp Q X ((evs G es s).bind fun vs s1 => if vs.any (·.1.isB) = true then .no else if okLen vs.length = true then
      (if true = true then (if vs.all (fun v => decide (v.1 = .o1) || imm v.2) = true then .ok (.o2, .list (vs.map (·.2))) s1 else .no) else .ok (.o1, .list (vs.map (·.2))) s1) else .no)
  refine Wp.bind (h.imq fun x s1 h => ?_)
  rw [h.1, if_neg Bool.false_ne_true, if_pos h.2.1, if_pos rfl, if_pos h.2.2.1]
  exact .ok h.2.2.2
theorem w_dct {ks : List Str} (h : Wp (fun vs s1 => Cq (vs.any (·.1.isB)) (ks.length = vs.length ∧ ks.Nodup ∧ Q (.o1, .dict ((ks.map PyData.str).zip (vs.map (·.2)))) s1)) X (evs G es s)) : Ev (.dct ks es) G s Q X := by
  show Wp Q X ((evs G es s).bind fun vs s1 => if vs.any (·.1.isB) = true then .no else if ks.length = vs.length ∧ ks.Nodup then .ok (.o1, .dict ((ks.map PyData.str).zip (vs.map (·.2)))) s1 else .no)
  refine Wp.bind (h.imq fun x s1 h => ?_)
  rw [h.1, if_neg Bool.false_ne_true, if_pos ⟨h.2.1, h.2.2.1⟩]
  exact .ok h.2.2.2
theorem w_bi {b : Bi} (h : Wp (fun vs s1 => Cq (vs.any (·.1.is2) && decide (b ≠ .len)) (Wo (fun r => Q r s1) (biD b (vs.map (·.2))))) X (evs G es s)) : Ev (.bi b es) G s Q X := by
  show Wp Q X ((evs G es s).bind fun vs s1 => if (vs.any (·.1.is2) && decide (b ≠ .len)) = true then .no else ofO (biD b (vs.map (·.2))) s1)
  refine Wp.bind (h.imq fun x s1 h => ?_)
  rw [h.1, if_neg Bool.false_ne_true]
  exact wp_ofO h.2
theorem w_isi {tys : List Ty} (h : Wp (fun x s1 => Q (.fz, .bool (tys.any (tyD x.2))) s1) X (ev G a s)) : Ev (.isi a tys) G s Q X := by
  show Wp Q X ((ev G a s).bind fun x s1 => Rs.ok (fzv (.bool (tys.any (tyD x.2)))) s1)
  exact Wp.bind (h.imq fun _ _ h => .ok h)
theorem w_mth {id : Nat} (h : Wp (fun x s1 => Cq ((x.1.isB && !qts es) || !isLs x.2) (Wp (fun vs s2 => Cq (vs.any (·.1.isB)) (Wo (fun r => Q r s2) (mthD id x.2 (vs.map (·.2))))) X (evs G es s1))) X (ev G a s)) : Ev (.mth id a es) G s Q X := by
  show Wp Q X ((ev G a s).bind fun x s1 => if ((x.1.isB && !qts es) || !isLs x.2) = true then Rs.no else (evs G es s1).bind fun vs s2 => if vs.any (·.1.isB) = true then .no else ofO (mthD id x.2 (vs.map (·.2))) s2)
  refine Wp.bind (h.imq fun x s1 h => ?_)
  rw [h.1, if_neg Bool.false_ne_true]
  refine Wp.bind (h.2.imq fun y s2 h => ?_)
  rw [h.1, if_neg Bool.false_ne_true]
  exact wp_ofO h.2
/-! ### calls -/
theorem w_call {g : Nat} {ios : List Nat} (hs : ios.all (hasE s) = true) (h : Wp (fun vs s1 => Cq (vs.any (·.1.isB)) (∃ i, G[g]? = some i ∧ Wp Q X (callR i ios vs s1))) X (evs G cs s)) : Ev (.call g ios cs) G s Q X := by
  show Wp Q X (if ios.all (hasE s) = true then (evs G cs s).bind fun vs s1 => if vs.any (·.1.isB) = true then Rs.no else (match G[g]? with
    | none => .no
    | some i => callR i ios vs s1) else .no)
  rw [if_pos hs]
  refine Wp.bind (h.imq fun x s1 h => ?_)
  rw [h.1, if_neg Bool.false_ne_true]
  obtain ⟨i, e, h⟩ := h.2
  rw [e]
  exact h
theorem gx {g : Nat} {i : Info} {p : Info → Prop} (e : G[g]? = some i) (h : p i) : ∃ i, G[g]? = some i ∧ p i := ⟨i, e, h⟩
theorem w_callk {g : Nat} {ks : List Str} (h : Wp (fun vs s1 => Cq (vs.any (·.1.isB)) (∃ i, G[g]? = some i ∧ ∃ us, kwR i.ps ks vs = some us ∧ Wp Q X (callR i [] us s1))) X (evs G cs s)) : Ev (.callk g ks cs) G s Q X := by
  show Wp Q X ((evs G cs s).bind fun vs s1 => if vs.any (·.1.isB) = true then Rs.no else match G[g]? with
    | none => .no
    | some i => match kwR i.ps ks vs with
      | none => .no
      | some us => callR i [] us s1)
  refine Wp.bind (h.imq fun x s1 h => ?_)
  rw [h.1, if_neg Bool.false_ne_true]
  obtain ⟨i, e, us, e', h⟩ := h.2
  rw [e]
  show Wp Q X (match kwR i.ps ks x with
      | none => .no
      | some us => callR i [] us s1)
  rw [e']
  exact h
theorem wp_call0 {i : Info} {vs : List MD} {Q : MD → En → Prop} {X : Xn → En → Prop} (h0 : i.io = 0) (hl : vs.length = i.ps.length) (h : WpC (fun v os => os = [] ∧ v.1.isB = false ∧ Q v s) (fun x os => os = [] ∧ X x s) (i.sem (vs.map fun v => fzv v.2))) : Wp Q X (callR i [] vs s) := by
  rw [callR0 i vs h0 hl]
  revert h
  cases i.sem (vs.map fun v => fzv v.2) with
  | no => exact fun h => (wpc_no h).elim
  | ret v os =>
    intro h
    obtain ⟨rfl, hb, h'⟩ := wpc_r h
    show Wp Q X (if v.1.isB = true then .no else .ok v s)
    rw [hb, if_neg Bool.false_ne_true]
    exact .ok h'
  | exc x os =>
    intro h
    obtain ⟨rfl, h'⟩ := wpc_x h
    exact .exc h'
theorem wp_call1 {i : Info} {j : Nat} {vs : List MD} {m0 : Md} {d0 : PyData} {Q : MD → En → Prop} {X : Xn → En → Prop} (h0 : i.io = 1) (hl : 1 + vs.length = i.ps.length) (hs : s[j]? = some (some (m0, d0))) (hm0 : m0 ≠ .fz)
    (h : WpC (fun v os => ∃ o, os = [o] ∧ v.1.isB = false ∧ o.1.isB = false ∧ Q v (s.set j (some o))) (fun x os => ∃ o, os = [o] ∧ o.1.isB = false ∧ X x (s.set j (some o))) (i.sem ((m0, d0) :: vs.map fun v => fzv v.2))) : Wp Q X (callR i [j] vs s) := by
  unfold callR
  rw [if_neg (by rw [h0]; show ¬ ((1 : Nat) ≠ 1 ∨ 1 + vs.length ≠ i.ps.length); omega)]
  have ht : takeS [j] s = some ([(m0, d0)], s.set j none) := by
    unfold takeS
    rw [hs]
    simp [hm0, takeS]
  rw [ht]
  show Wp Q X (match i.sem ((m0, d0) :: vs.map fun v => fzv v.2) with
    | .no => Rs.no
    | .ret v outs => if v.1.isB = true then .no else match giveS [j] outs (s.set j none) with
      | none => .no
      | some s2 => .ok v s2
    | .exc x outs => match giveS [j] outs (s.set j none) with
      | none => .no
      | some s2 => .exc x s2)
  revert h
  cases i.sem ((m0, d0) :: vs.map fun v => fzv v.2) with
  | no => exact fun h => (wpc_no h).elim
  | ret v os =>
    intro h
    obtain ⟨o, rfl, hb, ho, h'⟩ := wpc_r h
    simp only [hb, Bool.false_eq_true, ite_false, giveS, ho, Option.map_some, List.set_set]
    exact .ok h'
  | exc x os =>
    intro h
    obtain ⟨o, rfl, ho, h'⟩ := wpc_x h
    simp only [Bool.false_eq_true, ite_false, giveS, ho, Option.map_some, List.set_set]
    exact .exc h'
theorem WpC.imp {Q Q' : MD → List MD → Prop} {X X' : Xn → List MD → Prop} {r : RC} (h : WpC Q X r) (hq : ∀ a s, Q a s → Q' a s) (hx : ∀ x s, X x s → X' x s) : WpC Q' X' r := by
  cases r with
  | ret a s => exact .ret (hq a s (wpc_r h))
  | exc x s => exact .exc (hx x s (wpc_x h))
  | no => exact (wpc_no h).elim
/-! ### owned lists -/
theorem w_pop {xs : List PyData} {x : PyData} {r : List PyData} (h : s[i]? = some (some (.o1, .list xs))) (hl : lastPop xs = some (x, r)) (q : Q (.fz, x) (s.set i (some (.o1, .list r)))) : Ev (.pop i) G s Q X := by
  show Wp Q X (match ownedL i s with
    | some (.o1, xs) => match lastPop xs with
      | some (x, r) => Rs.ok (fzv x) (s.set i (some (.o1, .list r)))
      | none => .no
    | _ => .no)
  have e : ownedL i s = some (.o1, xs) := by unfold ownedL; rw [h]
  rw [e]
  show Wp Q X (match lastPop xs with
      | some (x, r) => Rs.ok (fzv x) (s.set i (some (.o1, .list r)))
      | none => .no)
  rw [hl]
  exact .ok q
end
/-! ### what a goal is about -/
section
variable {G : List Info} {e : Ce} {es : Ces} {c : Cs} {cs : Css} {s : En} {α : Type}
theorem g_ev {Q : MD → En → Prop} {X : Xn → En → Prop} (h : Ev e G s Q X) : Wp Q X (ev G e s) := h
theorem g_es {Q : List MD → En → Prop} {X : Xn → En → Prop} (h : Es es G s Q X) : Wp Q X (evs G es s) := h
theorem g_eo {Q : Option Int → En → Prop} {X : Xn → En → Prop} {e : Co} (h : Eo e G s Q X) : Wp Q X (evo G e s) := h
theorem g_et {Q : Bool → En → Prop} {X : Xn → En → Prop} (h : Et es G s Q X) : Wp Q X (evTs G es s) := h
theorem g_ex {Q : Fl → En → Prop} {X : Xn → En → Prop} (h : Ex c G s Q X) : Wp Q X (ex G c s) := h
theorem g_exs {Q : Fl → En → Prop} {X : Xn → En → Prop} (h : Exs cs G s Q X) : Wp Q X (exs G cs s) := h
theorem g_call {Q : MD → En → Prop} {X : Xn → En → Prop} {i : Info} {ios : List Nat} {vs : List MD} (h : Cl i vs ios s Q X) : Wp Q X (callR i ios vs s) := h
theorem g_bin {Q : MD → Prop} {o : Operator} {a b : PyData} (h : Bn o a b Q) : Wo Q (binD o a b) := h
theorem g_cmp {Q : Bool → Prop} {o : CmpOp} {a b : PyData} (h : Cm o a b Q) : Wo Q (cmpD o a b) := h
theorem g_ix {Q : MD → Prop} {a b : MD} (h : Iy a b Q) : Wo Q (ixR a b) := h
theorem g_bi {Q : MD → Prop} {b : Bi} {ds : List PyData} (h : Bf b ds Q) : Wo Q (biD b ds) := h
theorem g_it {Q : List PyData × Bool → Prop} {b : Sk} {ds : List MD} (h : It b ds Q) : Wo Q (itemsD b ds) := h
theorem g_ft {p q : Prop} {t : Bool} (h : Ft t p q) : Ft t p q := h
end
/-! ### displays and builtins by their number of parts -/
section
variable {G : List Info} {a b : Ce} {es : Ces} {s : En} {Q : MD → En → Prop} {X : Xn → En → Prop}
def Tq (Q : MD → En → Prop) (vs : List MD) (s : En) : Prop := Cq (vs.any (·.1.isB)) (Ct (okLen vs.length) (Q (.fz, .tuple (vs.map (·.2))) s))
def Lq (Q : MD → En → Prop) (vs : List MD) (s : En) : Prop := Cq (vs.any (·.1.isB)) (Ct (okLen vs.length) (Q (.o1, .list (vs.map (·.2))) s))
theorem w_tupN (h : Wp (Tq Q) X (evs G es s)) : Ev (.tup es) G s Q X := w_tup h
theorem w_lstN (h : Wp (Lq Q) X (evs G es s)) : Ev (.lst false es) G s Q X := w_lst h
variable {m1 m2 m3 m4 m5 : Md} {d1 d2 d3 d4 d5 : PyData}
theorem tq0 (h : Q (.fz, .tuple []) s) : Tq Q [] s := ⟨rfl, rfl, h⟩
theorem tq1 (e : ([(m1, d1)] : List MD).any (·.1.isB) = false) (h : Q (.fz, .tuple [d1]) s) : Tq Q [(m1, d1)] s := ⟨e, rfl, h⟩
theorem tq2 (e : ([(m1, d1), (m2, d2)] : List MD).any (·.1.isB) = false) (h : Q (.fz, .tuple [d1, d2]) s) : Tq Q [(m1, d1), (m2, d2)] s := ⟨e, rfl, h⟩
theorem tq3 (e : ([(m1, d1), (m2, d2), (m3, d3)] : List MD).any (·.1.isB) = false) (h : Q (.fz, .tuple [d1, d2, d3]) s) : Tq Q [(m1, d1), (m2, d2), (m3, d3)] s := ⟨e, rfl, h⟩
theorem tq4 (e : ([(m1, d1), (m2, d2), (m3, d3), (m4, d4)] : List MD).any (·.1.isB) = false) (h : Q (.fz, .tuple [d1, d2, d3, d4]) s) : Tq Q [(m1, d1), (m2, d2), (m3, d3), (m4, d4)] s := ⟨e, rfl, h⟩
theorem tq5 (e : ([(m1, d1), (m2, d2), (m3, d3), (m4, d4), (m5, d5)] : List MD).any (·.1.isB) = false) (h : Q (.fz, .tuple [d1, d2, d3, d4, d5]) s) : Tq Q [(m1, d1), (m2, d2), (m3, d3), (m4, d4), (m5, d5)] s := ⟨e, rfl, h⟩
theorem lqn {vs : List MD} {ds : List PyData} (e1 : vs.any (·.1.isB) = false) (e2 : okLen vs.length = true) (e3 : vs.map (·.2) = ds) (h : Q (.o1, .list ds) s) : Lq Q vs s := ⟨e1, e2, by rw [e3]; exact h⟩
theorem tqn {vs : List MD} {ds : List PyData} (e1 : vs.any (·.1.isB) = false) (e2 : okLen vs.length = true) (e3 : vs.map (·.2) = ds) (h : Q (.fz, .tuple ds) s) : Tq Q vs s := ⟨e1, e2, by rw [e3]; exact h⟩
theorem lq0 (h : Q (.o1, .list []) s) : Lq Q [] s := ⟨rfl, rfl, h⟩
theorem lq1 (e : ([(m1, d1)] : List MD).any (·.1.isB) = false) (h : Q (.o1, .list [d1]) s) : Lq Q [(m1, d1)] s := ⟨e, rfl, h⟩
theorem lq2 (e : ([(m1, d1), (m2, d2)] : List MD).any (·.1.isB) = false) (h : Q (.o1, .list [d1, d2]) s) : Lq Q [(m1, d1), (m2, d2)] s := ⟨e, rfl, h⟩
theorem lq3 (e : ([(m1, d1), (m2, d2), (m3, d3)] : List MD).any (·.1.isB) = false) (h : Q (.o1, .list [d1, d2, d3]) s) : Lq Q [(m1, d1), (m2, d2), (m3, d3)] s := ⟨e, rfl, h⟩
theorem w_bi1 {f : Bi} (h : Wp (fun x s1 => Cq (x.1.is2 && decide (f ≠ .len)) (Wo (fun r => Q r s1) (biD f [x.2]))) X (ev G a s)) : Ev (.bi f (.cons a .nil)) G s Q X :=
  w_bi (w_es (h.imq fun x s1 h => ⟨Bool.and_false _, by
    have e : (([x] : List MD).any (·.1.is2) && decide (f ≠ .len)) = (x.1.is2 && decide (f ≠ .len)) := by rw [List.any_cons, List.any_nil, Bool.or_false]
    exact .ok ⟨e.trans h.1, h.2⟩⟩))
theorem w_bi2 {f : Bi} (h : Wp (fun x s1 => Cq (x.1.isB && !qts (.cons b .nil)) (Wp (fun y s2 => Cq ((x.1.is2 || y.1.is2) && decide (f ≠ .len)) (Wo (fun r => Q r s2) (biD f [x.2, y.2]))) X (ev G b s1))) X (ev G a s)) : Ev (.bi f (.cons a (.cons b .nil))) G s Q X :=
  w_bi (w_es (h.imq fun x s1 h => ⟨h.1, w_es (h.2.imq fun y s2 h => ⟨Bool.and_false _, by
    have e : (([x, y] : List MD).any (·.1.is2) && decide (f ≠ .len)) = ((x.1.is2 || y.1.is2) && decide (f ≠ .len)) := by rw [List.any_cons, List.any_cons, List.any_nil, Bool.or_false]
    exact .ok ⟨e.trans h.1, h.2⟩⟩)⟩))
end
end DV

set_option Elab.async false
set_option linter.all false
set_option maxRecDepth 100000
set_option maxHeartbeats 2000000
/-! DV30: weakest preconditions: statements, loops, comprehensions. -/
namespace DV
open PySem

section
variable {G : List Info} {a b c : Ce} {st : Cs} {ss body : Css} {es : Ces} {s s1 s2 : En} {i : Nat} {m : Md} {d : PyData} {Q : Fl → En → Prop} {X : Xn → En → Prop}
/-- what follows a statement -/
def Kt (G : List Info) (ss : Css) (Q : Fl → En → Prop) (X : Xn → En → Prop) : Fl → En → Prop
  | .nx, s => Wp Q X (exs G ss s)
  | r, s => Q r s
theorem kt_nx (h : Wp Q X (exs G ss s)) : Kt G ss Q X .nx s := h
theorem kt_nx' {s' : En} (e : s = s') (h : Wp Q X (exs G ss s')) : Kt G ss Q X .nx s := by subst e; exact h
theorem kt_rt {v : MD} (h : Q (.rt v) s) : Kt G ss Q X (.rt v) s := h
theorem kt_bk (h : Q .bk s) : Kt G ss Q X .bk s := h
theorem kt_ct (h : Q .ct s) : Kt G ss Q X .ct s := h
theorem w_nil (h : Q .nx s) : Exs .nil G s Q X := Wp.ok h
theorem w_cons (h : Wp (Kt G ss Q X) X (ex G st s)) : Exs (.cons st ss) G s Q X := by
  show Wp Q X (match ex G st s with
    | .ok .nx s1 => exs G ss s1
    | r => r)
  cases e : ex G st s with
  | ok f s1 =>
    rw [e] at h
    have h := wp_o h
    cases f <;> first | exact h | exact .ok h
  | exc x s1 => rw [e] at h; exact .exc (wp_x h)
  | no => rw [e] at h; exact (wp_n h).elim
theorem w_pass (h : Q .nx s) : Ex .pass G s Q X := Wp.ok h
theorem w_brk (h : Q .bk s) : Ex .brk G s Q X := Wp.ok h
theorem w_cnt (h : Q .ct s) : Ex .cnt G s Q X := Wp.ok h
theorem w_keep {Q : MD → En → Prop} {r : Rs MD} (h : Wp (fun v s => Cq v.1.isB (Q v s)) X r) : Wp Q X (keepR r) := by
  refine Wp.bind (h.imq fun v s h => ?_)
  rw [h.1, if_neg Bool.false_ne_true]
  exact .ok h.2
theorem w_set (h : Wp (fun v s1 => Cq v.1.isB (Q .nx (s1.set i (some v)))) X (ev G a s)) : Ex (.asg (.nm i) a) G s Q X := by
  show Wp Q X ((keepR (ev G a s)).bind fun v s1 => .ok .nx (s1.set i (some v)))
  exact Wp.bind (w_keep (Q := fun v s1 => Wp Q X (.ok .nx (s1.set i (some v)))) (h.imq fun _ _ h => ⟨h.1, .ok h.2⟩))
theorem w_setT {ts : List Tg} (h : Wp (fun v s1 => Cq v.1.isB (∃ s2, bindT (.tp ts) v.2 s1 = some s2 ∧ Q .nx s2)) X (ev G a s)) : Ex (.asg (.tp ts) a) G s Q X := by
  show Wp Q X ((keepR (ev G a s)).bind fun v s1 => match bindT (.tp ts) v.2 s1 with
    | some s2 => .ok .nx s2
    | none => .no)
  refine Wp.bind (w_keep (Q := fun v s1 => Wp Q X (match bindT (.tp ts) v.2 s1 with
    | some s2 => .ok .nx s2
    | none => .no)) (h.imq fun v s1 h => ⟨h.1, ?_⟩))
  obtain ⟨s2, e, h⟩ := h.2
  rw [e]
  exact .ok h
theorem sx {o : Option En} {s2 : En} {p : En → Prop} (e : o = some s2) (h : p s2) : ∃ s2, o = some s2 ∧ p s2 := ⟨s2, e, h⟩
theorem w_par {is : List Nat} (h : Wp (fun vs s1 => is.Nodup ∧ okLen vs.length = true ∧ ∃ s2, parS is vs s1 = some s2 ∧ Q .nx s2) X (evs G es s)) : Ex (.par is es) G s Q X := by
  show Wp Q X ((evs G es s).bind fun vs s1 => if is.Nodup then (match parS is vs s1 with
    | some s2 => if okLen vs.length = true then .ok .nx s2 else .no
    | none => .no) else .no)
  refine Wp.bind (h.imq fun v s1 h => ?_)
  obtain ⟨h1, h2, s2, e, h⟩ := h
  rw [if_pos h1, e]
  show Wp Q X (if okLen v.length = true then .ok .nx s2 else .no)
  rw [if_pos h2]
  exact .ok h
def Pq (is : List Nat) (Q : Fl → En → Prop) (vs : List MD) (s1 : En) : Prop := is.Nodup ∧ okLen vs.length = true ∧ ∃ s2, parS is vs s1 = some s2 ∧ Q .nx s2
theorem w_parN {is : List Nat} (h : Wp (Pq is Q) X (evs G es s)) : Ex (.par is es) G s Q X := w_par h
theorem pq {is : List Nat} {vs : List MD} (e1 : is.Nodup) (e2 : okLen vs.length = true) (e3 : parS is vs s1 = some s2) (h : Q .nx s2) : Pq is Q vs s1 := ⟨e1, e2, s2, e3, h⟩
theorem w_aug {op : Operator} {n : Int} (hs : s[i]? = some (some (m, .int n))) (h : Wp (fun v s1 => ∃ k, v.2 = .int k ∧ Wo (fun r => Q .nx (s1.set i (some r))) (binD op (.int n) (.int k))) X (ev G a s)) : Ex (.aug i op a) G s Q X := by
  show Wp Q X (match s[i]? with
    | some (some (_, .int n)) => (ev G a s).bind fun v s1 => (match v.2 with
      | .int k => (ofO (binD op (.int n) (.int k)) s1).bind fun r s2 => .ok .nx (s2.set i (some r))
      | _ => .no)
    | _ => .no)
  rw [hs]
  refine Wp.bind (h.imq fun v s1 h => ?_)
  obtain ⟨k, e, h⟩ := h
  rw [e]
  exact Wp.bind (wp_ofO (by obtain ⟨r, e, h⟩ := h; exact ⟨r, e, .ok h⟩))
theorem w_exp (h : Wp (fun _ s1 => Q .nx s1) X (ev G a s)) : Ex (.exp a) G s Q X := by
  show Wp Q X ((ev G a s).bind fun _ s1 => .ok .nx s1)
  exact Wp.bind (h.imq fun _ _ h => .ok h)
theorem w_ret (h : Wp (fun v s1 => Cq v.1.isB (Q (.rt v) s1)) X (ev G a s)) : Ex (.ret a) G s Q X := by
  show Wp Q X ((keepR (ev G a s)).bind fun v s1 => .ok (.rt v) s1)
  exact Wp.bind (w_keep (Q := fun v s1 => Wp Q X (.ok (.rt v) s1)) (h.imq fun _ _ h => ⟨h.1, .ok h.2⟩))
theorem w_if {aa bb : Css} (h : Wp (fun v s1 => ∃ t, v.2 = .bool t ∧ Ft t (Wp Q X (exs G aa s1)) (Wp Q X (exs G bb s1))) X (ev G c s)) : Ex (.ite c aa bb) G s Q X := by
  show Wp Q X ((tbR (ev G c s)).bind fun t s1 => if t = true then exs G aa s1 else exs G bb s1)
  refine Wp.bind (w_tb (Q := fun b' s1 => Wp Q X (if b' = true then exs G aa s1 else exs G bb s1)) (h.imq fun v s1 h => ?_))
  obtain ⟨t, e, h⟩ := h
  refine ⟨t, e, ?_⟩
  cases t with
  | false => exact h.2 rfl
  | true => exact h.1 rfl
theorem w_rais {x fld : Str} (h : Wp (fun v s1 => Ct (scalD v.2) (X ⟨x, fld, v.2⟩ s1)) X (ev G a s)) : Ex (.rais x fld a) G s Q X := by
  show Wp Q X ((ev G a s).bind fun v s1 => if scalD v.2 = true then .exc ⟨x, fld, v.2⟩ s1 else .no)
  refine Wp.bind (h.imq fun v s1 h => ?_)
  rw [if_pos h.1]
  exact .exc h.2
theorem w_try {hs : List Hd} (h : Wp Q (fun x s1 => Wp Q X (hdR x s1 hs)) (exs G body s)) : Ex (.tryr body hs) G s Q X := by
  show Wp Q X (match exs G body s with
    | .exc x s1 => hdR x s1 hs
    | r => r)
  cases e : exs G body s with
  | ok f s1 => rw [e] at h; exact .ok (wp_o h)
  | exc x s1 => rw [e] at h; exact wp_x h
  | no => rw [e] at h; exact (wp_n h).elim
theorem w_app {xs : List PyData} (hs : lsE s i = true) (h : Wp (fun v s1 => Cq v.1.isB (∃ xs, s1[i]? = some (some (.o1, .list xs)) ∧ xs.length < lineN ∧ Q .nx (s1.set i (some (.o1, .list (xs ++ [v.2])))))) X (ev G a s)) : Ex (.app i a) G s Q X := by
  show Wp Q X (if lsE s i = true then (keepR (ev G a s)).bind fun v s1 => (match ownedL i s1 with
    | some (.o1, xs) => if xs.length < lineN then .ok .nx (s1.set i (some (.o1, .list (xs ++ [v.2])))) else .no
    | some (.o2, xs) => if xs.length < lineN ∧ (decide (v.1 = .o1) || imm v.2) = true then .ok .nx (s1.set i (some (.o2, .list (xs ++ [v.2])))) else .no
    | _ => .no) else .no)
  rw [if_pos hs]
  refine Wp.bind (w_keep (Q := fun v s1 => Wp Q X (match ownedL i s1 with
    | some (.o1, xs) => if xs.length < lineN then .ok .nx (s1.set i (some (.o1, .list (xs ++ [v.2])))) else .no
    | some (.o2, xs) => if xs.length < lineN ∧ (decide (v.1 = .o1) || imm v.2) = true then .ok .nx (s1.set i (some (.o2, .list (xs ++ [v.2])))) else .no
    | _ => .no)) (h.imq fun v s1 h => ⟨h.1, ?_⟩))
  obtain ⟨xs, e, hl, h⟩ := h.2
  have e' : ownedL i s1 = some (.o1, xs) := by unfold ownedL; rw [e]
  rw [e']
  show Wp Q X (if xs.length < lineN then .ok .nx (s1.set i (some (.o1, .list (xs ++ [v.2])))) else .no)
  rw [if_pos hl]
  exact .ok h
theorem apx {xs : List PyData} {p : List PyData → Prop} (e : s[i]? = some (some (.o1, .list xs))) (hl : xs.length < lineN) (h : p xs) : ∃ xs, s[i]? = some (some (.o1, .list xs)) ∧ xs.length < lineN ∧ p xs := ⟨xs, e, hl, h⟩
def isL1 (s : En) (i : Nat) : Bool := match s[i]? with
  | some (some (.o1, .list _)) => true
  | _ => false
def isL2 (s : En) (i : Nat) : Bool := match s[i]? with
  | some (some (.o2, .list _)) => true
  | _ => false
/-- l[k] = v, l a list of l's own -/
theorem w_setL {j : Ce} (hq : (qt j && isL1 s i) = true) (h : Wp (fun v s1 => Cq v.1.isB (Ct (hasE s1 i) (Wp (fun k s2 => ∃ xs z n, s2[i]? = some (some (.o1, .list xs)) ∧ k.2 = .int z ∧ ixI xs.length z = some n ∧ Q .nx (s2.set i (some (.o1, .list (xs.set n v.2))))) X (ev G j s1)))) X (ev G a s)) : Ex (.set i j a) G s Q X := by
  show Wp Q X ((keepR (ev G a s)).bind fun v s1 => if (qt j && hasE s1 i) = true then (ev G j s1).bind fun k s2 => (match s2[i]?, k.2 with
      | some (some (.o1, .list xs)), .int k => (match ixI xs.length k with
        | some n => .ok .nx (s2.set i (some (.o1, .list (xs.set n v.2))))
        | none => .no)
      | some (some (.o2, .list xs)), .int k => (match ixI xs.length k with
        | some n => if (decide (v.1 = .o1) || imm v.2) = true then .ok .nx (s2.set i (some (.o2, .list (xs.set n v.2)))) else .no
        | none => .no)
      | some (some (.o1, .dict kvs)), .int k => if kvs.length < 1000000 then .ok .nx (s2.set i (some (.o1, .dict (put (.int k) v.2 kvs)))) else .no
      | some (some (.o1, .dict kvs)), .str k => if kvs.length < 1000000 then .ok .nx (s2.set i (some (.o1, .dict (put (.str k) v.2 kvs)))) else .no
      | _, _ => .no) else .no)
  refine Wp.bind (w_keep (Q := fun v s1 => Wp Q X (if (qt j && hasE s1 i) = true then (ev G j s1).bind fun k s2 => (match s2[i]?, k.2 with
      | some (some (.o1, .list xs)), .int k => (match ixI xs.length k with
        | some n => .ok .nx (s2.set i (some (.o1, .list (xs.set n v.2))))
        | none => .no)
      | some (some (.o2, .list xs)), .int k => (match ixI xs.length k with
        | some n => if (decide (v.1 = .o1) || imm v.2) = true then .ok .nx (s2.set i (some (.o2, .list (xs.set n v.2)))) else .no
        | none => .no)
      | some (some (.o1, .dict kvs)), .int k => if kvs.length < 1000000 then .ok .nx (s2.set i (some (.o1, .dict (put (.int k) v.2 kvs)))) else .no
      | some (some (.o1, .dict kvs)), .str k => if kvs.length < 1000000 then .ok .nx (s2.set i (some (.o1, .dict (put (.str k) v.2 kvs)))) else .no
      | _, _ => .no) else .no)) (h.imq fun v s1 h => ⟨h.1, ?_⟩))
  have hq := (Bool.and_eq_true_iff.mp hq).1
  rw [hq, h.2.1]
  rw [show (true && true) = true from rfl, if_pos rfl]
  refine Wp.bind (h.2.2.imq fun k s2 h => ?_)
  obtain ⟨xs, z, n, e1, e2, e3, h⟩ := h
  rw [e1, e2]
  show Wp Q X (match ixI xs.length z with
        | some n => .ok .nx (s2.set i (some (.o1, .list (xs.set n v.2))))
        | none => .no)
  rw [e3]
  exact .ok h
/-! ### loops -/
def Lp (G : List Info) (tg : Tg) (body : Css) (Q : Fl → En → Prop) (X : Xn → En → Prop) (xs : List PyData) (s : En) : Prop := Wp Q X (forL (bindT tg) (fun s => exs G body s) xs s)
theorem w_for {tg : Tg} {sk : Sk} (h : Wp (fun vs s1 => Wo (fun p : List PyData × Bool => Cq p.2 (Lp G tg body Q X p.1 s1)) (itemsD sk vs)) X (evs G es s)) : Ex (.for tg sk es body) G s Q X := by
  show Wp Q X ((evs G es s).bind fun vs s1 => match itemsD sk vs with
    | some (xs, false) => forL (bindT tg) (fun s => exs G body s) xs s1
    | _ => .no)
  refine Wp.bind (h.imq fun vs s1 h => ?_)
  obtain ⟨⟨xs, b⟩, e, rfl, h⟩ := h
  rw [e]
  exact h
/-- how a turn ends -/
def Lk (I : En → Prop) (Q : Fl → En → Prop) : Fl → En → Prop
  | .nx, s => I s
  | .ct, s => I s
  | .bk, s => Q .nx s
  | .rt v, s => Q (.rt v) s
theorem lk_nx {I : En → Prop} (h : I s) : Lk I Q .nx s := h
theorem lk_ct {I : En → Prop} (h : I s) : Lk I Q .ct s := h
theorem lk_bk {I : En → Prop} (h : Q .nx s) : Lk I Q .bk s := h
theorem lk_rt {I : En → Prop} {v : MD} (h : Q (.rt v) s) : Lk I Q (.rt v) s := h
theorem lp_inv {α : Type} {tg : Tg} (xs : List α) (e : α → PyData) (I : List α → En → Prop) (h0 : I [] s)
    (h1 : ∀ pre x post s, xs = pre ++ x :: post → I pre s → ∃ s1, bindT tg (e x) s = some s1 ∧ Wp (Lk (I (pre ++ [x])) Q) X (exs G body s1))
    (h2 : ∀ s, I xs s → Q .nx s) : Lp G tg body Q X (xs.map e) s := by
  have key : ∀ (post pre : List α) (s : En), xs = pre ++ post → I pre s → Wp Q X (forL (bindT tg) (fun s => exs G body s) (post.map e) s) := by
    intro post
    induction post with
    | nil =>
      intro pre s hx hi
      rw [List.append_nil] at hx
      exact .ok (h2 s (hx ▸ hi))
    | cons x post ih =>
      intro pre s hx hi
      obtain ⟨s1, e1, h⟩ := h1 pre x post s hx hi
      show Wp Q X (match bindT tg (e x) s with
        | none => .no
        | some s1 => match exs G body s1 with
          | .ok .nx s2 => forL (bindT tg) (fun s => exs G body s) (post.map e) s2
          | .ok .ct s2 => forL (bindT tg) (fun s => exs G body s) (post.map e) s2
          | .ok .bk s2 => .ok .nx s2
          | r => r)
      rw [e1]
      show Wp Q X (match exs G body s1 with
          | .ok .nx s2 => forL (bindT tg) (fun s => exs G body s) (post.map e) s2
          | .ok .ct s2 => forL (bindT tg) (fun s => exs G body s) (post.map e) s2
          | .ok .bk s2 => .ok .nx s2
          | r => r)
      cases er : exs G body s1 with
      | ok f s2 =>
        rw [er] at h
        have h := wp_o h
        cases f with
        | nx => exact ih (pre ++ [x]) s2 (by rw [hx, List.append_assoc]; rfl) h
        | ct => exact ih (pre ++ [x]) s2 (by rw [hx, List.append_assoc]; rfl) h
        | bk => exact .ok h
        | rt v => exact .ok h
      | exc z s2 => rw [er] at h; exact .exc (wp_x h)
      | no => rw [er] at h; exact (wp_n h).elim
  exact key xs [] s rfl h0
/-- a loop over range(n) -/
theorem lp_rng {tg : Tg} (n : Nat) (I : Nat → En → Prop) (h0 : I 0 s)
    (h1 : ∀ k s, k < n → I k s → ∃ s1, bindT tg (.int (k : Nat)) s = some s1 ∧ Wp (Lk (I (k + 1)) Q) X (exs G body s1))
    (h2 : ∀ s, I n s → Q .nx s) : Lp G tg body Q X (rangeD 0 n) s := by
  rw [rangeD0]
  refine lp_inv (List.range n) (fun i => PyData.int (i : Nat)) (fun pre s => I pre.length s) h0 (fun pre x post s hx hi => ?_) (fun s hi => h2 s (by rw [List.length_range] at hi; exact hi))
  have hl : pre.length < n := by
    have := congrArg List.length hx
    rw [List.length_range, List.length_append, List.length_cons] at this
    omega
  have hxe : x = pre.length := by
    have h := congrArg (fun l => l[pre.length]?) hx
    simp [hl] at h
    exact h.symm
  subst hxe
  have := h1 pre.length s hl hi
  rw [List.length_append]
  exact this
def Wl (G : List Info) (c : Ce) (body : Css) (Q : Fl → En → Prop) (X : Xn → En → Prop) (n : Nat) (s : En) : Prop := Wp Q X (whlL (fun s => tbR (ev G c s)) (fun s => exs G body s) n s)
theorem w_whl {n : Nat} (h : Wl G c body Q X n s) : Ex (.whl n c body) G s Q X := h
/-- a while by a measure -/
theorem wl_inv {fuel : Nat} (I : Nat → En → Prop) (n : Nat) (hn : n < fuel) (h0 : I n s)
    (h1 : ∀ k s, I k s → Wp (fun v s1 => ∃ t, v.2 = .bool t ∧ Ft t (Wp (Lk (fun s2 => ∃ j, j < k ∧ I j s2) Q) X (exs G body s1)) (Q .nx s1)) X (ev G c s)) : Wl G c body Q X fuel s := by
  have key : ∀ (fuel k : Nat) (s : En), k < fuel → I k s → Wp Q X (whlL (fun s => tbR (ev G c s)) (fun s => exs G body s) fuel s) := by
    intro fuel
    induction fuel with
    | zero => intro k s hk; exact absurd hk (Nat.not_lt_zero _)
    | succ n ih =>
      intro k s hk hi
      have h := h1 k s hi
      have h' := w_tb (Q := fun t s1 => Ft t (Wp (Lk (fun s2 => ∃ j, j < k ∧ I j s2) Q) X (exs G body s1)) (Q .nx s1)) h
      show Wp Q X (match tbR (ev G c s) with
        | .ok false s1 => .ok .nx s1
        | .ok true s1 => match exs G body s1 with
          | .ok .nx s2 => whlL (fun s => tbR (ev G c s)) (fun s => exs G body s) n s2
          | .ok .ct s2 => whlL (fun s => tbR (ev G c s)) (fun s => exs G body s) n s2
          | .ok .bk s2 => .ok .nx s2
          | r => r
        | .exc x s1 => .exc x s1
        | .no => .no)
      cases et : tbR (ev G c s) with
      | no => rw [et] at h'; exact (wp_n h').elim
      | exc x s1 => rw [et] at h'; exact .exc (wp_x h')
      | ok t s1 =>
        rw [et] at h'
        cases t with
        | false => exact .ok ((wp_o h').2 rfl)
        | true =>
          have hb := (wp_o h').1 rfl
          show Wp Q X (match exs G body s1 with
          | .ok .nx s2 => whlL (fun s => tbR (ev G c s)) (fun s => exs G body s) n s2
          | .ok .ct s2 => whlL (fun s => tbR (ev G c s)) (fun s => exs G body s) n s2
          | .ok .bk s2 => .ok .nx s2
          | r => r)
          cases er : exs G body s1 with
          | ok f s2 =>
            rw [er] at hb
            have hb := wp_o hb
            cases f with
            | nx => obtain ⟨j, hj, hi⟩ := hb; exact ih j s2 (by omega) hi
            | ct => obtain ⟨j, hj, hi⟩ := hb; exact ih j s2 (by omega) hi
            | bk => exact .ok hb
            | rt v => exact .ok hb
          | exc z s2 => rw [er] at hb; exact .exc (wp_x hb)
          | no => rw [er] at hb; exact (wp_n hb).elim
  exact key fuel n s hn h0
/-! ### a def -/
def outsE (io : Nat) (s : En) : Option (List MD) := (List.range io).mapM fun i => (s[i]?).bind id
theorem w_run {n io : Nat} {args : List MD} {Q : MD → List MD → Prop} {X : Xn → List MD → Prop}
    (h : Wp (fun f s => ∃ os, outsE io s = some os ∧ ((∃ v, f = .rt v ∧ Q v os) ∨ (f = .nx ∧ Q (.fz, .none) os))) (fun x s => ∃ os, outsE io s = some os ∧ X x os) (exs G body (args.map some ++ List.replicate (n - args.length) none))) : WpC Q X (runD G n io body args) := by
  unfold runD
  revert h
  cases exs G body (args.map some ++ List.replicate (n - args.length) none) with
  | no => exact fun h => (wp_n h).elim
  | exc x s =>
    intro h; obtain ⟨os, e, h'⟩ := wp_x h
    show WpC Q X (match outsE io s with
      | some outs => RC.exc x outs
      | none => .no)
    rw [e]
    exact .exc h'
  | ok f s =>
    intro h; obtain ⟨os, e, ⟨v, rfl, h'⟩ | ⟨rfl, h'⟩⟩ := wp_o h
    · show WpC Q X (match outsE io s with
        | some outs => RC.ret v outs
        | none => .no)
      rw [e]
      exact .ret h'
    · show WpC Q X (match outsE io s with
        | some outs => RC.ret (fzv .none) outs
        | none => .no)
      rw [e]
      exact .ret h'
theorem rn_rt {io : Nat} {v : MD} {os : List MD} {Q : MD → List MD → Prop} (h : Q v os) (e : outsE io s = some os) : ∃ os, outsE io s = some os ∧ ((∃ v', Fl.rt v = .rt v' ∧ Q v' os) ∨ (Fl.rt v = .nx ∧ Q (.fz, .none) os)) := ⟨os, e, .inl ⟨v, rfl, h⟩⟩
theorem rn_nx {io : Nat} {os : List MD} {Q : MD → List MD → Prop} (h : Q (.fz, .none) os) (e : outsE io s = some os) : ∃ os, outsE io s = some os ∧ ((∃ v', Fl.nx = .rt v' ∧ Q v' os) ∨ (Fl.nx = .nx ∧ Q (.fz, .none) os)) := ⟨os, e, .inr ⟨rfl, h⟩⟩
theorem rn_x {io : Nat} {os : List MD} {x : Xn} {X : Xn → List MD → Prop} (h : X x os) (e : outsE io s = some os) : ∃ os, outsE io s = some os ∧ X x os := ⟨os, e, h⟩
end
/-! ### comprehensions -/
section
variable {G : List Info} {two : Bool} {own : List Nat} {elt : Ce} {tg : Tg} {sk : Sk} {es ifs : Ces} {s s1 : En} {Q : MD → En → Prop} {X : Xn → En → Prop}
def Cp (G : List Info) (two : Bool) (own : List Nat) (tg : Tg) (ifs : Ces) (elt : Ce) (Q : List PyData → En → Prop) (X : Xn → En → Prop) (xs : List PyData) (s : En) : Prop := Wp (fun acc s2 => Q acc (restE s s2 own)) X (compL two own (bindT tg) (fun s => evTs G ifs s) (fun s => ev G elt s) xs [] s)
theorem w_comp (h : Wp (fun vs s1 => Wo (fun p : List PyData × Bool => Cq ((p.2 && !(qt elt && qts ifs)) || own.any (heldE s1)) (Cp G two own tg ifs elt (fun acc s2 => Q (if two = true then .o2 else .o1, .list acc) s2) X p.1 s1)) (itemsD sk vs)) X (evs G es s)) : Ev (.comp two own elt tg sk es ifs) G s Q X := by
  show Wp Q X ((evs G es s).bind fun vs s1 => match itemsD sk vs with
    | none => Rs.no
    | some (xs, b) => if ((b && !(qt elt && qts ifs)) || own.any (heldE s1)) = true then Rs.no else
      (compL two own (bindT tg) (fun s => evTs G ifs s) (fun s => ev G elt s) xs [] s1).bind fun acc s2 => Rs.ok ((if two = true then Md.o2 else Md.o1, PyData.list acc) : MD) (restE s1 s2 own))
  refine Wp.bind (h.imq fun vs s1 h => ?_)
  obtain ⟨⟨xs, b⟩, e, h⟩ := h
  rw [e]
  show Wp Q X (if ((b && !(qt elt && qts ifs)) || own.any (heldE s1)) = true then Rs.no else
      (compL two own (bindT tg) (fun s => evTs G ifs s) (fun s => ev G elt s) xs [] s1).bind fun acc s2 => Rs.ok ((if two = true then Md.o2 else Md.o1, PyData.list acc) : MD) (restE s1 s2 own))
  rw [h.1, if_neg Bool.false_ne_true]
  exact Wp.bind (Wp.imq h.2 fun _ _ h => .ok h)
theorem w_comp1 (h : Wp (fun vs s1 => Wo (fun p : List PyData × Bool => Cq ((p.2 && !(qt elt && qts ifs)) || own.any (heldE s1)) (Cp G false own tg ifs elt (fun acc s2 => Q (.o1, .list acc) s2) X p.1 s1)) (itemsD sk vs)) X (evs G es s)) : Ev (.comp false own elt tg sk es ifs) G s Q X := w_comp h
theorem w_comp2 (h : Wp (fun vs s1 => Wo (fun p : List PyData × Bool => Cq ((p.2 && !(qt elt && qts ifs)) || own.any (heldE s1)) (Cp G true own tg ifs elt (fun acc s2 => Q (.o2, .list acc) s2) X p.1 s1)) (itemsD sk vs)) X (evs G es s)) : Ev (.comp true own elt tg sk es ifs) G s Q X := w_comp h
theorem w_t0 {Q : Bool → En → Prop} (h : Q true s) : Et .nil G s Q X := Wp.ok h
theorem w_t1 {Q : Bool → En → Prop} {c : Ce} (h : Wp (fun v s1 => ∃ t, v.2 = .bool t ∧ Q t s1) X (ev G c s)) : Et (.cons c .nil) G s Q X := w_tb h
/-- by an invariant over what was made -/
theorem cp_inv {α : Type} {Q : List PyData → En → Prop} (xs : List α) (e : α → PyData) (I : List α → List PyData → En → Prop) (h0 : I [] [] s)
    (h1 : ∀ pre x post acc s, xs = pre ++ x :: post → I pre acc s → ∃ s1, bindT tg (e x) (wipeE s own) = some s1 ∧ Wp (fun t s2 => Ft t (Wp (fun v s3 => Cq ((two && decide (v.1 ≠ .o1)) || v.1.isB) (I (pre ++ [x]) (acc ++ [v.2]) s3)) (fun _ _ => False) (ev G elt s2)) (I (pre ++ [x]) acc s2)) (fun _ _ => False) (evTs G ifs s1))
    (h2 : ∀ acc s', I xs acc s' → Q acc (restE s s' own)) : Cp G two own tg ifs elt Q X (xs.map e) s := by
  have key : ∀ (post pre : List α) (acc : List PyData) (s1 : En), xs = pre ++ post → I pre acc s1 → Wp (fun acc s2 => Q acc (restE s s2 own)) X (compL two own (bindT tg) (fun s => evTs G ifs s) (fun s => ev G elt s) (post.map e) acc s1) := by
    intro post
    induction post with
    | nil =>
      intro pre acc s' hx hi
      rw [List.append_nil] at hx
      exact .ok (h2 acc s' (hx ▸ hi))
    | cons x post ih =>
      intro pre acc s' hx hi
      obtain ⟨s1, e1, h⟩ := h1 pre x post acc s' hx hi
      have hx' : xs = (pre ++ [x]) ++ post := by rw [hx, List.append_assoc]; rfl
      show Wp (fun acc s2 => Q acc (restE s s2 own)) X (match bindT tg (e x) (wipeE s' own) with
        | none => .no
        | some s1 => match evTs G ifs s1 with
          | .ok false s2 => compL two own (bindT tg) (fun s => evTs G ifs s) (fun s => ev G elt s) (post.map e) acc s2
          | .ok true s2 => match ev G elt s2 with
            | .ok (m, d) s3 => if ((two && decide (m ≠ .o1)) || m.isB) = true then .no else compL two own (bindT tg) (fun s => evTs G ifs s) (fun s => ev G elt s) (post.map e) (acc ++ [d]) s3
            | _ => .no
          | _ => .no)
      rw [e1]
      show Wp (fun acc s2 => Q acc (restE s s2 own)) X (match evTs G ifs s1 with
          | .ok false s2 => compL two own (bindT tg) (fun s => evTs G ifs s) (fun s => ev G elt s) (post.map e) acc s2
          | .ok true s2 => match ev G elt s2 with
            | .ok (m, d) s3 => if ((two && decide (m ≠ .o1)) || m.isB) = true then .no else compL two own (bindT tg) (fun s => evTs G ifs s) (fun s => ev G elt s) (post.map e) (acc ++ [d]) s3
            | _ => .no
          | _ => .no)
      cases et : evTs G ifs s1 with
      | no => rw [et] at h; exact (wp_n h).elim
      | exc z s2 => rw [et] at h; exact (wp_x h).elim
      | ok t s2 =>
        rw [et] at h
        cases t with
        | false => exact ih (pre ++ [x]) acc s2 hx' ((wp_o h).2 rfl)
        | true =>
          have h := (wp_o h).1 rfl
          show Wp (fun acc s2 => Q acc (restE s s2 own)) X (match ev G elt s2 with
            | .ok (m, d) s3 => if ((two && decide (m ≠ .o1)) || m.isB) = true then .no else compL two own (bindT tg) (fun s => evTs G ifs s) (fun s => ev G elt s) (post.map e) (acc ++ [d]) s3
            | _ => .no)
          cases ee : ev G elt s2 with
          | no => rw [ee] at h; exact (wp_n h).elim
          | exc z s3 => rw [ee] at h; exact (wp_x h).elim
          | ok v s3 =>
            rw [ee] at h
            obtain ⟨m, d⟩ := v
            show Wp (fun acc s2 => Q acc (restE s s2 own)) X (if ((two && decide (m ≠ .o1)) || m.isB) = true then .no else compL two own (bindT tg) (fun s => evTs G ifs s) (fun s => ev G elt s) (post.map e) (acc ++ [d]) s3)
            rw [show ((two && decide (m ≠ .o1)) || m.isB) = false from (wp_o h).1, if_neg Bool.false_ne_true]
            exact ih (pre ++ [x]) (acc ++ [d]) s3 hx' (wp_o h).2
  exact key xs [] [] s rfl h0
/-- [g(x) for x in xs if p(x)] that changes nothing but own's slots -/
theorem cp_filter {α : Type} {Q : List PyData → En → Prop} (xs : List α) (e : α → PyData) (p : α → Bool) (g : α → PyData)
    (h1 : ∀ x, x ∈ xs → ∃ s1, bindT tg (e x) (wipeE s own) = some s1 ∧ Wp (fun t s2 => t = p x ∧ (p x = true → Wp (fun v s3 => Cq ((two && decide (v.1 ≠ .o1)) || v.1.isB) (v.2 = g x ∧ wipeE s3 own = wipeE s own)) (fun _ _ => False) (ev G elt s2)) ∧ (p x = false → wipeE s2 own = wipeE s own)) (fun _ _ => False) (evTs G ifs s1))
    (h2 : Q ((xs.filter p).map g) s) : Cp G two own tg ifs elt Q X (xs.map e) s := by
  refine cp_inv xs e (fun pre acc s2 => acc = (pre.filter p).map g ∧ wipeE s2 own = wipeE s own) ⟨rfl, rfl⟩ (fun pre x post acc s' hx hi => ?_) (fun acc s' hi => ?_)
  · obtain ⟨rfl, hw⟩ := hi
    obtain ⟨s1, e1, h⟩ := h1 x (by rw [hx]; simp)
    refine ⟨s1, by rw [hw]; exact e1, h.imq fun t s2 h => ?_⟩
    obtain ⟨rfl, ht, hf⟩ := h
    refine ⟨fun hp => (ht hp).imq fun v s3 h => ⟨h.1, ?_, h.2.2⟩, fun hp => ⟨?_, hf hp⟩⟩
    · rw [List.filter_append, List.map_append, h.2.1, List.filter_cons, if_pos hp, List.filter_nil]; rfl
    · rw [List.filter_append, List.filter_cons, if_neg (by rw [hp]; exact Bool.false_ne_true), List.filter_nil, List.append_nil]
  · obtain ⟨rfl, hw⟩ := hi
    rw [restE_eq hw]
    exact h2
/-- [g(x) for x in xs] -/
theorem cp_map {α : Type} {Q : List PyData → En → Prop} (xs : List α) (e : α → PyData) (g : α → PyData)
    (h1 : ∀ x, x ∈ xs → ∃ s1, bindT tg (e x) (wipeE s own) = some s1 ∧ Wp (fun v s3 => Cq ((two && decide (v.1 ≠ .o1)) || v.1.isB) (v.2 = g x ∧ wipeE s3 own = wipeE s own)) (fun _ _ => False) (ev G elt s1))
    (h2 : Q (xs.map g) s) : Cp G two own tg .nil elt Q X (xs.map e) s := by
  refine cp_filter xs e (fun _ => true) g (fun x hx => ?_) (by rw [List.filter_eq_self.mpr (fun _ _ => rfl)]; exact h2)
  obtain ⟨s1, e1, h⟩ := h1 x hx
  exact ⟨s1, e1, .ok ⟨rfl, fun _ => h, (fun z => nomatch z)⟩⟩
/-- the same over range(n) -/
theorem cp_mapR {Q : List PyData → En → Prop} (n : Nat) (g : Nat → PyData)
    (h1 : ∀ k, k < n → ∃ s1, bindT tg (.int (k : Nat)) (wipeE s own) = some s1 ∧ Wp (fun v s3 => Cq ((two && decide (v.1 ≠ .o1)) || v.1.isB) (v.2 = g k ∧ wipeE s3 own = wipeE s own)) (fun _ _ => False) (ev G elt s1))
    (h2 : Q ((List.range n).map g) s) : Cp G two own tg .nil elt Q X (rangeD 0 n) s := by
  rw [rangeD0]
  exact cp_map (List.range n) (fun i => PyData.int (i : Nat)) g (fun k hk => h1 k (List.mem_range.mp hk)) h2
theorem cp_filterR {Q : List PyData → En → Prop} (n : Nat) (p : Nat → Bool) (g : Nat → PyData)
    (h1 : ∀ k, k < n → ∃ s1, bindT tg (.int (k : Nat)) (wipeE s own) = some s1 ∧ Wp (fun t s2 => t = p k ∧ (p k = true → Wp (fun v s3 => Cq ((two && decide (v.1 ≠ .o1)) || v.1.isB) (v.2 = g k ∧ wipeE s3 own = wipeE s own)) (fun _ _ => False) (ev G elt s2)) ∧ (p k = false → wipeE s2 own = wipeE s own)) (fun _ _ => False) (evTs G ifs s1))
    (h2 : Q (((List.range n).filter p).map g) s) : Cp G two own tg ifs elt Q X (rangeD 0 n) s := by
  rw [rangeD0]
  exact cp_filter (List.range n) (fun i => PyData.int (i : Nat)) p g (fun k hk => h1 k (List.mem_range.mp hk)) h2
end
end DV
namespace DV
open PySem
/-- how a def ends -/
def Rt (io : Nat) (Q : MD → List MD → Prop) (f : Fl) (s : En) : Prop := ∃ os, outsE io s = some os ∧ ((∃ v, f = .rt v ∧ Q v os) ∨ (f = .nx ∧ Q (.fz, .none) os))
def Rx (io : Nat) (X : Xn → List MD → Prop) (x : Xn) (s : En) : Prop := ∃ os, outsE io s = some os ∧ X x os
section
variable {s : En} {Q : MD → List MD → Prop} {X : Xn → List MD → Prop} {os : List MD} {io : Nat} {v o : MD} {x : Xn}
theorem rt0 (h : Q v []) : Rt 0 Q (.rt v) s := ⟨[], rfl, .inl ⟨v, rfl, h⟩⟩
theorem rn0 (h : Q (.fz, .none) []) : Rt 0 Q .nx s := ⟨[], rfl, .inr ⟨rfl, h⟩⟩
theorem rx0 (h : X x []) : Rx 0 X x s := ⟨[], rfl, h⟩
theorem outs1 (e : s[0]? = some (some o)) : outsE 1 s = some [o] := by
  show ([0] : List Nat).mapM _ = _
  rw [List.mapM_cons, List.mapM_nil, e]
  rfl
theorem rt1 (e : s[0]? = some (some o)) (h : Q v [o]) : Rt 1 Q (.rt v) s := ⟨[o], outs1 e, .inl ⟨v, rfl, h⟩⟩
theorem rn1 (e : s[0]? = some (some o)) (h : Q (.fz, .none) [o]) : Rt 1 Q .nx s := ⟨[o], outs1 e, .inr ⟨rfl, h⟩⟩
theorem rx1 (e : s[0]? = some (some o)) (h : X x [o]) : Rx 1 X x s := ⟨[o], outs1 e, h⟩
theorem w_run' {G : List Info} {body : Css} {n io : Nat} {args : List MD}
    (h : Wp (Rt io Q) (Rx io X) (exs G body (args.map some ++ List.replicate (n - args.length) none))) : WpC Q X (runD G n io body args) := w_run h
/-- a run that is told -/
theorem wpc_ret {r : RC} {v : MD} {os : List MD} (h : WpC (fun v' os' => v' = v ∧ os' = os) (fun _ _ => False) r) : r = .ret v os := by
  cases r with
  | ret v' os' => obtain ⟨rfl, rfl⟩ := wpc_r h; rfl
  | exc x os' => exact (wpc_x h).elim
  | no => exact (wpc_no h).elim
theorem wpc_exc {r : RC} {x : Xn} {os : List MD} (h : WpC (fun _ _ => False) (fun v' os' => v' = x ∧ os' = os) r) : r = .exc x os := by
  cases r with
  | ret v' os' => exact (wpc_r h).elim
  | exc x os' => obtain ⟨rfl, rfl⟩ := wpc_x h; rfl
  | no => exact (wpc_no h).elim
theorem wp_ret {i : Info} {vs : List MD} {v : MD} {Q : MD → En → Prop} {X : Xn → En → Prop} (h0 : i.io = 0) (hl : vs.length = i.ps.length) (e : i.sem (vs.map fun v => fzv v.2) = .ret v []) (hb : v.1.isB = false) (h : Q v s) : Wp Q X (callR i [] vs s) := by
  obtain ⟨m, d⟩ := v
  rw [callR0_ret h0 hl hb e]
  exact .ok h
theorem wp_rexc {i : Info} {vs : List MD} {x : Xn} {Q : MD → En → Prop} {X : Xn → En → Prop} (h0 : i.io = 0) (hl : vs.length = i.ps.length) (e : i.sem (vs.map fun v => fzv v.2) = .exc x []) (h : X x s) : Wp Q X (callR i [] vs s) := by
  rw [callR0_exc h0 hl e]
  exact .exc h
end
end DV

set_option Elab.async false
set_option linter.all false
set_option maxRecDepth 100000
set_option maxHeartbeats 2000000
/-! DV31: weakest preconditions: what data say. -/
namespace DV
open PySem
section
variable {Q : MD → Prop} {B : Bool → Prop} {m m' : Md} {a b : Int}
theorem wo_add (h : Q (.fz, .int (a + b))) : Bn .Add (.int a) (.int b) Q := ⟨_, rfl, h⟩
theorem wo_sub (h : Q (.fz, .int (a - b))) : Bn .Sub (.int a) (.int b) Q := ⟨_, rfl, h⟩
theorem wo_mul (h : Q (.fz, .int (a * b))) (hb : (-(2 ^ 64) < a ∧ a < 2 ^ 64) ∨ (-(2 ^ 64) < b ∧ b < 2 ^ 64)) : Bn .Mult (.int a) (.int b) Q := ⟨_, bin_mul hb, h⟩
theorem wo_mod (h : Q (.fz, .int (a % b))) (hb : 0 < b) : Bn .Mod (.int a) (.int b) Q := ⟨_, bin_mod hb, h⟩
theorem wo_fdiv (h : Q (.fz, .int (a / b))) (hb : 0 < b ∧ b < 1073741824) : Bn .FloorDiv (.int a) (.int b) Q := ⟨_, bin_fdiv hb, h⟩
theorem wo_pow (h : Q (.fz, .int (a ^ b.toNat))) (hb : 0 ≤ b ∧ b ≤ 1000000 ∧ a.natAbs < 2 ^ 64) : Bn .Pow (.int a) (.int b) Q := ⟨_, if_pos hb, h⟩
theorem wo_catT {xs ys : List PyData} (h : Q (.fz, .tuple (xs ++ ys))) (hl : xs.length + ys.length ≤ lineN) : Bn .Add (.tuple xs) (.tuple ys) Q := ⟨_, bin_catT hl, h⟩
theorem wo_catL {xs ys : List PyData} (h : Q (.o1, .list (xs ++ ys))) (hl : xs.length + ys.length ≤ lineN) : Bn .Add (.list xs) (.list ys) Q := ⟨_, bin_catL hl, h⟩
theorem wo_lt (h : B (decide (a < b))) : Cm .Lt (.int a) (.int b) B := ⟨_, rfl, h⟩
theorem wo_le (h : B (decide (a ≤ b))) : Cm .LtE (.int a) (.int b) B := ⟨_, rfl, h⟩
theorem wo_gt (h : B (decide (b < a))) : Cm .Gt (.int a) (.int b) B := ⟨_, rfl, h⟩
theorem wo_ge (h : B (decide (b ≤ a))) : Cm .GtE (.int a) (.int b) B := ⟨_, rfl, h⟩
theorem wo_eqI (h : B (decide (a = b))) : Cm .Eq (.int a) (.int b) B := ⟨_, by rw [cmp_eq, eqD_int, show (a == b) = decide (a = b) from rfl], h⟩
theorem wo_neI (h : B (decide (a ≠ b))) : Cm .NotEq (.int a) (.int b) B := ⟨_, by
  rw [cmp_ne, eqD_int, Option.map_some]
  by_cases e : a = b
  · simp [e]
  · simp [e], h⟩
theorem wo_eqB {a b : Bool} (h : B (a == b)) : Cm .Eq (.bool a) (.bool b) B := ⟨_, by rw [cmp_eq, eqD_bool], h⟩
theorem wo_neB {a b : Bool} (h : B (!(a == b))) : Cm .NotEq (.bool a) (.bool b) B := ⟨_, by rw [cmp_ne, eqD_bool]; rfl, h⟩
theorem wo_lenL {xs : List PyData} (h : Q (.fz, .int xs.length)) : Bf .len [.list xs] Q := ⟨_, rfl, h⟩
theorem wo_lenT {xs : List PyData} (h : Q (.fz, .int xs.length)) : Bf .len [.tuple xs] Q := ⟨_, rfl, h⟩
theorem wo_lenLm {α : Type} {e : α → PyData} {xs : List α} (h : Q (.fz, .int xs.length)) : Bf .len [.list (xs.map e)] Q := ⟨_, rfl, by rw [List.length_map]; exact h⟩
theorem wo_lenTm {α : Type} {e : α → PyData} {xs : List α} (h : Q (.fz, .int xs.length)) : Bf .len [.tuple (xs.map e)] Q := ⟨_, rfl, by rw [List.length_map]; exact h⟩
theorem wo_abs (h : Q (.fz, .int (if a < 0 then -a else a))) : Bf .abs [.int a] Q := ⟨_, rfl, h⟩
theorem wo_int (h : Q (.fz, .int a)) : Bf .int [.int a] Q := ⟨_, rfl, h⟩
theorem wo_intB {b : Bool} (h : Q (.fz, .int (if b then 1 else 0))) : Bf .int [.bool b] Q := ⟨_, rfl, h⟩
theorem wo_tupL {xs : List PyData} (h : Q (.fz, .tuple xs)) : Bf .tuple [.list xs] Q := ⟨_, rfl, h⟩
theorem wo_tupT {xs : List PyData} (h : Q (.fz, .tuple xs)) : Bf .tuple [.tuple xs] Q := ⟨_, rfl, h⟩
theorem wo_lstL {xs : List PyData} (h : Q (.o1, .list xs)) : Bf .list [.list xs] Q := ⟨_, rfl, h⟩
theorem wo_lstT {xs : List PyData} (h : Q (.o1, .list xs)) : Bf .list [.tuple xs] Q := ⟨_, rfl, h⟩
theorem wo_allB {xs : List Bool} (h : Q (.fz, .bool (xs.all id))) : Bf .all [.list (xs.map PyData.bool)] Q := ⟨_, bi_all xs, h⟩
theorem wo_all {α : Type} {p : α → Bool} {xs : List α} (h : Q (.fz, .bool (xs.all p))) : Bf .all [.list (xs.map fun x => PyData.bool (p x))] Q := by
  have e : (xs.map fun x => PyData.bool (p x)) = (xs.map p).map PyData.bool := by rw [List.map_map]; rfl
  rw [e]
  refine wo_allB ?_
  rw [List.all_map]
  exact h
theorem wo_any {α : Type} {p : α → Bool} {xs : List α} (h : Q (.fz, .bool (xs.any p))) : Bf .any [.list (xs.map fun x => PyData.bool (p x))] Q := by
  have e : (xs.map fun x => PyData.bool (p x)) = (xs.map p).map PyData.bool := by rw [List.map_map]; rfl
  rw [e]
  refine ⟨_, show (boolsD _).map _ = _ from by rw [boolsD_map]; rfl, ?_⟩
  show Q (.fz, .bool ((xs.map p).any id))
  rw [List.any_map]
  exact h
theorem wo_minL {ns : List Int} (h : Q (.fz, .int (minI ns))) (hl : 0 < ns.length) : Bf .min [.list (ns.map PyData.int)] Q := ⟨_, by show (intsD _).bind _ = _; rw [intsD_map]; exact if_pos hl, h⟩
theorem wo_maxL {ns : List Int} (h : Q (.fz, .int (maxI ns))) (hl : 0 < ns.length) : Bf .max [.list (ns.map PyData.int)] Q := ⟨_, by show (intsD _).bind _ = _; rw [intsD_map]; exact if_pos hl, h⟩
theorem wo_minT {ns : List Int} (h : Q (.fz, .int (minI ns))) (hl : 0 < ns.length) : Bf .min [.tuple (ns.map PyData.int)] Q := ⟨_, by show (intsD _).bind _ = _; rw [intsD_map]; exact if_pos hl, h⟩
theorem wo_maxT {ns : List Int} (h : Q (.fz, .int (maxI ns))) (hl : 0 < ns.length) : Bf .max [.tuple (ns.map PyData.int)] Q := ⟨_, by show (intsD _).bind _ = _; rw [intsD_map]; exact if_pos hl, h⟩
theorem wo_min2 (h : Q (.fz, .int (if b < a then b else a))) : Bf .min2 [.int a, .int b] Q := ⟨_, rfl, h⟩
theorem wo_max2 (h : Q (.fz, .int (if b > a then b else a))) : Bf .max2 [.int a, .int b] Q := ⟨_, rfl, h⟩
theorem wo_sumL {ns : List Int} (h : Q (.fz, .int ns.sum)) : Bf .sum [.list (ns.map PyData.int)] Q := ⟨_, by show (intsD _).map _ = _; rw [intsD_map]; rfl, h⟩
theorem wo_lenSet {ns : List Int} (h : Q (.fz, .int (dedI ns).length)) (hl : ns.length ≤ 4000) : Bf .lenSet [.list (ns.map PyData.int)] Q := ⟨_, by show (intsD _).bind _ = _; rw [intsD_map]; exact if_pos hl, h⟩
theorem wo_listRg {n : Nat} (h : Q (.o1, .list (rangeD 0 n))) (hn : n ≤ lineN) : Bf .listRg [.int n] Q := ⟨_, by show (if okRg 0 n = true then some (Md.o1, PyData.list (rangeD 0 n)) else none) = _; rw [okRg0 hn, if_pos rfl], h⟩
theorem wo_tupRg {n : Nat} (h : Q (.fz, .tuple (rangeD 0 n))) (hn : n ≤ lineN) : Bf .tupRg [.int n] Q := ⟨_, by show (if okRg 0 n = true then some (fzv (PyData.tuple (rangeD 0 n))) else none) = _; rw [okRg0 hn, if_pos rfl]; rfl, h⟩
/-! ### subscripts -/
theorem wo_T0 {d : PyData} {ds : List PyData} (h : Q (.fz, d)) : Iy (m, .tuple (d :: ds)) (m', .int 0) Q := ⟨_, ixT0 _ _ _ _, h⟩
theorem wo_T1 {d0 d : PyData} {ds : List PyData} (h : Q (.fz, d)) : Iy (m, .tuple (d0 :: d :: ds)) (m', .int 1) Q := ⟨_, ixT1 _ _ _ _ _, h⟩
theorem wo_T2 {d0 d1 d : PyData} {ds : List PyData} (h : Q (.fz, d)) : Iy (m, .tuple (d0 :: d1 :: d :: ds)) (m', .int 2) Q := ⟨_, ixT2 _ _ _ _ _ _, h⟩
theorem wo_T3 {d0 d1 d2 d : PyData} {ds : List PyData} (h : Q (.fz, d)) : Iy (m, .tuple (d0 :: d1 :: d2 :: d :: ds)) (m', .int 3) Q := ⟨_, ixT (i := 3) rfl rfl, h⟩
theorem wo_L0 {d : PyData} {ds : List PyData} (hm : m.is2 = false) (h : Q (.fz, d)) : Iy (m, .list (d :: ds)) (m', .int 0) Q := ⟨_, ixL (i := 0) hm rfl rfl, h⟩
theorem wo_L1 {d0 d : PyData} {ds : List PyData} (hm : m.is2 = false) (h : Q (.fz, d)) : Iy (m, .list (d0 :: d :: ds)) (m', .int 1) Q := ⟨_, ixL (i := 1) hm rfl rfl, h⟩
theorem wo_ixTm {α : Type} {e : α → PyData} {xs : List α} {z : Int} {i : Nat} (x : α) (h : Q (.fz, e x)) (hz : z = i) (hx : xs[i]? = some x) : Iy (m, .tuple (xs.map e)) (m', .int z) Q := ⟨_, by subst hz; exact ixTm hx, h⟩
theorem wo_ixLm {α : Type} {e : α → PyData} {xs : List α} {z : Int} {i : Nat} (x : α) (h : Q (.fz, e x)) (hz : z = i) (hx : xs[i]? = some x) (hm : m.is2 = false) : Iy (m, .list (xs.map e)) (m', .int z) Q := ⟨_, by subst hz; exact ixLm hm hx, h⟩
theorem wo_ixTn {α : Type} {e : α → PyData} {xs : List α} {z : Int} (x0 : α) (h : Q (.fz, e (xs.getD z.toNat x0))) (hz : 0 ≤ z) (hx : z < xs.length) : Iy (m, .tuple (xs.map e)) (m', .int z) Q :=
  wo_ixTm (i := z.toNat) _ h (by omega) (by rw [List.getD_eq_getElem?_getD, List.getElem?_eq_getElem (by omega)]; rfl)
theorem wo_ixLn {α : Type} {e : α → PyData} {xs : List α} {z : Int} (x0 : α) (h : Q (.fz, e (xs.getD z.toNat x0))) (hz : 0 ≤ z) (hx : z < xs.length) (hm : m.is2 = false) : Iy (m, .list (xs.map e)) (m', .int z) Q :=
  wo_ixLm (i := z.toNat) _ h (by omega) (by rw [List.getD_eq_getElem?_getD, List.getElem?_eq_getElem (by omega)]; rfl) hm
/-! ### sources -/
section
variable {Q : List PyData × Bool → Prop}
theorem wi_seqT {xs : List PyData} (hm : m.is2 = false) (h : Q (xs, m.isB)) : It .seq [(m, .tuple xs)] Q := ⟨_, by show (if m.is2 = true then none else (seqD (.tuple xs)).map fun xs => (xs, m.isB)) = _; rw [hm]; rfl, h⟩
theorem wi_seqL {xs : List PyData} (hm : m.is2 = false) (h : Q (xs, m.isB)) : It .seq [(m, .list xs)] Q := ⟨_, by show (if m.is2 = true then none else (seqD (.list xs)).map fun xs => (xs, m.isB)) = _; rw [hm]; rfl, h⟩
theorem wi_rng {n : Nat} (h : Q (rangeD 0 n, false)) (hn : n ≤ lineN) : It .rng1 [(m, .int n)] Q := ⟨_, items_rng m hn, h⟩
theorem wi_enmT {α : Type} {e : α → PyData} {xs : List α} (hm : m.is2 = false) (h : Q ((xs.zipIdx).map (fun p => PyData.tuple [.int p.2, e p.1]), m.isB)) : It .enm [(m, .tuple (xs.map e))] Q := ⟨_, by
  show (if m.is2 = true then none else (seqD (.tuple (xs.map e))).map fun xs => (xs.mapIdx fun i x => PyData.tuple [.int i, x], m.isB)) = _
  rw [hm]
  show some ((xs.map e).mapIdx fun i x => PyData.tuple [.int i, x], m.isB) = some (xs.zipIdx.map (fun p => PyData.tuple [.int p.2, e p.1]), m.isB)
  rw [List.mapIdx_eq_zipIdx_map, List.zipIdx_map, List.map_map]
  rfl, h⟩
theorem wi_enmL {α : Type} {e : α → PyData} {xs : List α} (hm : m.is2 = false) (h : Q ((xs.zipIdx).map (fun p => PyData.tuple [.int p.2, e p.1]), m.isB)) : It .enm [(m, .list (xs.map e))] Q := ⟨_, by
  show (if m.is2 = true then none else (seqD (.list (xs.map e))).map fun xs => (xs.mapIdx fun i x => PyData.tuple [.int i, x], m.isB)) = _
  rw [hm]
  show some ((xs.map e).mapIdx fun i x => PyData.tuple [.int i, x], m.isB) = some (xs.zipIdx.map (fun p => PyData.tuple [.int p.2, e p.1]), m.isB)
  rw [List.mapIdx_eq_zipIdx_map, List.zipIdx_map, List.map_map]
  rfl, h⟩
end
end
/-! ### data that are equal just if what they stand for is -/
structure EqE {α : Type} [DecidableEq α] (e : α → PyData) (n : Nat) : Prop where
  lay : ∀ a, (e a).canLay0 = true
  dep : ∀ a, (e a).depth ≤ n
  eqv : ∀ a b, PyData.eqv (e a) (e b) = decide (a = b)
section
variable {α β : Type} [DecidableEq α] [DecidableEq β] {e : α → PyData} {f : β → PyData} {n k : Nat} {B : Bool → Prop}
theorem EqE.up (h : EqE e n) (hn : n ≤ k) : EqE e k := ⟨h.lay, fun a => Nat.le_trans (h.dep a) hn, h.eqv⟩
theorem eqe_int : EqE PyData.int 0 := ⟨fun _ => by simp [PyData.canLay0], fun _ => by simp [PyData.depth], fun a b => by simp only [PyData.eqv]; rfl⟩
theorem eqe_bool : EqE PyData.bool 0 := ⟨fun _ => by simp [PyData.canLay0], fun _ => by simp [PyData.depth], fun a b => by cases a <;> cases b <;> simp [PyData.eqv]⟩
theorem lay_all (h : ∀ a, (e a).canLay0 = true) : ∀ xs : List α, PyData.canLayAll0 (xs.map e) = true
  | [] => by simp [PyData.canLayAll0]
  | x :: xs => by simp [PyData.canLayAll0, h x, lay_all h xs]
theorem dep_all (h : ∀ a, (e a).depth ≤ n) : ∀ xs : List α, PyData.depthAll (xs.map e) ≤ n
  | [] => by simp [PyData.depthAll]
  | x :: xs => by simp only [List.map_cons, PyData.depthAll]; exact Nat.max_le.mpr ⟨h x, dep_all h xs⟩
theorem eqv_all (h : ∀ a b, PyData.eqv (e a) (e b) = decide (a = b)) : ∀ xs ys : List α, PyData.eqvAll (xs.map e) (ys.map e) = decide (xs = ys)
  | [], [] => by simp [PyData.eqvAll]
  | [], _ :: _ => by simp [PyData.eqvAll]
  | _ :: _, [] => by simp [PyData.eqvAll]
  | x :: xs, y :: ys => by simp [PyData.eqvAll, h x y, eqv_all h xs ys]
theorem eqe_tup (h : EqE e n) : EqE (fun xs : List α => PyData.tuple (xs.map e)) (n + 1) := ⟨fun xs => by simp [PyData.canLay0]; exact lay_all h.lay xs, fun xs => by simp [PyData.depth]; exact dep_all h.dep xs, fun xs ys => by simp only [PyData.eqv]; exact eqv_all h.eqv xs ys⟩
theorem eqe_lst (h : EqE e n) : EqE (fun xs : List α => PyData.list (xs.map e)) (n + 1) := ⟨fun xs => by simp [PyData.canLay0]; exact lay_all h.lay xs, fun xs => by simp [PyData.depth]; exact dep_all h.dep xs, fun xs ys => by simp only [PyData.eqv]; exact eqv_all h.eqv xs ys⟩
theorem eqe_pair (h : EqE e n) (h' : EqE f n) : EqE (fun p : α × β => PyData.tuple [e p.1, f p.2]) (n + 1) := ⟨fun p => by simp [PyData.canLay0, PyData.canLayAll0, h.lay, h'.lay], fun p => by
  simp only [PyData.depth, PyData.depthAll]
  exact Nat.succ_le_succ (Nat.max_le.mpr ⟨h.dep _, Nat.max_le.mpr ⟨h'.dep _, Nat.zero_le _⟩⟩), fun p q => by
  simp only [PyData.eqv, PyData.eqvAll, h.eqv, h'.eqv, Bool.and_true]
  obtain ⟨a, b⟩ := p
  obtain ⟨c, d⟩ := q
  simp⟩
theorem EqE.shaped (h : EqE e n) (hn : n ≤ 64) (a : α) : SeqAt.shaped (e a) = true := by
  unfold SeqAt.shaped
  rw [h.lay, decide_eq_true (Nat.le_trans (h.dep a) hn)]; rfl
theorem EqE.eq (h : EqE e n) (hn : n ≤ 64) (a b : α) : eqD (e a) (e b) = some (decide (a = b)) := by
  unfold eqD
  rw [h.shaped hn, h.shaped hn, h.eqv]; rfl
theorem wo_eqE (h : EqE e n) (hn : n ≤ 64) {a b : α} (q : B (decide (a = b))) : Cm .Eq (e a) (e b) B := ⟨_, by rw [cmp_eq, h.eq hn], q⟩
theorem wo_neE (h : EqE e n) (hn : n ≤ 64) {a b : α} (q : B (decide (a ≠ b))) : Cm .NotEq (e a) (e b) B := ⟨_, by
  rw [cmp_ne, h.eq hn, Option.map_some]
  by_cases z : a = b
  · simp [z]
  · simp [z], q⟩
theorem inD_eq (h : EqE e n) (a : α) (xs : List α) : inD (e a) (xs.map e) = decide (a ∈ xs) := by
  unfold inD
  rw [List.any_map]
  induction xs with
  | nil => simp
  | cons x xs ih =>
    rw [List.any_cons, ih]
    show (PyData.eqv (e x) (e a) || _) = _
    rw [h.eqv]
    by_cases z : x = a
    · simp [z]
    · have z' : ¬ a = x := fun w => z w.symm
      simp [z, z']
theorem wo_inT (h : EqE e n) (hn : n + 1 ≤ 64) {a : α} {xs : List α} (q : B (decide (a ∈ xs))) : Cm .In (e a) (.tuple (xs.map e)) B := ⟨_, by
  have h1 := h.shaped (by omega) a
  have h2 := (eqe_lst h).shaped hn xs
  have e1 : cmpD .In (e a) (.tuple (xs.map e)) = if (SeqAt.shaped (e a) && SeqAt.shaped (.list (xs.map e))) = true then some (inD (e a) (xs.map e)) else none := by cases e a <;> rfl
  rw [e1, h1, h2, inD_eq h]; rfl, q⟩
theorem wo_inL (h : EqE e n) (hn : n + 1 ≤ 64) {a : α} {xs : List α} (q : B (decide (a ∈ xs))) : Cm .In (e a) (.list (xs.map e)) B := ⟨_, by
  have h1 := h.shaped (by omega) a
  have h2 := (eqe_lst h).shaped hn xs
  have e1 : cmpD .In (e a) (.list (xs.map e)) = if (SeqAt.shaped (e a) && SeqAt.shaped (.list (xs.map e))) = true then some (inD (e a) (xs.map e)) else none := by cases e a <;> rfl
  rw [e1, h1, h2, inD_eq h]; rfl, q⟩
theorem wo_niL (h : EqE e n) (hn : n + 1 ≤ 64) {a : α} {xs : List α} (q : B (decide (a ∉ xs))) : Cm .NotIn (e a) (.list (xs.map e)) B := ⟨_, by
  have h1 := h.shaped (by omega) a
  have h2 := (eqe_lst h).shaped hn xs
  have e1 : cmpD .NotIn (e a) (.list (xs.map e)) = if (SeqAt.shaped (e a) && SeqAt.shaped (.list (xs.map e))) = true then some (!inD (e a) (xs.map e)) else none := by cases e a <;> rfl
  rw [e1, h1, h2, inD_eq h, decide_not]; rfl, q⟩
theorem wo_niT (h : EqE e n) (hn : n + 1 ≤ 64) {a : α} {xs : List α} (q : B (decide (a ∉ xs))) : Cm .NotIn (e a) (.tuple (xs.map e)) B := ⟨_, by
  have h1 := h.shaped (by omega) a
  have h2 := (eqe_lst h).shaped hn xs
  have e1 : cmpD .NotIn (e a) (.tuple (xs.map e)) = if (SeqAt.shaped (e a) && SeqAt.shaped (.list (xs.map e))) = true then some (!inD (e a) (xs.map e)) else none := by cases e a <;> rfl
  rw [e1, h1, h2, inD_eq h, decide_not]; rfl, q⟩
end
/-! ### loops over enumerate, by the place -/
section
variable {G : List Info} {body : Css} {s : En} {Q : Fl → En → Prop} {X : Xn → En → Prop} {tg : Tg}
theorem pre_at {α : Type} {xs pre post : List α} {x : α} (h : xs = pre ++ x :: post) : xs[pre.length]? = some x := by
  subst h
  rw [List.getElem?_append_right (Nat.le_refl _), Nat.sub_self]
  rfl
theorem lp_idx {α : Type} (xs : List α) (e : α → PyData) (I : Nat → En → Prop) (h0 : I 0 s)
    (h1 : ∀ k x s, xs[k]? = some x → I k s → ∃ s1, bindT tg (e x) s = some s1 ∧ Wp (Lk (I (k + 1)) Q) X (exs G body s1))
    (h2 : ∀ s, I xs.length s → Q .nx s) : Lp G tg body Q X (xs.map e) s := by
  refine lp_inv xs e (fun pre s => I pre.length s) h0 (fun pre x post s hx hi => ?_) h2
  have := h1 pre.length x s (pre_at hx) hi
  rw [List.length_append]
  exact this
theorem lp_enm {α : Type} (xs : List α) (e : α → PyData) (I : Nat → En → Prop) (h0 : I 0 s)
    (h1 : ∀ k x s, xs[k]? = some x → I k s → ∃ s1, bindT tg (.tuple [.int (k : Nat), e x]) s = some s1 ∧ Wp (Lk (I (k + 1)) Q) X (exs G body s1))
    (h2 : ∀ s, I xs.length s → Q .nx s) : Lp G tg body Q X (xs.zipIdx.map fun p => PyData.tuple [.int p.2, e p.1]) s := by
  refine lp_idx xs.zipIdx _ I h0 (fun k x s hx hi => ?_) (fun s hi => h2 s (by rw [List.length_zipIdx] at hi; exact hi))
  rw [List.getElem?_zipIdx] at hx
  obtain ⟨y, hy, rfl⟩ := Option.map_eq_some_iff.mp hx
  have h := h1 k y s hy hi
  rw [Nat.zero_add]
  exact h
variable {two : Bool} {own : List Nat} {elt : Ce} {ifs : Ces}
theorem cp_enmF {α : Type} {Q : List PyData → En → Prop} (xs : List α) (e : α → PyData) (p : Nat → α → Bool) (g : Nat → α → PyData)
    (h1 : ∀ k x, xs[k]? = some x → ∃ s1, bindT tg (.tuple [.int (k : Nat), e x]) (wipeE s own) = some s1 ∧ Wp (fun t s2 => t = p k x ∧ (p k x = true → Wp (fun v s3 => Cq ((two && decide (v.1 ≠ .o1)) || v.1.isB) (v.2 = g k x ∧ wipeE s3 own = wipeE s own)) (fun _ _ => False) (ev G elt s2)) ∧ (p k x = false → wipeE s2 own = wipeE s own)) (fun _ _ => False) (evTs G ifs s1))
    (h2 : Q ((xs.zipIdx.filter fun q => p q.2 q.1).map fun q => g q.2 q.1) s) : Cp G two own tg ifs elt Q X (xs.zipIdx.map fun p => PyData.tuple [.int p.2, e p.1]) s :=
  cp_filter xs.zipIdx _ (fun q => p q.2 q.1) (fun q => g q.2 q.1) (fun q hq => h1 q.2 q.1 (List.mem_zipIdx_iff_getElem?.mp hq)) h2
end
/-! ### slots that hold nothing owned -/
def nh (x : Option MD) : Prop := ∀ m d, x = some (m, d) → m = .fz
theorem nh_none : nh none := fun _ _ z => nomatch z
theorem nh_fz {d : PyData} : nh (some (.fz, d)) := fun _ _ z => by cases z; rfl
theorem nh_held {s : En} {i : Nat} {x : Option MD} (hx : nh x) (h : s[i]? = some x) : heldE s i = false := by
  unfold heldE
  rw [h]
  cases x with
  | none => rfl
  | some p =>
    obtain ⟨m, d⟩ := p
    obtain rfl := hx m d rfl
    rfl
theorem own1 {b : Bool} {s : En} {i : Nat} (hb : b = false) (h : heldE s i = false) : (b || [i].any (heldE s)) = false := by
  rw [hb, List.any_cons, h]; rfl
theorem own2 {b : Bool} {s : En} {i j : Nat} (hb : b = false) (h : heldE s i = false) (h' : heldE s j = false) : (b || [i, j].any (heldE s)) = false := by
  rw [hb, List.any_cons, List.any_cons, h, h']; rfl
theorem ixI_nat {len n : Nat} (h : n < len) : ixI len (n : Int) = some n := by
  unfold ixI
  rw [if_pos (by omega), if_pos (by omega)]
  rfl
/-! ### builtins over numbers, however they are written -/
section
variable {Q : MD → Prop} {m : Md} {ds : List PyData}
abbrev nI (n : Nat) : PyData := .int n
theorem wo_minE (ns : List Int) (e : ds = ns.map PyData.int) (hl : 0 < ns.length) (h : Q (.fz, .int (minI ns))) : Wo Q (biD .min [.list ds]) := by subst e; exact wo_minL h hl
theorem wo_maxE (ns : List Int) (e : ds = ns.map PyData.int) (hl : 0 < ns.length) (h : Q (.fz, .int (maxI ns))) : Wo Q (biD .max [.list ds]) := by subst e; exact wo_maxL h hl
theorem wo_minTE (ns : List Int) (e : ds = ns.map PyData.int) (hl : 0 < ns.length) (h : Q (.fz, .int (minI ns))) : Wo Q (biD .min [.tuple ds]) := by subst e; exact wo_minT h hl
theorem wo_maxTE (ns : List Int) (e : ds = ns.map PyData.int) (hl : 0 < ns.length) (h : Q (.fz, .int (maxI ns))) : Wo Q (biD .max [.tuple ds]) := by subst e; exact wo_maxT h hl
theorem wo_lenSetE (ns : List Int) (e : ds = ns.map PyData.int) (hl : ns.length ≤ 4000) (h : Q (.fz, .int (dedI ns).length)) : Wo Q (biD .lenSet [.list ds]) := by subst e; exact wo_lenSet h hl
theorem map_nI (ns : List Nat) : ns.map nI = (ns.map fun n => ((n : Nat) : Int)).map PyData.int := by rw [List.map_map]; rfl
theorem eqe_nI : EqE nI 0 := ⟨fun a => eqe_int.lay _, fun a => eqe_int.dep _, fun a b => by
  show PyData.eqv (.int a) (.int b) = _
  rw [eqe_int.eqv]
  by_cases h : a = b
  · simp [h]
  · have : ¬ ((a : Int) = b) := by omega
    simp [h, this]⟩
theorem range_at {n k x : Nat} (hk : (List.range n)[k]? = some x) : k < n ∧ x = k := by
  obtain ⟨h1, h2⟩ := List.getElem?_eq_some_iff.mp hk
  rw [List.length_range] at h1
  rw [List.getElem_range] at h2
  exact ⟨h1, h2.symm⟩
end
theorem zip_range (n : Nat) : (List.range n).zipIdx = (List.range n).map fun i => (i, i) := by
  refine List.ext_getElem? fun j => ?_
  rw [List.getElem?_zipIdx, List.getElem?_map]
  by_cases h : j < n
  · rw [List.getElem?_range h]
    simp
  · rw [List.getElem?_eq_none (by rw [List.length_range]; omega)]
    rfl
theorem zip_filter (n : Nat) (p : Nat → Bool) (g : Nat → PyData) : ((List.range n).zipIdx.filter fun q => p q.1).map (fun q => g q.2) = ((List.range n).filter p).map g := by
  rw [zip_range, List.filter_map, List.map_map]
  rfl
/-! ### slices -/
theorem cut_from (xs : List PyData) (k : Nat) : cutD xs (some (k : Int)) none = xs.drop k := by
  unfold cutD
  rw [HT.sIx_nat, HT.sIx_none]
  rcases Nat.lt_or_ge xs.length k with h | h
  · rw [Nat.min_eq_right (Nat.le_of_lt h), Nat.sub_self, List.take_zero, List.drop_eq_nil_of_le (Nat.le_of_lt h)]
  · rw [Nat.min_eq_left h]
    exact List.take_of_length_le (by rw [List.length_drop]; exact Nat.le_refl _)
theorem cut_to (xs : List PyData) (k : Nat) : cutD xs none (some (k : Int)) = xs.take k := by
  unfold cutD
  rw [HT.sIx_nat, HT.sIx_none, List.drop_zero, Nat.sub_zero]
  rcases Nat.lt_or_ge xs.length k with h | h
  · rw [Nat.min_eq_right (Nat.le_of_lt h), List.take_length, List.take_of_length_le (Nat.le_of_lt h)]
  · rw [Nat.min_eq_left h]
/-! ### data that may be compared -/
/-- it may be compared, and is so deep at most -/
def Sh (n : Nat) (d : PyData) : Prop := d.canLay0 = true ∧ d.depth ≤ n
theorem Sh.shaped {n : Nat} {d : PyData} (h : Sh n d) (hn : n ≤ 64) : SeqAt.shaped d = true := by
  unfold SeqAt.shaped
  rw [h.1, decide_eq_true (Nat.le_trans h.2 hn)]; rfl
theorem Sh.up {n k : Nat} {d : PyData} (h : Sh n d) (hn : n ≤ k) : Sh k d := ⟨h.1, Nat.le_trans h.2 hn⟩
theorem sh_int {n : Nat} (i : Int) : Sh n (.int i) := ⟨by simp [PyData.canLay0], by simp [PyData.depth]⟩
theorem sh_bool {n : Nat} (i : Bool) : Sh n (.bool i) := ⟨by simp [PyData.canLay0], by simp [PyData.depth]⟩
theorem sh_none {n : Nat} : Sh n .none := ⟨by simp [PyData.canLay0], by simp [PyData.depth]⟩
theorem sh_str {n : Nat} {x : Str} (h : PyData.canLay0 (.str x) = true) : Sh n (.str x) := ⟨h, by simp [PyData.depth]⟩
theorem sh_all {n : Nat} : ∀ {xs : List PyData}, (∀ x ∈ xs, Sh n x) → PyData.canLayAll0 xs = true ∧ PyData.depthAll xs ≤ n
  | [], _ => ⟨by simp [PyData.canLayAll0], by simp [PyData.depthAll]⟩
  | x :: xs, h => by
    have h1 := h x List.mem_cons_self
    have h2 := sh_all (xs := xs) fun y hy => h y (List.mem_cons_of_mem _ hy)
    exact ⟨by simp only [PyData.canLayAll0, h1.1, h2.1]; rfl, by simp only [PyData.depthAll]; exact Nat.max_le.mpr ⟨h1.2, h2.2⟩⟩
theorem sh_tup {n : Nat} {xs : List PyData} (h : ∀ x ∈ xs, Sh n x) : Sh (n + 1) (.tuple xs) := ⟨by simp only [PyData.canLay0]; exact (sh_all h).1, by simp only [PyData.depth]; exact Nat.succ_le_succ (sh_all h).2⟩
theorem sh_lst {n : Nat} {xs : List PyData} (h : ∀ x ∈ xs, Sh n x) : Sh (n + 1) (.list xs) := ⟨by simp only [PyData.canLay0]; exact (sh_all h).1, by simp only [PyData.depth]; exact Nat.succ_le_succ (sh_all h).2⟩
theorem sh_tup2 {n : Nat} {a b : PyData} (ha : Sh n a) (hb : Sh n b) : Sh (n + 1) (.tuple [a, b]) := sh_tup fun x hx => by
  rcases List.mem_cons.mp hx with rfl | hx
  · exact ha
  · rw [List.mem_singleton] at hx; subst hx; exact hb
theorem sh_map {α : Type} {n : Nat} {xs : List α} {e : α → PyData} (h : ∀ x ∈ xs, Sh n (e x)) : ∀ d ∈ xs.map e, Sh n d := fun d hd => by
  obtain ⟨x, hx, rfl⟩ := List.mem_map.mp hd
  exact h x hx
section
variable {α : Type} [DecidableEq α] {e : α → PyData} {B : Bool → Prop}
theorem inD_eqv (h : ∀ a b, PyData.eqv (e a) (e b) = decide (a = b)) (a : α) (xs : List α) : inD (e a) (xs.map e) = decide (a ∈ xs) := by
  unfold inD
  rw [List.any_map]
  induction xs with
  | nil => simp
  | cons x xs ih =>
    rw [List.any_cons, ih]
    show (PyData.eqv (e x) (e a) || _) = _
    rw [h]
    by_cases z : x = a
    · simp [z]
    · have z' : ¬ a = x := fun w => z w.symm
      simp [z, z']
theorem wo_inTs (h : ∀ a b, PyData.eqv (e a) (e b) = decide (a = b)) {a : α} {xs : List α} (ha : Sh 62 (e a)) (hx : ∀ x ∈ xs, Sh 62 (e x)) (q : B (decide (a ∈ xs))) : Wo B (cmpD .In (e a) (.tuple (xs.map e))) := ⟨_, by
  have h1 := ha.shaped (by decide)
  have h2 := (sh_lst (sh_map hx)).shaped (by decide)
  have e1 : cmpD .In (e a) (.tuple (xs.map e)) = if (SeqAt.shaped (e a) && SeqAt.shaped (.list (xs.map e))) = true then some (inD (e a) (xs.map e)) else none := by cases e a <;> rfl
  rw [e1, h1, h2, inD_eqv h]; rfl, q⟩
theorem wo_inLs (h : ∀ a b, PyData.eqv (e a) (e b) = decide (a = b)) {a : α} {xs : List α} (ha : Sh 62 (e a)) (hx : ∀ x ∈ xs, Sh 62 (e x)) (q : B (decide (a ∈ xs))) : Wo B (cmpD .In (e a) (.list (xs.map e))) := ⟨_, by
  have h1 := ha.shaped (by decide)
  have h2 := (sh_lst (sh_map hx)).shaped (by decide)
  have e1 : cmpD .In (e a) (.list (xs.map e)) = if (SeqAt.shaped (e a) && SeqAt.shaped (.list (xs.map e))) = true then some (inD (e a) (xs.map e)) else none := by cases e a <;> rfl
  rw [e1, h1, h2, inD_eqv h]; rfl, q⟩
theorem eqd_sh {a b : PyData} (ha : Sh 64 a) (hb : Sh 64 b) : eqD a b = some (PyData.eqv a b) := by
  unfold eqD
  rw [ha.shaped (by decide), hb.shaped (by decide)]; rfl
theorem wo_eqs {a b : PyData} (ha : Sh 64 a) (hb : Sh 64 b) (q : B (PyData.eqv a b)) : Wo B (cmpD .Eq a b) := ⟨_, by rw [cmp_eq, eqd_sh ha hb], q⟩
theorem wo_nes {a b : PyData} (ha : Sh 64 a) (hb : Sh 64 b) (q : B (!PyData.eqv a b)) : Wo B (cmpD .NotEq a b) := ⟨_, by rw [cmp_ne, eqd_sh ha hb]; rfl, q⟩
theorem eqv_nilL (xs : List PyData) : PyData.eqv (.list xs) (.list []) = xs.isEmpty := by cases xs <;> simp [PyData.eqv, PyData.eqvAll]
theorem eqv_nilT (xs : List PyData) : PyData.eqv (.tuple xs) (.tuple []) = xs.isEmpty := by cases xs <;> simp [PyData.eqv, PyData.eqvAll]
end
theorem eqv_str (a b : Str) : PyData.eqv (.str a) (.str b) = decide (a = b) := by simp only [PyData.eqv]; rfl
theorem eqv_int (a b : Int) : PyData.eqv (.int a) (.int b) = decide (a = b) := by simp only [PyData.eqv]; rfl
theorem eqv_pair (a b c d : PyData) : PyData.eqv (.tuple [a, b]) (.tuple [c, d]) = (PyData.eqv a c && PyData.eqv b d) := by simp only [PyData.eqv, PyData.eqvAll, Bool.and_true]
end DV

set_option Elab.async false
set_option linter.all false
set_option maxRecDepth 100000
set_option maxHeartbeats 2000000
/-! DV32: weakest preconditions: lists in lists, a source of draws. -/
namespace DV
open PySem
section
variable {G : List Info} {a j : Ce} {s : En} {i : Nat}
theorem w_pop2 {Q : MD → En → Prop} {X : Xn → En → Prop} (hq : qt j = true) (hs : hasE s i = true)
    (h : Wp (fun k s1 => ∃ z xs n ys y r, k.2 = .int z ∧ s1[i]? = some (some (.o2, .list xs)) ∧ ixI xs.length z = some n ∧ xs[n]? = some (.list ys) ∧ lastPop ys = some (y, r) ∧ Q (.fz, y) (s1.set i (some (.o2, .list (xs.set n (.list r)))))) X (ev G j s)) : Ev (.pop2 i j) G s Q X := by
  show Wp Q X (if (qt j && hasE s i) = true then (ev G j s).bind fun k s1 => match k.2, ownedL i s1 with
    | .int k, some (.o2, xs) => match ixI xs.length k with
      | none => Rs.no
      | some n => match xs[n]? with
        | some (.list ys) => match lastPop ys with
          | some (y, r) => .ok (fzv y) (s1.set i (some (.o2, .list (xs.set n (.list r)))))
          | none => .no
        | _ => .no
    | _, _ => .no
    else .no)
  rw [hq, hs, show (true && true) = true from rfl, if_pos rfl]
  refine Wp.bind (h.imq fun k s1 h => ?_)
  obtain ⟨z, xs, n, ys, y, r, e1, e2, e3, e4, e5, h⟩ := h
  have e2' : ownedL i s1 = some (.o2, xs) := by unfold ownedL; rw [e2]
  rw [e1, e2']
  show Wp Q X (match ixI xs.length z with
      | none => Rs.no
      | some n => match xs[n]? with
        | some (.list ys) => match lastPop ys with
          | some (y, r) => .ok (fzv y) (s1.set i (some (.o2, .list (xs.set n (.list r)))))
          | none => .no
        | _ => .no)
  rw [e3]
  show Wp Q X (match xs[n]? with
        | some (.list ys) => match lastPop ys with
          | some (y, r) => Rs.ok (fzv y) (s1.set i (some (.o2, .list (xs.set n (.list r)))))
          | none => .no
        | _ => .no)
  rw [e4]
  show Wp Q X (match lastPop ys with
          | some (y, r) => Rs.ok (fzv y) (s1.set i (some (.o2, .list (xs.set n (.list r)))))
          | none => .no)
  rw [e5]
  exact .ok h
theorem w_app2 {Q : Fl → En → Prop} {X : Xn → En → Prop} (hq : (qt j && qt a && hasE s i) = true)
    (h : Wp (fun k s1 => ∃ z xs n ys, k.2 = .int z ∧ s1[i]? = some (some (.o2, .list xs)) ∧ ixI xs.length z = some n ∧ xs[n]? = some (.list ys) ∧ Wp (fun v s2 => s2 = s1 ∧ Cq v.1.isB (ys.length < lineN ∧ Q .nx (s2.set i (some (.o2, .list (xs.set n (.list (ys ++ [v.2])))))))) X (ev G a s1)) X (ev G j s)) : Ex (.app2 i j a) G s Q X := by
  show Wp Q X (if (qt j && qt a && hasE s i) = true then (ev G j s).bind fun k s1 => (match inner i k.2 s1 with
      | none => .no
      | some _ => (keepR (ev G a s1)).bind fun v s2 => (match inner i k.2 s2 with
        | some (n, xs, ys) => if ys.length < lineN then .ok .nx (s2.set i (some (.o2, .list (xs.set n (.list (ys ++ [v.2])))))) else .no
        | none => .no)) else .no)
  rw [if_pos hq]
  refine Wp.bind (h.imq fun k s1 h => ?_)
  obtain ⟨z, xs, n, ys, e1, e2, e3, e4, h⟩ := h
  have e2' : ownedL i s1 = some (.o2, xs) := by unfold ownedL; rw [e2]
  have e5 : inner i k.2 s1 = some (n, xs, ys) := by
    unfold inner
    rw [e1, e2']
    show (ixI xs.length z).bind _ = _
    rw [e3]
    show (match xs[n]? with
      | some (.list ys) => some (n, xs, ys)
      | _ => none) = _
    rw [e4]
  rw [e5]
  refine Wp.bind (w_keep (Q := fun v s2 => Wp Q X (match inner i k.2 s2 with
        | some (n, xs, ys) => if ys.length < lineN then .ok .nx (s2.set i (some (.o2, .list (xs.set n (.list (ys ++ [v.2])))))) else .no
        | none => .no)) (h.imq fun v s2 h => ?_))
  obtain ⟨rfl, h1, h2, h3⟩ := h
  refine ⟨h1, ?_⟩
  rw [e5]
  show Wp Q X (if ys.length < lineN then .ok .nx (s2.set i (some (.o2, .list (xs.set n (.list (ys ++ [v.2])))))) else .no)
  rw [if_pos h2]
  exact .ok h3
/-- l[k] = v, l a list of lists: v nothing that changes -/
theorem w_set2 {Q : Fl → En → Prop} {X : Xn → En → Prop} (hq : (qt j && isL2 s i) = true) (h : Wp (fun v s1 => Cq v.1.isB (Ct (hasE s1 i) (Wp (fun k s2 => ∃ xs z n, s2[i]? = some (some (.o2, .list xs)) ∧ k.2 = .int z ∧ ixI xs.length z = some n ∧ (decide (v.1 = .o1) || imm v.2) = true ∧ Q .nx (s2.set i (some (.o2, .list (xs.set n v.2))))) X (ev G j s1)))) X (ev G a s)) : Ex (.set i j a) G s Q X := by
  show Wp Q X ((keepR (ev G a s)).bind fun v s1 => if (qt j && hasE s1 i) = true then (ev G j s1).bind fun k s2 => (match s2[i]?, k.2 with
      | some (some (.o1, .list xs)), .int k => (match ixI xs.length k with
        | some n => .ok .nx (s2.set i (some (.o1, .list (xs.set n v.2))))
        | none => .no)
      | some (some (.o2, .list xs)), .int k => (match ixI xs.length k with
        | some n => if (decide (v.1 = .o1) || imm v.2) = true then .ok .nx (s2.set i (some (.o2, .list (xs.set n v.2)))) else .no
        | none => .no)
      | some (some (.o1, .dict kvs)), .int k => if kvs.length < 1000000 then .ok .nx (s2.set i (some (.o1, .dict (put (.int k) v.2 kvs)))) else .no
      | some (some (.o1, .dict kvs)), .str k => if kvs.length < 1000000 then .ok .nx (s2.set i (some (.o1, .dict (put (.str k) v.2 kvs)))) else .no
      | _, _ => .no) else .no)
  refine Wp.bind (w_keep (Q := fun v s1 => Wp Q X (if (qt j && hasE s1 i) = true then (ev G j s1).bind fun k s2 => (match s2[i]?, k.2 with
      | some (some (.o1, .list xs)), .int k => (match ixI xs.length k with
        | some n => .ok .nx (s2.set i (some (.o1, .list (xs.set n v.2))))
        | none => .no)
      | some (some (.o2, .list xs)), .int k => (match ixI xs.length k with
        | some n => if (decide (v.1 = .o1) || imm v.2) = true then .ok .nx (s2.set i (some (.o2, .list (xs.set n v.2)))) else .no
        | none => .no)
      | some (some (.o1, .dict kvs)), .int k => if kvs.length < 1000000 then .ok .nx (s2.set i (some (.o1, .dict (put (.int k) v.2 kvs)))) else .no
      | some (some (.o1, .dict kvs)), .str k => if kvs.length < 1000000 then .ok .nx (s2.set i (some (.o1, .dict (put (.str k) v.2 kvs)))) else .no
      | _, _ => .no) else .no)) (h.imq fun v s1 h => ⟨h.1, ?_⟩))
  have hq := (Bool.and_eq_true_iff.mp hq).1
  rw [hq, h.2.1]
  rw [show (true && true) = true from rfl, if_pos rfl]
  refine Wp.bind (h.2.2.imq fun k s2 h => ?_)
  obtain ⟨xs, z, n, e1, e2, e3, e4, h⟩ := h
  rw [e1, e2]
  show Wp Q X (match ixI xs.length z with
        | some n => if (decide (v.1 = .o1) || imm v.2) = true then .ok .nx (s2.set i (some (.o2, .list (xs.set n v.2)))) else .no
        | none => .no)
  rw [e3]
  show Wp Q X (if (decide (v.1 = .o1) || imm v.2) = true then .ok .nx (s2.set i (some (.o2, .list (xs.set n v.2)))) else .no)
  rw [if_pos e4]
  exact .ok h
end
/-- a source of draws -/
def IsDeal (d : PyData) : Prop := ∃ (ns : List Int) (b : Int), d = .list [.list (ns.map PyData.int), .int b] ∧ ns.length ≤ 900
theorem lastPop_map (ns : List Int) (x : Int) : lastPop ((ns ++ [x]).map PyData.int) = some (.int x, ns.map PyData.int) := by
  rw [List.map_append]
  cases ns with
  | nil => rfl
  | cons y ns =>
    show some (((PyData.int y :: (ns.map PyData.int ++ [PyData.int x])).getLast _), ((PyData.int y :: (ns.map PyData.int ++ [PyData.int x])).dropLast)) = _
    have e : PyData.int y :: (ns.map PyData.int ++ [PyData.int x]) = (PyData.int y :: ns.map PyData.int) ++ [PyData.int x] := rfl
    congr 2
    · simp only [e, List.getLast_append, List.getLast_singleton]
      rfl
    · rw [e, List.dropLast_concat]
      rfl
theorem atD_last (ns : List Int) (x : Int) : atD ((ns ++ [x]).map PyData.int) (-1) = some (.int x) := by
  unfold atD ixI
  rw [List.length_map, List.length_append]
  rw [if_neg (by decide), if_pos (by simp only [List.length_cons, List.length_nil]; omega)]
  show ((ns ++ [x]).map PyData.int)[((-1 : Int) + ((ns.length + [x].length : Nat) : Int)).toNat]? = _
  rw [show ((-1 : Int) + ((ns.length + [x].length : Nat) : Int)).toNat = ns.length by simp only [List.length_cons, List.length_nil]; omega, List.map_append, List.getElem?_append_right (by rw [List.length_map]; exact Nat.le_refl _), List.length_map, Nat.sub_self]
  rfl
theorem split_last {α : Type} {xs : List α} (h : xs ≠ []) : ∃ ys y, xs = ys ++ [y] := ⟨xs.dropLast, xs.getLast h, (List.dropLast_concat_getLast h).symm⟩
theorem wo_neNilI {B : Bool → Prop} {ns : List Int} (q : B (decide (ns ≠ []))) : Wo B (cmpD .NotEq (.list (ns.map PyData.int)) (.list [])) :=
  wo_nes (sh_lst (n := 0) (sh_map fun x _ => sh_int x) |>.up (by decide)) (sh_lst (n := 0) (fun x hx => absurd hx List.not_mem_nil) |>.up (by decide)) (by
    rw [eqv_nilL]
    have e : (!(ns.map PyData.int).isEmpty) = decide (ns ≠ []) := by cases ns <;> simp
    rw [e]
    exact q)
theorem wo_eqNilI {B : Bool → Prop} {ns : List Int} (q : B (decide (ns = []))) : Wo B (cmpD .Eq (.list (ns.map PyData.int)) (.list [])) :=
  wo_eqs (sh_lst (n := 0) (sh_map fun x _ => sh_int x) |>.up (by decide)) (sh_lst (n := 0) (fun x hx => absurd hx List.not_mem_nil) |>.up (by decide)) (by
    rw [eqv_nilL]
    have e : ((ns.map PyData.int).isEmpty) = decide (ns = []) := by cases ns <;> simp
    rw [e]
    exact q)
theorem deal0 {Q : MD → Prop} {m : Md} {xs : List PyData} {d : PyData} (q : Q (.b1, .list xs)) : Wo Q (ixR (.b2, .list [.list xs, d]) (m, .int 0)) := ⟨_, rfl, q⟩
theorem deal1 {Q : MD → Prop} {m : Md} {l : PyData} {b : Int} (q : Q (.fz, .int b)) : Wo Q (ixR (.b2, .list [l, .int b]) (m, .int 1)) := ⟨_, rfl, q⟩
theorem wo_lastI {Q : MD → Prop} {m m' : Md} {ns : List Int} {x : Int} (hm : m.is2 = false) (q : Q (.fz, .int x)) : Wo Q (ixR (m, .list ((ns ++ [x]).map PyData.int)) (m', .int (-1))) := ⟨_, (by
  show (atD ((ns ++ [x]).map PyData.int) (-1)).bind _ = _
  rw [atD_last]
  cases m <;> first | rfl | cases hm), q⟩
theorem wo_eqNilN {B : Bool → Prop} {ns : List Nat} (q : B (decide (ns = []))) : Wo B (cmpD .Eq (.list (ns.map nI)) (.list [])) := by
  rw [map_nI]
  refine wo_eqNilI ?_
  have e : decide ((ns.map fun n => ((n : Nat) : Int)) = []) = decide (ns = []) := by cases ns <;> simp
  rw [e]
  exact q
theorem rangeD_int (n : Nat) : rangeD 0 n = ((List.range n).map fun y => ((y : Nat) : Int)).map PyData.int := by rw [rangeD0, List.map_map]; rfl
/-- both ways of an if go on alike -/
theorem ft_join {K : Fl → En → Prop} {X : Xn → En → Prop} {A B : Rs Fl} {t : Bool} (I : En → Prop) (hA : t = true → Wp (fun f s => f = .nx ∧ I s) X A) (hB : t = false → Wp (fun f s => f = .nx ∧ I s) X B) (hK : ∀ s, I s → K .nx s) : Ft t (Wp K X A) (Wp K X B) :=
  ⟨fun z => (hA z).imq fun f s h => by obtain ⟨rfl, h⟩ := h; exact hK s h, fun z => (hB z).imq fun f s h => by obtain ⟨rfl, h⟩ := h; exact hK s h⟩
/-- a loop over any data that are all alike in P -/
theorem lp_mem {G : List Info} {tg : Tg} {body : Css} {Q : Fl → En → Prop} {X : Xn → En → Prop} {xs : List PyData} {s : En} (P : PyData → Prop) (I : En → Prop) (hP : ∀ d ∈ xs, P d) (h0 : I s)
    (h1 : ∀ d s, P d → I s → ∃ s1, bindT tg d s = some s1 ∧ Wp (Lk I Q) X (exs G body s1)) (h2 : ∀ s, I s → Q .nx s) : Lp G tg body Q X xs s := by
  have e : xs = xs.map fun d => d := (List.map_id' xs).symm
  rw [e]
  exact lp_inv xs (fun d => d) (fun _ s => I s) h0 (fun pre d post s hx hi => h1 d s (hP d (by rw [hx]; simp)) hi) h2
end DV

set_option Elab.async false
set_option linter.all false
set_option maxRecDepth 100000
set_option maxHeartbeats 0
/-! printed by gen.py: the core bodies of the law's defs -/
namespace W74
open PySem L2 DV
def N__law_draw : List Str := ["_law_script", "_law_salt", "_law_cells", "_law_blend", "_law_cell"]
def b__law_draw : Css := (.cons (.asg (.nm 2) (.comp false [4] (.bi .abs (.cons (.bi .int (.cons (.var 4) .nil)) .nil)) (.nm 4) .seq (.cons (.sl (.var 0) .none (.some (.int 48))) .nil) .nil)) (.cons (.asg (.nm 3) (.bin .Add (.int 7919) (.bin .Mult (.int 104729) (.var 1)))) (.cons (.for (.nm 4) .seq (.cons (.frz 2) .nil) (.cons (.asg (.nm 3) (.bin .Mod (.bi .int (.cons (.bin .Add (.bin .Add (.bin .Mult (.var 3) (.int 48271)) (.bin .Mod (.var 4) (.int 2147483549))) (.int 11)) .nil)) (.int 2147483647))) .nil)) (.cons (.ret (.lst true (.cons (.rev (.comp false [4] (.frz 4) (.nm 4) .seq (.cons (.var 2) .nil) (.cons (.cmp .GtE (.var 4) (.bin .Pow (.int 10) (.int 18))) .nil))) (.cons (.frz 3) .nil)))) .nil))))
def G__law_draw : List Info := []
def i__law_draw : Info := { name := "_law_draw", ps := ["_law_script", "_law_salt"], io := 0, sem := runD G__law_draw 5 0 b__law_draw }
def N__law_any : List Str := ["_law_deal", "_law_bound", "_law_rest"]
def b__law_any : Css := (.cons (.whl 1000 (.and (.cons (.cmp .NotEq (.ix (.var 0) (.int 0)) (.lst false .nil)) (.cons (.cmp .Eq (.ix (.ix (.var 0) (.int 0)) (.neg (.int 1))) (.int 0)) .nil))) (.cons (.exp (.pop2 0 (.int 0))) .nil)) (.cons (.ite (.cmp .NotEq (.ix (.var 0) (.int 0)) (.lst false .nil)) (.cons (.asg (.nm 2) (.bi .int (.cons (.pop2 0 (.int 0)) .nil))) (.cons (.app2 0 (.int 0) (.bin .FloorDiv (.var 2) (.var 1))) (.cons (.ret (.bin .Mod (.var 2) (.var 1))) .nil))) .nil) (.cons (.set 0 (.int 1) (.bin .Mod (.bi .int (.cons (.bin .Add (.bin .Mult (.ix (.var 0) (.int 1)) (.int 40693)) (.int 71)) .nil)) (.int 2147483647))) (.cons (.ret (.bin .Mod (.bi .int (.cons (.bin .FloorDiv (.ix (.var 0) (.int 1)) (.int 64)) .nil)) (.var 1))) .nil))))
def G__law_any : List Info := []
def i__law_any : Info := { name := "_law_any", ps := ["_law_deal", "_law_bound"], io := 1, sem := runD G__law_any 3 1 b__law_any }
def N__law_rows : List Str := ["_law_size", "_law_many", "_law_rows_here", "_law_turn", "_law_longer", "_law_row", "_law_value"]
def b__law_rows : Css := (.cons (.asg (.nm 2) (.lst false (.cons (.tup .nil) .nil))) (.cons (.for (.nm 3) .rng1 (.cons (.var 1) .nil) (.cons (.asg (.nm 4) (.lst false .nil)) (.cons (.for (.nm 5) .seq (.cons (.frz 2) .nil) (.cons (.asg (.nm 4) (.bin .Add (.var 4) (.comp false [6] (.bin .Add (.var 5) (.tup (.cons (.frz 6) .nil))) (.nm 6) .rng1 (.cons (.var 0) .nil) .nil))) .nil)) (.cons (.asg (.nm 2) (.frz 4)) .nil)))) (.cons (.ret (.mv 2)) .nil)))
def G__law_rows : List Info := []
def i__law_rows : Info := { name := "_law_rows", ps := ["_law_size", "_law_many"], io := 0, sem := runD G__law_rows 7 0 b__law_rows }
def N__law_operation : List Str := ["_law_deal", "_law_size", "_law_answers", "_law_row", "_law_places", "_law_kind"]
def b__law_operation : Css := (.cons (.par [4, 5] (.cons (.bin .Add (.int 1) (.call 1 [0] (.cons (.int 2) .nil))) (.cons (.call 1 [0] (.cons (.int 6) .nil)) .nil))) (.cons (.asg (.nm 2) (.lst false .nil)) (.cons (.for (.nm 3) .seq (.cons (.call 0 [] (.cons (.frz 1) (.cons (.frz 4) .nil))) .nil) (.cons (.ite (.cmp .Eq (.var 5) (.int 0)) (.cons (.app 2 (.call 1 [0] (.cons (.frz 1) .nil))) .nil) (.cons (.ite (.cmp .Eq (.var 5) (.int 1)) (.cons (.app 2 (.bi .max (.cons (.var 3) .nil))) .nil) (.cons (.ite (.cmp .Eq (.var 5) (.int 2)) (.cons (.app 2 (.ite (.cmp .Gt (.call 1 [0] (.cons (.int 4) .nil)) (.int 0)) (.ix (.var 3) (.int 0)) (.bi .min (.cons (.var 3) .nil)))) .nil) (.cons (.ite (.cmp .Eq (.var 5) (.int 3)) (.cons (.app 2 (.bin .Mod (.bin .Add (.ix (.var 3) (.int 0)) (.int 1)) (.var 1))) .nil) (.cons (.app 2 (.bi .min (.cons (.var 3) .nil))) .nil)) .nil)) .nil)) .nil)) .nil)) (.cons (.ret (.tup (.cons (.frz 4) (.cons (.bi .tuple (.cons (.var 2) .nil)) .nil)))) .nil))))
def G__law_operation : List Info := [i__law_rows, i__law_any]
def i__law_operation : Info := { name := "_law_operation", ps := ["_law_deal", "_law_size"], io := 1, sem := runD G__law_operation 6 1 b__law_operation }
def N__law_book : List Str := ["_law_deal", "_law_most", "_law_size", "_law_turn"]
def b__law_book : Css := (.cons (.asg (.nm 2) (.bin .Add (.int 2) (.call 0 [0] (.cons (.bin .Sub (.var 1) (.int 1)) .nil)))) (.cons (.ret (.tup (.cons (.frz 2) (.cons (.bi .tuple (.cons (.comp false [3] (.call 1 [0] (.cons (.frz 2) .nil)) (.nm 3) .rng1 (.cons (.bin .Add (.int 1) (.call 0 [0] (.cons (.int 2) .nil))) .nil) .nil) .nil)) .nil)))) .nil))
def G__law_book : List Info := [i__law_any, i__law_operation]
def i__law_book : Info := { name := "_law_book", ps := ["_law_deal", "_law_most"], io := 1, sem := runD G__law_book 4 1 b__law_book }
def N__law_of : List Str := ["_law_deal", "_law_some"]
def b__law_of : Css := (.cons (.ret (.ix (.var 1) (.call 0 [0] (.cons (.bi .len (.cons (.var 1) .nil)) .nil)))) .nil)
def G__law_of : List Info := [i__law_any]
def i__law_of : Info := { name := "_law_of", ps := ["_law_deal", "_law_some"], io := 1, sem := runD G__law_of 2 1 b__law_of }
def N__law_cut : List Str := ["_law_deal", "_law_book_here", "_law_most", "_law_whole", "_law_number", "_law_at", "_law_ends", "_law_size", "_law_lists", "_law_lines", "_law_some", "_law_place", "_law_operation_here", "_law_readings", "_law_kind", "_law_value"]
def b__law_cut : Css := (.cons (.par [7, 8, 9] (.cons (.ix (.var 1) (.int 0)) (.cons (.lst false .nil) (.cons (.lst false .nil) .nil)))) (.cons (.for (.nm 4) .rng1 (.cons (.bin .Add (.int 1) (.call 1 [0] (.cons (.int 2) .nil))) .nil) (.cons (.asg (.nm 10) (.comp false [15] (.frz 15) (.nm 15) .rng1 (.cons (.var 7) .nil) (.cons (.cmp .Gt (.call 1 [0] (.cons (.int 3) .nil)) (.int 0)) .nil))) (.cons (.app 8 (.ite (.or (.cons (.var 3) (.cons (.cmp .Eq (.var 10) (.lst false .nil)) .nil))) (.bi .tupRg (.cons (.var 7) .nil)) (.bi .tuple (.cons (.var 10) .nil)))) .nil))) (.cons (.for (.nm 5) .rng1 (.cons (.bin .Add (.int 1) (.call 1 [0] (.cons (.frz 2) .nil))) .nil) (.cons (.par [12, 13] (.cons (.call 1 [0] (.cons (.bi .len (.cons (.ix (.var 1) (.int 1)) .nil)) .nil)) (.cons (.lst false .nil) .nil))) (.cons (.for (.nm 11) .rng1 (.cons (.ix (.ix (.ix (.var 1) (.int 1)) (.var 12)) (.int 0)) .nil) (.cons (.asg (.nm 14) (.call 1 [0] (.cons (.int 7) .nil))) (.cons (.ite (.cmp .Eq (.var 14) (.int 0)) (.cons (.app 13 (.tup (.cons (.str "value") (.cons (.call 1 [0] (.cons (.frz 7) .nil)) .nil)))) .nil) (.cons (.ite (.or (.cons (.cmp .Lt (.var 14) (.int 3)) (.cons (.cmp .Eq (.var 5) (.int 0)) .nil))) (.cons (.app 13 (.tup (.cons (.str "in") (.cons (.call 1 [0] (.cons (.bi .len (.cons (.var 8) .nil)) .nil)) .nil)))) .nil) (.cons (.app 13 (.tup (.cons (.str "line") (.cons (.call 1 [0] (.cons (.frz 5) .nil)) .nil)))) .nil)) .nil)) .nil))) (.cons (.app 9 (.tup (.cons (.frz 12) (.cons (.bi .tuple (.cons (.var 13) .nil)) .nil)))) .nil)))) (.cons (.asg (.nm 6) (.bin .Add (.tup (.cons (.tup (.cons (.str "line") (.cons (.bin .Sub (.bi .len (.cons (.var 9) .nil)) (.int 1)) .nil))) .nil)) (.call 0 [0] (.cons (.lst false (.cons (.tup .nil) (.cons (.tup (.cons (.tup (.cons (.str "line") (.cons (.call 1 [0] (.cons (.bi .len (.cons (.var 9) .nil)) .nil)) .nil))) .nil)) (.cons (.tup (.cons (.tup (.cons (.str "in") (.cons (.int 0) .nil))) .nil)) .nil)))) .nil)))) (.cons (.ret (.tup (.cons (.bi .tuple (.cons (.var 8) .nil)) (.cons (.bi .tuple (.cons (.var 9) .nil)) (.cons (.frz 6) .nil))))) .nil)))))
def G__law_cut : List Info := [i__law_of, i__law_any]
def i__law_cut : Info := { name := "_law_cut", ps := ["_law_deal", "_law_book_here", "_law_most", "_law_whole"], io := 1, sem := runD G__law_cut 16 1 b__law_cut }
def N_is_sequence : List Str := ["value"]
def b_is_sequence : Css := (.cons (.ret (.isi (.var 0) [.list, .tuple])) .nil)
def G_is_sequence : List Info := []
def i_is_sequence : Info := { name := "is_sequence", ps := ["value"], io := 0, sem := runD G_is_sequence 1 0 b_is_sequence }
def N_is_pair : List Str := ["value"]
def b_is_pair : Css := (.cons (.ret (.and (.cons (.call 0 [] (.cons (.frz 0) .nil)) (.cons (.cmp .Eq (.bi .len (.cons (.var 0) .nil)) (.int 2)) .nil)))) .nil)
def G_is_pair : List Info := [i_is_sequence]
def i_is_pair : Info := { name := "is_pair", ps := ["value"], io := 0, sem := runD G_is_pair 1 0 b_is_pair }
def N_is_integer : List Str := ["value"]
def b_is_integer : Css := (.cons (.ret (.and (.cons (.isi (.var 0) [.int]) (.cons (.not (.isi (.var 0) [.bool])) .nil)))) .nil)
def G_is_integer : List Info := []
def i_is_integer : Info := { name := "is_integer", ps := ["value"], io := 0, sem := runD G_is_integer 1 0 b_is_integer }
def N_is_number : List Str := ["value"]
def b_is_number : Css := (.cons (.ret (.and (.cons (.call 0 [] (.cons (.frz 0) .nil)) (.cons (.cmp .GtE (.var 0) (.int 0)) .nil)))) .nil)
def G_is_number : List Info := [i_is_integer]
def i_is_number : Info := { name := "is_number", ps := ["value"], io := 0, sem := runD G_is_number 1 0 b_is_number }
def N_is_below : List Str := ["value", "many"]
def b_is_below : Css := (.cons (.ret (.and (.cons (.call 0 [] (.cons (.frz 0) .nil)) (.cons (.cmp .Lt (.var 0) (.var 1)) .nil)))) .nil)
def G_is_below : List Info := [i_is_number]
def i_is_below : Info := { name := "is_below", ps := ["value", "many"], io := 0, sem := runD G_is_below 2 0 b_is_below }
def N_power_of : List Str := ["base", "many", "found", "turn"]
def b_power_of : Css := (.cons (.asg (.nm 2) (.int 1)) (.cons (.for (.nm 3) .rng1 (.cons (.var 1) .nil) (.cons (.aug 2 .Mult (.var 0)) .nil)) (.cons (.ret (.mv 2)) .nil)))
def G_power_of : List Info := []
def i_power_of : Info := { name := "power_of", ps := ["base", "many"], io := 0, sem := runD G_power_of 4 0 b_power_of }
def N_is_table : List Str := ["size", "value", "most", "one"]
def b_is_table : Css := (.cons (.ite (.or (.cons (.not (.call 0 [] (.cons (.frz 1) .nil))) (.cons (.not (.call 1 [] (.cons (.ix (.var 1) (.int 0)) (.cons (.bin .Add (.var 2) (.int 1)) .nil)))) (.cons (.not (.call 2 [] (.cons (.ix (.var 1) (.int 1)) .nil))) .nil)))) (.cons (.ret (.bl false)) .nil) .nil) (.cons (.ret (.and (.cons (.cmp .Eq (.bi .len (.cons (.ix (.var 1) (.int 1)) .nil)) (.call 3 [] (.cons (.frz 0) (.cons (.ix (.var 1) (.int 0)) .nil)))) (.cons (.bi .all (.cons (.comp false [3] (.call 1 [] (.cons (.frz 3) (.cons (.frz 0) .nil))) (.nm 3) .seq (.cons (.ix (.var 1) (.int 1)) .nil) .nil) .nil)) .nil)))) .nil))
def G_is_table : List Info := [i_is_pair, i_is_below, i_is_sequence, i_power_of]
def i_is_table : Info := { name := "is_table", ps := ["size", "value", "most"], io := 0, sem := runD G_is_table 4 0 b_is_table }
def N_is_operation : List Str := ["size", "value"]
def b_is_operation : Css := (.cons (.ret (.and (.cons (.call 0 [] (.cons (.frz 0) (.cons (.frz 1) (.cons (.glo "MOST_PLACES" 3) .nil)))) (.cons (.cmp .Gt (.ix (.var 1) (.int 0)) (.int 0)) .nil)))) .nil)
def G_is_operation : List Info := [i_is_table]
def i_is_operation : Info := { name := "is_operation", ps := ["size", "value"], io := 0, sem := runD G_is_operation 2 0 b_is_operation }
def N_in_tuples : List Str := ["table"]
def b_in_tuples : Css := (.cons (.ret (.tup (.cons (.ix (.var 0) (.int 0)) (.cons (.bi .tuple (.cons (.ix (.var 0) (.int 1)) .nil)) .nil)))) .nil)
def G_in_tuples : List Info := []
def i_in_tuples : Info := { name := "in_tuples", ps := ["table"], io := 0, sem := runD G_in_tuples 1 0 b_in_tuples }
def N_need_book : List Str := ["value", "at", "operation"]
def b_need_book : Css := (.cons (.ite (.or (.cons (.not (.call 0 [] (.cons (.frz 0) .nil))) (.cons (.not (.call 1 [] (.cons (.ix (.var 0) (.int 0)) .nil))) (.cons (.not (.chn .LtE .LtE (.int 2) (.ix (.var 0) (.int 0)) (.glo "MOST_SIZE" 8))) .nil)))) (.cons (.rais "InvalidBook" "at" (.neg (.int 1))) .nil) .nil) (.cons (.ite (.or (.cons (.not (.call 2 [] (.cons (.ix (.var 0) (.int 1)) .nil))) (.cons (.cmp .Gt (.bi .len (.cons (.ix (.var 0) (.int 1)) .nil)) (.glo "MOST_OPERATIONS" 8)) .nil))) (.cons (.rais "InvalidBook" "at" (.neg (.int 1))) .nil) .nil) (.cons (.for (.tp [.nm 1, .nm 2]) .enm (.cons (.ix (.var 0) (.int 1)) .nil) (.cons (.ite (.not (.call 3 [] (.cons (.ix (.var 0) (.int 0)) (.cons (.frz 2) .nil)))) (.cons (.rais "InvalidBook" "at" (.frz 1)) .nil) .nil) .nil)) (.cons (.ret (.tup (.cons (.ix (.var 0) (.int 0)) (.cons (.bi .tuple (.cons (.comp false [2] (.call 4 [] (.cons (.frz 2) .nil)) (.nm 2) .seq (.cons (.ix (.var 0) (.int 1)) .nil) .nil) .nil)) .nil)))) .nil))))
def G_need_book : List Info := [i_is_pair, i_is_integer, i_is_sequence, i_is_operation, i_in_tuples]
def i_need_book : Info := { name := "need_book", ps := ["value"], io := 0, sem := runD G_need_book 3 0 b_need_book }
def N_is_list : List Str := ["size", "value", "at", "one"]
def b_is_list : Css := (.cons (.ite (.or (.cons (.not (.isi (.var 1) [.tuple])) (.cons (.cmp .Eq (.bi .len (.cons (.var 1) .nil)) (.int 0)) (.cons (.not (.bi .all (.cons (.comp false [3] (.call 0 [] (.cons (.frz 3) (.cons (.frz 0) .nil))) (.nm 3) .seq (.cons (.var 1) .nil) .nil) .nil))) .nil)))) (.cons (.ret (.bl false)) .nil) .nil) (.cons (.ret (.bi .all (.cons (.comp false [2] (.cmp .Lt (.ix (.var 1) (.var 2)) (.ix (.var 1) (.bin .Add (.var 2) (.int 1)))) (.nm 2) .rng1 (.cons (.bin .Sub (.bi .len (.cons (.var 1) .nil)) (.int 1)) .nil) .nil) .nil))) .nil))
def G_is_list : List Info := [i_is_below]
def i_is_list : Info := { name := "is_list", ps := ["size", "value"], io := 0, sem := runD G_is_list 4 0 b_is_list }
def N_is_string : List Str := ["value"]
def b_is_string : Css := (.cons (.ret (.isi (.var 0) [.str])) .nil)
def G_is_string : List Info := []
def i_is_string : Info := { name := "is_string", ps := ["value"], io := 0, sem := runD G_is_string 1 0 b_is_string }
def N_is_reading : List Str := ["size", "inputs", "lines", "value", "most"]
def b_is_reading : Css := (.cons (.ite (.or (.cons (.not (.isi (.var 3) [.tuple])) (.cons (.cmp .NotEq (.bi .len (.cons (.var 3) .nil)) (.int 2)) (.cons (.not (.call 1 [] (.cons (.ix (.var 3) (.int 0)) .nil))) .nil)))) (.cons (.ret (.bl false)) .nil) .nil) (.cons (.asg (.nm 4) (.dct ["in", "line", "value"] (.cons (.frz 1) (.cons (.frz 2) (.cons (.frz 0) .nil))))) (.cons (.ret (.and (.cons (.cmp .In (.ix (.var 3) (.int 0)) (.var 4)) (.cons (.call 0 [] (.cons (.ix (.var 3) (.int 1)) (.cons (.ix (.var 4) (.ix (.var 3) (.int 0))) .nil))) .nil)))) .nil)))
def G_is_reading : List Info := [i_is_below, i_is_string]
def i_is_reading : Info := { name := "is_reading", ps := ["size", "inputs", "lines", "value"], io := 0, sem := runD G_is_reading 5 0 b_is_reading }
def N_is_line : List Str := ["book", "inputs", "at", "value", "reading"]
def b_is_line : Css := (.cons (.ite (.or (.cons (.not (.isi (.var 3) [.tuple])) (.cons (.cmp .NotEq (.bi .len (.cons (.var 3) .nil)) (.int 2)) (.cons (.not (.call 0 [] (.cons (.ix (.var 3) (.int 0)) (.cons (.bi .len (.cons (.ix (.var 0) (.int 1)) .nil)) .nil)))) .nil)))) (.cons (.ret (.bl false)) .nil) .nil) (.cons (.ite (.or (.cons (.not (.isi (.ix (.var 3) (.int 1)) [.tuple])) (.cons (.cmp .NotEq (.bi .len (.cons (.ix (.var 3) (.int 1)) .nil)) (.ix (.ix (.ix (.var 0) (.int 1)) (.ix (.var 3) (.int 0))) (.int 0))) .nil))) (.cons (.ret (.bl false)) .nil) .nil) (.cons (.ret (.bi .all (.cons (.comp false [4] (.call 1 [] (.cons (.ix (.var 0) (.int 0)) (.cons (.frz 1) (.cons (.frz 2) (.cons (.frz 4) .nil))))) (.nm 4) .seq (.cons (.ix (.var 3) (.int 1)) .nil) .nil) .nil))) .nil)))
def G_is_line : List Info := [i_is_below, i_is_reading]
def i_is_line : Info := { name := "is_line", ps := ["book", "inputs", "at", "value"], io := 0, sem := runD G_is_line 5 0 b_is_line }
def N_need_cut : List Str := ["book", "value", "lists", "lines", "ends", "one", "end", "at", "line"]
def b_need_cut : Css := (.cons (.ite (.or (.cons (.not (.isi (.var 1) [.tuple])) (.cons (.cmp .NotEq (.bi .len (.cons (.var 1) .nil)) (.int 3)) .nil))) (.cons (.rais "InvalidCut" "at" (.neg (.int 1))) .nil) .nil) (.cons (.asg (.tp [.nm 2, .nm 3, .nm 4]) (.frz 1)) (.cons (.ite (.or (.cons (.not (.isi (.var 2) [.tuple])) (.cons (.not (.bi .all (.cons (.comp false [5] (.call 0 [] (.cons (.ix (.var 0) (.int 0)) (.cons (.frz 5) .nil))) (.nm 5) .seq (.cons (.var 2) .nil) .nil) .nil))) .nil))) (.cons (.rais "InvalidCut" "at" (.int 0)) .nil) .nil) (.cons (.ite (.or (.cons (.not (.isi (.var 3) [.tuple])) (.cons (.not (.bi .all (.cons (.comp false [7, 8] (.call 1 [] (.cons (.frz 0) (.cons (.bi .len (.cons (.var 2) .nil)) (.cons (.frz 7) (.cons (.frz 8) .nil))))) (.tp [.nm 7, .nm 8]) .enm (.cons (.var 3) .nil) .nil) .nil))) .nil))) (.cons (.rais "InvalidCut" "at" (.int 1)) .nil) .nil) (.cons (.ite (.or (.cons (.not (.isi (.var 4) [.tuple])) (.cons (.not (.bi .all (.cons (.comp false [6] (.call 2 [] (.cons (.ix (.var 0) (.int 0)) (.cons (.bi .len (.cons (.var 2) .nil)) (.cons (.bi .len (.cons (.var 3) .nil)) (.cons (.frz 6) .nil))))) (.nm 6) .seq (.cons (.var 4) .nil) .nil) .nil))) .nil))) (.cons (.rais "InvalidCut" "at" (.int 2)) .nil) .nil) (.cons (.ret (.mv 1)) .nil))))))
def G_need_cut : List Info := [i_is_list, i_is_line, i_is_reading]
def i_need_cut : Info := { name := "need_cut", ps := ["book", "value"], io := 0, sem := runD G_need_cut 9 0 b_need_cut }
def N_need_both : List Str := ["book", "cut"]
def b_need_both : Css := (.cons (.asg (.nm 0) (.call 0 [] (.cons (.frz 0) .nil))) (.cons (.ret (.tup (.cons (.frz 0) (.cons (.call 1 [] (.cons (.frz 0) (.cons (.frz 1) .nil))) .nil)))) .nil))
def G_need_both : List Info := [i_need_book, i_need_cut]
def i_need_both : Info := { name := "need_both", ps := ["book", "cut"], io := 0, sem := runD G_need_both 2 0 b_need_both }
def N_standing_rows : List Str := ["cut", "last", "end", "at", "reading", "operation", "readings", "one"]
def b_standing_rows : Css := (.cons (.asg (.nm 1) (.bi .listRg (.cons (.bi .len (.cons (.ix (.var 0) (.int 1)) .nil)) .nil))) (.cons (.for (.tp [.nm 3, .tp [.nm 5, .nm 6]]) .enm (.cons (.ix (.var 0) (.int 1)) .nil) (.cons (.for (.nm 4) .seq (.cons (.frz 6) .nil) (.cons (.ite (.cmp .Eq (.ix (.var 4) (.int 0)) (.str "line")) (.cons (.set 1 (.ix (.var 4) (.int 1)) (.frz 3)) .nil) .nil) .nil)) .nil)) (.cons (.for (.nm 2) .seq (.cons (.ix (.var 0) (.int 2)) .nil) (.cons (.ite (.cmp .Eq (.ix (.var 2) (.int 0)) (.str "line")) (.cons (.set 1 (.ix (.var 2) (.int 1)) (.bi .len (.cons (.ix (.var 0) (.int 1)) .nil))) .nil) .nil) .nil)) (.cons (.ret (.comp false [3] (.comp false [7] (.frz 7) (.nm 7) .rng1 (.cons (.bin .Add (.var 3) (.int 1)) .nil) (.cons (.or (.cons (.cmp .Eq (.var 7) (.var 3)) (.cons (.cmp .Gt (.ix (.var 1) (.var 7)) (.var 3)) .nil))) .nil)) (.nm 3) .rng1 (.cons (.bi .len (.cons (.ix (.var 0) (.int 1)) .nil)) .nil) .nil)) .nil))))
def G_standing_rows : List Info := []
def i_standing_rows : Info := { name := "standing_rows", ps := ["cut"], io := 0, sem := runD G_standing_rows 8 0 b_standing_rows }
def N_fewest_cells : List Str := ["book", "cut", "many", "moment", "rows", "cells", "at", "row", "taken", "one", "cell"]
def b_fewest_cells : Css := (.cons (.asg (.nm 1) (.ix (.call 0 [] (.cons (.frz 0) (.cons (.frz 1) .nil))) (.int 1))) (.cons (.par [4, 5] (.cons (.call 1 [] (.cons (.frz 1) .nil)) (.cons (.lst false .nil) .nil))) (.cons (.for (.tp [.nm 6, .nm 7]) .enm (.cons (.frz 4) .nil) (.cons (.asg (.nm 8) (.comp false [9] (.ix (.var 5) (.var 9)) (.nm 9) .seq (.cons (.var 7) .nil) (.cons (.cmp .NotEq (.var 9) (.var 6)) .nil))) (.cons (.app 5 (.bi .min (.cons (.comp false [10] (.frz 10) (.nm 10) .rng1 (.cons (.bi .len (.cons (.var 7) .nil)) .nil) (.cons (.cmp .NotIn (.var 10) (.var 8)) .nil)) .nil))) .nil))) (.cons (.asg (.nm 2) (.bi .max (.cons (.bin .Add (.lst false (.cons (.int 0) .nil)) (.comp false [7] (.bi .len (.cons (.var 7) .nil)) (.nm 7) .seq (.cons (.var 4) .nil) .nil)) .nil))) (.cons (.asg (.nm 3) (.comp false [6, 7] (.frz 6) (.tp [.nm 6, .nm 7]) .enm (.cons (.var 4) .nil) (.cons (.cmp .Eq (.bi .len (.cons (.var 7) .nil)) (.var 2)) .nil))) (.cons (.ret (.tup (.cons (.frz 2) (.cons (.bi .tuple (.cons (.var 5) .nil)) (.cons (.ite (.cmp .Gt (.bi .len (.cons (.var 3) .nil)) (.int 0)) (.ix (.var 3) (.int 0)) (.non)) .nil))))) .nil))))))
def G_fewest_cells : List Info := [i_need_both, i_standing_rows]
def i_fewest_cells : Info := { name := "fewest_cells", ps := ["book", "cut"], io := 0, sem := runD G_fewest_cells 11 0 b_fewest_cells }
def N_fewest_hold : List Str := ["book", "cut", "value", "rows", "many", "cells", "moment", "row", "cell", "one"]
def b_fewest_hold : Css := (.cons (.asg (.nm 1) (.ix (.call 1 [] (.cons (.frz 0) (.cons (.frz 1) .nil))) (.int 1))) (.cons (.ite (.or (.cons (.not (.isi (.var 2) [.tuple])) (.cons (.cmp .NotEq (.bi .len (.cons (.var 2) .nil)) (.int 3)) (.cons (.not (.call 3 [] (.cons (.ix (.var 2) (.int 0)) .nil))) (.cons (.not (.isi (.ix (.var 2) (.int 1)) [.tuple])) .nil))))) (.cons (.ret (.bl false)) .nil) .nil) (.cons (.asg (.tp [.nm 4, .nm 5, .nm 6]) (.frz 2)) (.cons (.ite (.or (.cons (.cmp .NotEq (.bi .len (.cons (.var 5) .nil)) (.bi .len (.cons (.ix (.var 1) (.int 1)) .nil))) (.cons (.not (.bi .all (.cons (.comp false [8] (.call 2 [] (.cons (.frz 8) (.cons (.frz 4) .nil))) (.nm 8) .seq (.cons (.var 5) .nil) .nil) .nil))) .nil))) (.cons (.ret (.bl false)) .nil) .nil) (.cons (.asg (.nm 3) (.call 0 [] (.cons (.frz 1) .nil))) (.cons (.ite (.not (.bi .all (.cons (.comp false [7] (.cmp .Eq (.bi .lenSet (.cons (.comp false [9] (.ix (.var 5) (.var 9)) (.nm 9) .seq (.cons (.var 7) .nil) .nil) .nil)) (.bi .len (.cons (.var 7) .nil))) (.nm 7) .seq (.cons (.var 3) .nil) .nil) .nil))) (.cons (.ret (.bl false)) .nil) .nil) (.cons (.ite (.cmp .Eq (.bi .len (.cons (.var 3) .nil)) (.int 0)) (.cons (.ret (.and (.cons (.cmp .Eq (.var 4) (.int 0)) (.cons (.cmp .Is (.var 6) (.non)) .nil)))) .nil) .nil) (.cons (.ret (.and (.cons (.call 2 [] (.cons (.frz 6) (.cons (.bi .len (.cons (.var 3) .nil)) .nil))) (.cons (.cmp .Eq (.bi .len (.cons (.ix (.var 3) (.var 6)) .nil)) (.var 4)) .nil)))) .nil))))))))
def G_fewest_hold : List Info := [i_standing_rows, i_need_both, i_is_below, i_is_number]
def i_fewest_hold : Info := { name := "fewest_hold", ps := ["book", "cut", "value"], io := 0, sem := runD G_fewest_hold 10 0 b_fewest_hold }
def N__law_anchor : List Str := ["_law_book_here", "_law_cut_here", "_law_told", "_law_both", "_law_line"]
def b__law_anchor : Css := (.cons (.asg (.nm 0) (.tup (.cons (.int 2) (.cons (.tup (.cons (.tup (.cons (.int 2) (.cons (.tup (.cons (.int 0) (.cons (.int 0) (.cons (.int 0) (.cons (.int 1) .nil))))) .nil))) .nil)) .nil)))) (.cons (.par [3, 4] (.cons (.tup (.cons (.tup (.cons (.int 0) (.cons (.int 1) .nil))) (.cons (.tup (.cons (.int 0) (.cons (.int 1) .nil))) .nil))) (.cons (.tup (.cons (.int 0) (.cons (.tup (.cons (.tup (.cons (.str "in") (.cons (.int 0) .nil))) (.cons (.tup (.cons (.str "in") (.cons (.int 1) .nil))) .nil))) .nil))) .nil))) (.cons (.asg (.nm 1) (.tup (.cons (.frz 3) (.cons (.tup (.cons (.frz 4) (.cons (.tup (.cons (.int 0) (.cons (.tup (.cons (.tup (.cons (.str "in") (.cons (.int 0) .nil))) (.cons (.tup (.cons (.str "in") (.cons (.int 0) .nil))) .nil))) .nil))) (.cons (.tup (.cons (.int 0) (.cons (.tup (.cons (.tup (.cons (.str "line") (.cons (.int 0) .nil))) (.cons (.tup (.cons (.str "line") (.cons (.int 1) .nil))) .nil))) .nil))) .nil)))) (.cons (.tup (.cons (.tup (.cons (.str "line") (.cons (.int 2) .nil))) .nil)) .nil))))) (.cons (.ite (.cmp .IsNot (.callk 1 ["book", "cut", "value"] (.cons (.frz 0) (.cons (.frz 1) (.cons (.tup (.cons (.int 2) (.cons (.tup (.cons (.int 0) (.cons (.int 1) (.cons (.int 1) .nil)))) (.cons (.int 1) .nil)))) .nil)))) (.bl true)) (.cons (.ret (.bl false)) .nil) .nil) (.cons (.asg (.nm 2) (.callk 0 ["book", "cut"] (.cons (.frz 0) (.cons (.frz 1) .nil)))) (.cons (.ret (.and (.cons (.cmp .Eq (.ix (.var 2) (.int 0)) (.int 2)) (.cons (.cmp .Eq (.ix (.var 2) (.int 2)) (.int 1)) (.cons (.cmp .Eq (.call 0 [] (.cons (.frz 0) (.cons (.tup (.cons (.frz 3) (.cons (.tup .nil) (.cons (.tup (.cons (.tup (.cons (.str "in") (.cons (.int 0) .nil))) .nil)) .nil)))) .nil))) (.tup (.cons (.int 0) (.cons (.tup .nil) (.cons (.non) .nil))))) .nil))))) .nil))))))
def G__law_anchor : List Info := [i_fewest_cells, i_fewest_hold]
def i__law_anchor : Info := { name := "_law_anchor", ps := [], io := 0, sem := runD G__law_anchor 5 0 b__law_anchor }
def N__law_ways : List Str := ["_law_many", "_law_cells", "_law_rows_here", "_law_line", "_law_longer", "_law_row", "_law_cell"]
def b__law_ways : Css := (.cons (.asg (.nm 2) (.lst false (.cons (.tup .nil) .nil))) (.cons (.for (.nm 3) .rng1 (.cons (.var 0) .nil) (.cons (.asg (.nm 4) (.lst false .nil)) (.cons (.for (.nm 5) .seq (.cons (.frz 2) .nil) (.cons (.asg (.nm 4) (.bin .Add (.var 4) (.comp false [6] (.bin .Add (.var 5) (.tup (.cons (.frz 6) .nil))) (.nm 6) .rng1 (.cons (.var 1) .nil) .nil))) .nil)) (.cons (.asg (.nm 2) (.frz 4)) .nil)))) (.cons (.ret (.mv 2)) .nil)))
def G__law_ways : List Info := []
def i__law_ways : Info := { name := "_law_ways", ps := ["_law_many", "_law_cells"], io := 0, sem := runD G__law_ways 7 0 b__law_ways }
def N__law_tried : List Str := ["_law_word", "_law_values", "e"]
def b__law_tried : Css := (.cons (.tryr (.cons (.ite (.cmp .Eq (.var 0) (.str "fewest")) (.cons (.exp (.call 0 [] (.cons (.ix (.var 1) (.int 0)) (.cons (.ix (.var 1) (.int 1)) .nil)))) .nil) (.cons (.exp (.call 1 [] (.cons (.ix (.var 1) (.int 0)) (.cons (.ix (.var 1) (.int 1)) (.cons (.non) .nil))))) .nil)) .nil) [⟨["InvalidBook"], ["InvalidBook", "InvalidCut"], some 2, "at", .ret, [some (.str "book"), none]⟩, ⟨["InvalidCut"], ["InvalidBook", "InvalidCut"], some 2, "at", .ret, [some (.str "cut"), none]⟩]) (.cons (.ret (.tup (.cons (.str "none") (.cons (.int 0) .nil)))) .nil))
def G__law_tried : List Info := [i_fewest_cells, i_fewest_hold]
def i__law_tried : Info := { name := "_law_tried", ps := ["_law_word", "_law_values"], io := 0, sem := runD G__law_tried 3 0 b__law_tried }
def N__law_stands : List Str := ["_law_cut_here", "_law_at", "_law_found", "_law_one", "_law_later", "_law_operation_here", "_law_readings"]
def b__law_stands : Css := (.cons (.asg (.nm 2) (.lst false (.cons (.frz 1) .nil))) (.cons (.for (.nm 3) .rng1 (.cons (.var 1) .nil) (.cons (.asg (.nm 4) (.comp false [5, 6] (.frz 6) (.tp [.nm 5, .nm 6]) .seq (.cons (.sl (.ix (.var 0) (.int 1)) (.some (.bin .Add (.var 1) (.int 1))) .none) .nil) (.cons (.cmp .In (.tup (.cons (.str "line") (.cons (.frz 3) .nil))) (.var 6)) .nil))) (.cons (.ite (.or (.cons (.cmp .NotEq (.var 4) (.lst false .nil)) (.cons (.cmp .In (.tup (.cons (.str "line") (.cons (.frz 3) .nil))) (.ix (.var 0) (.int 2))) .nil))) (.cons (.app 2 (.frz 3)) .nil) .nil) .nil))) (.cons (.ret (.mv 2)) .nil)))
def G__law_stands : List Info := []
def i__law_stands : Info := { name := "_law_stands", ps := ["_law_cut_here", "_law_at"], io := 0, sem := runD G__law_stands 7 0 b__law_stands }
def N__law_fit : List Str := ["_law_cut_here", "_law_cells", "_law_at", "_law_row", "_law_one"]
def b__law_fit : Css := (.cons (.for (.nm 2) .rng1 (.cons (.bi .len (.cons (.ix (.var 0) (.int 1)) .nil)) .nil) (.cons (.asg (.nm 3) (.comp false [4] (.ix (.var 1) (.var 4)) (.nm 4) .seq (.cons (.call 0 [] (.cons (.frz 0) (.cons (.frz 2) .nil))) .nil) .nil)) (.cons (.ite (.cmp .Lt (.bi .lenSet (.cons (.var 3) .nil)) (.bi .len (.cons (.var 3) .nil))) (.cons (.ret (.bl false)) .nil) .nil) .nil))) (.cons (.ret (.bl true)) .nil))
def G__law_fit : List Info := [i__law_stands]
def i__law_fit : Info := { name := "_law_fit", ps := ["_law_cut_here", "_law_cells"], io := 0, sem := runD G__law_fit 5 0 b__law_fit }
def N__law_due : List Str := ["_law_cut_here", "_law_value", "_law_one", "_law_many", "_law_cells", "_law_moment", "_law_cell"]
def b__law_due : Css := (.cons (.ite (.or (.cons (.not (.isi (.var 1) [.tuple])) (.cons (.cmp .NotEq (.bi .len (.cons (.var 1) .nil)) (.int 3)) (.cons (.not (.isi (.ix (.var 1) (.int 1)) [.tuple])) .nil)))) (.cons (.ret (.bl false)) .nil) .nil) (.cons (.asg (.tp [.nm 3, .nm 4, .nm 5]) (.frz 1)) (.cons (.for (.nm 2) .seq (.cons (.bin .Add (.bin .Add (.lst false (.cons (.frz 3) .nil)) (.bi .list (.cons (.var 4) .nil))) (.ite (.cmp .Gt (.bi .len (.cons (.ix (.var 0) (.int 1)) .nil)) (.int 0)) (.lst false (.cons (.frz 5) .nil)) (.lst false .nil))) .nil) (.cons (.ite (.or (.cons (.not (.isi (.var 2) [.int])) (.cons (.isi (.var 2) [.bool]) (.cons (.cmp .Lt (.var 2) (.int 0)) .nil)))) (.cons (.ret (.bl false)) .nil) .nil) .nil)) (.cons (.ite (.or (.cons (.cmp .NotEq (.bi .len (.cons (.var 4) .nil)) (.bi .len (.cons (.ix (.var 0) (.int 1)) .nil))) (.cons (.cmp .NotEq (.comp false [6] (.frz 6) (.nm 6) .seq (.cons (.var 4) .nil) (.cons (.cmp .GtE (.var 6) (.var 3)) .nil)) (.lst false .nil)) (.cons (.not (.call 0 [] (.cons (.frz 0) (.cons (.frz 4) .nil)))) .nil)))) (.cons (.ret (.bl false)) .nil) .nil) (.cons (.ite (.cmp .Eq (.bi .len (.cons (.ix (.var 0) (.int 1)) .nil)) (.int 0)) (.cons (.ret (.and (.cons (.cmp .Eq (.var 3) (.int 0)) (.cons (.cmp .Is (.var 5) (.non)) .nil)))) .nil) .nil) (.cons (.ret (.and (.cons (.cmp .Lt (.var 5) (.bi .len (.cons (.ix (.var 0) (.int 1)) .nil))) (.cons (.cmp .Eq (.bi .len (.cons (.call 1 [] (.cons (.frz 0) (.cons (.frz 5) .nil))) .nil)) (.var 3)) .nil)))) .nil))))))
def G__law_due : List Info := [i__law_fit, i__law_stands]
def i__law_due : Info := { name := "_law_due", ps := ["_law_cut_here", "_law_value"], io := 0, sem := runD G__law_due 7 0 b__law_due }
def N_law : List Str := ["_law_script", "_law_deal", "_law_book_here", "_law_cut_here", "_law_turned", "_law_some", "_law_value", "_law_odd", "_law_word", "_law_told", "_law_stands_here", "_law_cells", "_law_at", "_law_cell", "_law_many", "_law_moment", "_law_held", "_law_one"]
def b_law : Css := (.cons (.asg (.nm 1) (.call 0 [] (.cons (.frz 0) (.cons (.int 74) .nil)))) (.cons (.ite (.not (.call 4 [] .nil)) (.cons (.ret (.bl false)) .nil) .nil) (.cons (.asg (.nm 2) (.call 1 [1] (.cons (.int 3) .nil))) (.cons (.asg (.nm 3) (.call 2 [1] (.cons (.frz 2) (.cons (.int 7) (.cons (.bl false) .nil))))) (.cons (.par [9, 10] (.cons (.call 5 [] (.cons (.frz 2) (.cons (.frz 3) .nil))) (.cons (.comp false [12] (.bi .len (.cons (.call 12 [] (.cons (.frz 3) (.cons (.frz 12) .nil))) .nil)) (.nm 12) .rng1 (.cons (.bi .len (.cons (.ix (.var 3) (.int 1)) .nil)) .nil) .nil) .nil))) (.cons (.ite (.or (.cons (.not (.call 10 [] (.cons (.frz 3) (.cons (.frz 9) .nil)))) (.cons (.cmp .NotEq (.ix (.var 9) (.int 0)) (.bi .max (.cons (.var 10) .nil))) (.cons (.cmp .NotEq (.ix (.var 9) (.int 2)) (.mth 0 (.var 10) (.cons (.bi .max (.cons (.var 10) .nil)) .nil))) .nil)))) (.cons (.ret (.bl false)) .nil) .nil) (.cons (.ite (.cmp .Lt (.bi .len (.cons (.ix (.var 3) (.int 1)) .nil)) (.int 6)) (.cons (.for (.nm 11) .seq (.cons (.call 6 [] (.cons (.bi .len (.cons (.ix (.var 3) (.int 1)) .nil)) (.cons (.bin .Sub (.ix (.var 9) (.int 0)) (.int 1)) .nil))) .nil) (.cons (.ite (.call 11 [] (.cons (.frz 3) (.cons (.frz 11) .nil))) (.cons (.ret (.bl false)) .nil) .nil) .nil)) .nil) .nil) (.cons (.par [12, 13] (.cons (.call 7 [1] (.cons (.bi .len (.cons (.ix (.var 3) (.int 1)) .nil)) .nil)) (.cons (.call 7 [1] (.cons (.bin .Add (.ix (.var 9) (.int 0)) (.int 1)) .nil)) .nil))) (.cons (.asg (.nm 4) (.bi .tuple (.cons (.comp false [17] (.bin .Sub (.bin .Sub (.ix (.var 9) (.int 0)) (.int 1)) (.var 17)) (.nm 17) .seq (.cons (.ix (.var 9) (.int 1)) .nil) .nil) .nil))) (.cons (.asg (.tp [.nm 14, .nm 11, .nm 15]) (.frz 9)) (.cons (.asg (.nm 5) (.lst false (.cons (.frz 9) (.cons (.bi .list (.cons (.var 9) .nil)) (.cons (.tup (.cons (.frz 14) (.cons (.frz 4) (.cons (.frz 15) .nil)))) (.cons (.tup (.cons (.bin .Add (.var 14) (.int 1)) (.cons (.frz 11) (.cons (.frz 15) .nil)))) (.cons (.sl (.var 9) .none (.some (.int 2))) (.cons (.bin .Add (.var 9) (.tup (.cons (.int 0) .nil))) (.cons (.non) (.cons (.tup .nil) .nil)))))))))) (.cons (.asg (.nm 5) (.bin .Add (.var 5) (.lst false (.cons (.tup (.cons (.frz 14) (.cons (.bin .Add (.bin .Add (.sl (.var 11) .none (.some (.var 12))) (.tup (.cons (.frz 13) .nil))) (.sl (.var 11) (.some (.bin .Add (.var 12) (.int 1))) .none)) (.cons (.frz 15) .nil)))) (.cons (.tup (.cons (.frz 14) (.cons (.frz 11) (.cons (.frz 12) .nil)))) (.cons (.tup (.cons (.frz 14) (.cons (.bi .list (.cons (.var 11) .nil)) (.cons (.int 0) .nil)))) .nil)))))) (.cons (.asg (.nm 5) (.bin .Add (.var 5) (.lst false (.cons (.tup (.cons (.frz 14) (.cons (.frz 11) (.cons (.non) .nil)))) (.cons (.tup (.cons (.frz 14) (.cons (.sl (.var 11) (.some (.int 1)) .none) (.cons (.frz 15) .nil)))) (.cons (.tup (.cons (.bl true) (.cons (.frz 11) (.cons (.frz 15) .nil)))) (.cons (.tup (.cons (.frz 14) (.cons (.frz 11) (.cons (.int 99) .nil)))) .nil))))))) (.cons (.for (.nm 6) .seq (.cons (.frz 5) .nil) (.cons (.asg (.nm 16) (.call 8 [] (.cons (.frz 2) (.cons (.frz 3) (.cons (.frz 6) .nil))))) (.cons (.ite (.or (.cons (.not (.isi (.var 16) [.bool])) (.cons (.cmp .NotEq (.var 16) (.call 10 [] (.cons (.frz 3) (.cons (.frz 6) .nil)))) .nil))) (.cons (.ret (.bl false)) .nil) .nil) .nil))) (.cons (.asg (.nm 7) (.call 3 [1] (.cons (.lst false (.cons (.non) (.cons (.int 3) (.cons (.str "ab") (.cons (.bl true) .nil))))) .nil))) (.cons (.for (.nm 8) .seq (.cons (.lst false (.cons (.str "fewest") (.cons (.str "hold") .nil))) .nil) (.cons (.ite (.or (.cons (.cmp .NotEq (.call 9 [] (.cons (.frz 8) (.cons (.tup (.cons (.frz 7) (.cons (.non) .nil))) .nil))) (.tup (.cons (.str "book") (.cons (.neg (.int 1)) .nil)))) (.cons (.cmp .NotEq (.call 9 [] (.cons (.frz 8) (.cons (.tup (.cons (.frz 2) (.cons (.frz 7) .nil))) .nil))) (.tup (.cons (.str "cut") (.cons (.neg (.int 1)) .nil)))) .nil))) (.cons (.ret (.bl false)) .nil) .nil) .nil)) (.cons (.ret (.cmp .Eq (.call 9 [] (.cons (.str "fewest") (.cons (.tup (.cons (.frz 2) (.cons (.bin .Add (.sl (.var 3) .none (.some (.int 2))) (.tup (.cons (.frz 7) .nil))) .nil))) .nil))) (.tup (.cons (.str "cut") (.cons (.int 2) .nil))))) .nil)))))))))))))))))
def G_law : List Info := [i__law_draw, i__law_book, i__law_cut, i__law_of, i__law_anchor, i_fewest_cells, i__law_ways, i__law_any, i_fewest_hold, i__law_tried, i__law_due, i__law_fit, i__law_stands]
def i_law : Info := { name := "law", ps := ["_law_script"], io := 0, sem := runD G_law 18 0 b_law }
end W74

set_option Elab.async false
set_option linter.all false
set_option maxRecDepth 100000
namespace W74
open PySem DV
theorem io__law_draw : i__law_draw.io = 0 := rfl
theorem pl__law_draw : i__law_draw.ps.length = 2 := rfl
theorem sem__law_draw (x : List MD) : i__law_draw.sem x = runD G__law_draw 5 0 b__law_draw x := rfl
theorem io__law_any : i__law_any.io = 1 := rfl
theorem pl__law_any : i__law_any.ps.length = 2 := rfl
theorem sem__law_any (x : List MD) : i__law_any.sem x = runD G__law_any 3 1 b__law_any x := rfl
theorem io__law_rows : i__law_rows.io = 0 := rfl
theorem pl__law_rows : i__law_rows.ps.length = 2 := rfl
theorem sem__law_rows (x : List MD) : i__law_rows.sem x = runD G__law_rows 7 0 b__law_rows x := rfl
theorem io__law_operation : i__law_operation.io = 1 := rfl
theorem pl__law_operation : i__law_operation.ps.length = 2 := rfl
theorem sem__law_operation (x : List MD) : i__law_operation.sem x = runD G__law_operation 6 1 b__law_operation x := rfl
theorem io__law_book : i__law_book.io = 1 := rfl
theorem pl__law_book : i__law_book.ps.length = 2 := rfl
theorem sem__law_book (x : List MD) : i__law_book.sem x = runD G__law_book 4 1 b__law_book x := rfl
theorem io__law_of : i__law_of.io = 1 := rfl
theorem pl__law_of : i__law_of.ps.length = 2 := rfl
theorem sem__law_of (x : List MD) : i__law_of.sem x = runD G__law_of 2 1 b__law_of x := rfl
theorem io__law_cut : i__law_cut.io = 1 := rfl
theorem pl__law_cut : i__law_cut.ps.length = 4 := rfl
theorem sem__law_cut (x : List MD) : i__law_cut.sem x = runD G__law_cut 16 1 b__law_cut x := rfl
theorem io_is_sequence : i_is_sequence.io = 0 := rfl
theorem pl_is_sequence : i_is_sequence.ps.length = 1 := rfl
theorem sem_is_sequence (x : List MD) : i_is_sequence.sem x = runD G_is_sequence 1 0 b_is_sequence x := rfl
theorem io_is_pair : i_is_pair.io = 0 := rfl
theorem pl_is_pair : i_is_pair.ps.length = 1 := rfl
theorem sem_is_pair (x : List MD) : i_is_pair.sem x = runD G_is_pair 1 0 b_is_pair x := rfl
theorem io_is_integer : i_is_integer.io = 0 := rfl
theorem pl_is_integer : i_is_integer.ps.length = 1 := rfl
theorem sem_is_integer (x : List MD) : i_is_integer.sem x = runD G_is_integer 1 0 b_is_integer x := rfl
theorem io_is_number : i_is_number.io = 0 := rfl
theorem pl_is_number : i_is_number.ps.length = 1 := rfl
theorem sem_is_number (x : List MD) : i_is_number.sem x = runD G_is_number 1 0 b_is_number x := rfl
theorem io_is_below : i_is_below.io = 0 := rfl
theorem pl_is_below : i_is_below.ps.length = 2 := rfl
theorem sem_is_below (x : List MD) : i_is_below.sem x = runD G_is_below 2 0 b_is_below x := rfl
theorem io_power_of : i_power_of.io = 0 := rfl
theorem pl_power_of : i_power_of.ps.length = 2 := rfl
theorem sem_power_of (x : List MD) : i_power_of.sem x = runD G_power_of 4 0 b_power_of x := rfl
theorem io_is_table : i_is_table.io = 0 := rfl
theorem pl_is_table : i_is_table.ps.length = 3 := rfl
theorem sem_is_table (x : List MD) : i_is_table.sem x = runD G_is_table 4 0 b_is_table x := rfl
theorem io_is_operation : i_is_operation.io = 0 := rfl
theorem pl_is_operation : i_is_operation.ps.length = 2 := rfl
theorem sem_is_operation (x : List MD) : i_is_operation.sem x = runD G_is_operation 2 0 b_is_operation x := rfl
theorem io_in_tuples : i_in_tuples.io = 0 := rfl
theorem pl_in_tuples : i_in_tuples.ps.length = 1 := rfl
theorem sem_in_tuples (x : List MD) : i_in_tuples.sem x = runD G_in_tuples 1 0 b_in_tuples x := rfl
theorem io_need_book : i_need_book.io = 0 := rfl
theorem pl_need_book : i_need_book.ps.length = 1 := rfl
theorem sem_need_book (x : List MD) : i_need_book.sem x = runD G_need_book 3 0 b_need_book x := rfl
theorem io_is_list : i_is_list.io = 0 := rfl
theorem pl_is_list : i_is_list.ps.length = 2 := rfl
theorem sem_is_list (x : List MD) : i_is_list.sem x = runD G_is_list 4 0 b_is_list x := rfl
theorem io_is_string : i_is_string.io = 0 := rfl
theorem pl_is_string : i_is_string.ps.length = 1 := rfl
theorem sem_is_string (x : List MD) : i_is_string.sem x = runD G_is_string 1 0 b_is_string x := rfl
theorem io_is_reading : i_is_reading.io = 0 := rfl
theorem pl_is_reading : i_is_reading.ps.length = 4 := rfl
theorem sem_is_reading (x : List MD) : i_is_reading.sem x = runD G_is_reading 5 0 b_is_reading x := rfl
theorem io_is_line : i_is_line.io = 0 := rfl
theorem pl_is_line : i_is_line.ps.length = 4 := rfl
theorem sem_is_line (x : List MD) : i_is_line.sem x = runD G_is_line 5 0 b_is_line x := rfl
theorem io_need_cut : i_need_cut.io = 0 := rfl
theorem pl_need_cut : i_need_cut.ps.length = 2 := rfl
theorem sem_need_cut (x : List MD) : i_need_cut.sem x = runD G_need_cut 9 0 b_need_cut x := rfl
theorem io_need_both : i_need_both.io = 0 := rfl
theorem pl_need_both : i_need_both.ps.length = 2 := rfl
theorem sem_need_both (x : List MD) : i_need_both.sem x = runD G_need_both 2 0 b_need_both x := rfl
theorem io_standing_rows : i_standing_rows.io = 0 := rfl
theorem pl_standing_rows : i_standing_rows.ps.length = 1 := rfl
theorem sem_standing_rows (x : List MD) : i_standing_rows.sem x = runD G_standing_rows 8 0 b_standing_rows x := rfl
theorem io_fewest_cells : i_fewest_cells.io = 0 := rfl
theorem pl_fewest_cells : i_fewest_cells.ps.length = 2 := rfl
theorem sem_fewest_cells (x : List MD) : i_fewest_cells.sem x = runD G_fewest_cells 11 0 b_fewest_cells x := rfl
theorem io_fewest_hold : i_fewest_hold.io = 0 := rfl
theorem pl_fewest_hold : i_fewest_hold.ps.length = 3 := rfl
theorem sem_fewest_hold (x : List MD) : i_fewest_hold.sem x = runD G_fewest_hold 10 0 b_fewest_hold x := rfl
theorem io__law_anchor : i__law_anchor.io = 0 := rfl
theorem pl__law_anchor : i__law_anchor.ps.length = 0 := rfl
theorem sem__law_anchor (x : List MD) : i__law_anchor.sem x = runD G__law_anchor 5 0 b__law_anchor x := rfl
theorem io__law_ways : i__law_ways.io = 0 := rfl
theorem pl__law_ways : i__law_ways.ps.length = 2 := rfl
theorem sem__law_ways (x : List MD) : i__law_ways.sem x = runD G__law_ways 7 0 b__law_ways x := rfl
theorem io__law_tried : i__law_tried.io = 0 := rfl
theorem pl__law_tried : i__law_tried.ps.length = 2 := rfl
theorem sem__law_tried (x : List MD) : i__law_tried.sem x = runD G__law_tried 3 0 b__law_tried x := rfl
theorem io__law_stands : i__law_stands.io = 0 := rfl
theorem pl__law_stands : i__law_stands.ps.length = 2 := rfl
theorem sem__law_stands (x : List MD) : i__law_stands.sem x = runD G__law_stands 7 0 b__law_stands x := rfl
theorem io__law_fit : i__law_fit.io = 0 := rfl
theorem pl__law_fit : i__law_fit.ps.length = 2 := rfl
theorem sem__law_fit (x : List MD) : i__law_fit.sem x = runD G__law_fit 5 0 b__law_fit x := rfl
theorem io__law_due : i__law_due.io = 0 := rfl
theorem pl__law_due : i__law_due.ps.length = 2 := rfl
theorem sem__law_due (x : List MD) : i__law_due.sem x = runD G__law_due 7 0 b__law_due x := rfl
theorem io_law : i_law.io = 0 := rfl
theorem pl_law : i_law.ps.length = 1 := rfl
theorem sem_law (x : List MD) : i_law.sem x = runD G_law 18 0 b_law x := rfl
end W74

set_option Elab.async false
set_option linter.all false
set_option maxRecDepth 100000
namespace W74
open PySem DV
theorem s_is_sequence (d : D) : i_is_sequence.sem [(.fz, d)] = .ret (.fz, .bool (tyD d .list || tyD d .tuple)) [] := by
  cases d <;> rfl
theorem s_is_integer (d : D) : i_is_integer.sem [(.fz, d)] = .ret (.fz, .bool (tyD d .int && !tyD d .bool)) [] := by
  cases d <;> rfl
def isNum : D → Bool
  | .int i => decide (0 ≤ i)
  | _ => false
theorem s_is_number (d : D) : i_is_number.sem [(.fz, d)] = .ret (.fz, .bool (isNum d)) [] := by
  cases d <;> rfl
theorem c_is_sequence (m : Md) (d : D) (s : En) : callR i_is_sequence [] [(m, d)] s = .ok (.fz, .bool (tyD d .list || tyD d .tuple)) s := callR0_ret rfl rfl rfl (s_is_sequence d)
theorem c_is_integer (m : Md) (d : D) (s : En) : callR i_is_integer [] [(m, d)] s = .ok (.fz, .bool (tyD d .int && !tyD d .bool)) s := callR0_ret rfl rfl rfl (s_is_integer d)
theorem c_is_number (m : Md) (d : D) (s : En) : callR i_is_number [] [(m, d)] s = .ok (.fz, .bool (isNum d)) s := callR0_ret rfl rfl rfl (s_is_number d)
def isBel (n : Int) : D → Bool
  | .int i => decide (0 ≤ i) && decide (i < n)
  | _ => false
theorem s_is_below (d : D) (n : Int) : i_is_below.sem [(.fz, d), (.fz, .int n)] = .ret (.fz, .bool (isBel n d)) [] := by
  cases d with
  | int i =>
    by_cases h : 0 ≤ i <;> simp [show ∀ x, i_is_below.sem x = runD G_is_below 2 0 b_is_below x from fun _ => rfl, runD, b_is_below, exs, ex, ev, evs, evAnd, frv, rdv, G_is_below, hasE, c_is_number, isNum, h, isBel, fzv_eq]
  | _ => rfl
def isPair : D → Bool
  | .list [_, _] => true
  | .tuple [_, _] => true
  | _ => false
theorem s_is_pair (d : D) : i_is_pair.sem [(.fz, d)] = .ret (.fz, .bool (isPair d)) [] := by
  cases d with
  | list xs =>
    match xs with
    | [] => rfl
    | [_] => rfl
    | [_, _] => rfl
    | x :: y :: z :: r => 
      simp [show ∀ x, i_is_pair.sem x = runD G_is_pair 1 0 b_is_pair x from fun _ => rfl, runD, b_is_pair, exs, ex, ev, evs, evAnd, frv, rdv, G_is_pair, hasE, c_is_sequence, tyD, fzv_eq, isPair]
      try omega
  | tuple xs =>
    match xs with
    | [] => rfl
    | [_] => rfl
    | [_, _] => rfl
    | x :: y :: z :: r => 
      simp [show ∀ x, i_is_pair.sem x = runD G_is_pair 1 0 b_is_pair x from fun _ => rfl, runD, b_is_pair, exs, ex, ev, evs, evAnd, frv, rdv, G_is_pair, hasE, c_is_sequence, tyD, fzv_eq, isPair]
      try omega
  | _ => rfl
def pwSt (base : Int) (n : Nat) (i : Nat) (s : En) : Prop := ∃ t, s = [some (.fz, .int base), some (.fz, .int n), some (.fz, .int (base ^ i)), t]
theorem pw_step (base : Int) (hb : 0 ≤ base ∧ base < 65536) (n i : Nat) (x : D) (s : En) (hx : (rangeD 0 n)[i]? = some x) (hs : pwSt base n i s) : ∃ s1 s2, bindT (.nm 3) x s = some s1 ∧ (exs G_power_of (.cons (.aug 2 .Mult (.var 0)) .nil) s1 = .ok .nx s2 ∨ exs G_power_of (.cons (.aug 2 .Mult (.var 0)) .nil) s1 = .ok .ct s2) ∧ pwSt base n (i + 1) s2 := by
  obtain ⟨t, rfl⟩ := hs
  obtain ⟨rfl, _⟩ := rangeD0_at hx
  refine ⟨_, _, rfl, .inl ?_, some (.fz, .int i), rfl⟩
  simp [exs, ex, ev, rdv, bin_mul (a := base ^ i) (b := base) (.inr (by omega)), Int.pow_succ]
theorem pw_loop (base : Int) (hb : 0 ≤ base ∧ base < 65536) (n : Nat) (hn : n ≤ lineN) : ∃ s', ex G_power_of (.for (.nm 3) .rng1 (.cons (.var 1) .nil) (.cons (.aug 2 .Mult (.var 0)) .nil)) [some (.fz, .int base), some (.fz, .int n), some (.fz, .int 1), none] = .ok .nx s' ∧ pwSt base n (rangeD 0 n).length s' :=
  for_run (pwSt base n) (vs := [(.fz, .int n)]) (s1 := [some (.fz, .int base), some (.fz, .int n), some (.fz, .int 1), none]) rfl (items_rng .fz hn) ⟨none, by simp⟩ (pw_step base hb n)
end W74
namespace W74
open PySem DV
theorem s_power_of (base : Int) (hb : 0 ≤ base ∧ base < 65536) (n : Nat) (hn : n ≤ 1000000) : i_power_of.sem [(.fz, .int base), (.fz, .int n)] = .ret (.fz, .int (base ^ n)) [] := by
  obtain ⟨s', e1, t, rfl⟩ := pw_loop base hb n (le_line hn)
  rw [rangeD0_len] at e1
  have e0 : ex G_power_of (.asg (.nm 2) (.int 1)) [some (.fz, .int base), some (.fz, .int n), none, none] = .ok .nx [some (.fz, .int base), some (.fz, .int n), some (.fz, .int 1), none] := by simp [ex, ev, fzv_eq]
  have e2 : ex G_power_of (.ret (.mv 2)) [some (.fz, .int base), some (.fz, .int n), some (.fz, .int (base ^ n)), t] = .ok (.rt (.fz, .int (base ^ n))) [some (.fz, .int base), some (.fz, .int n), none, t] := by simp [ex, ev, mvv]
  have e3 := (exs_nx (cs := .cons (.for (.nm 3) .rng1 (.cons (.var 1) .nil) (.cons (.aug 2 .Mult (.var 0)) .nil)) (.cons (.ret (.mv 2)) .nil)) e0).trans ((exs_nx (cs := .cons (.ret (.mv 2)) .nil) e1).trans (exs_rt e2))
  rw [sem_power_of]
  exact run_ret (n := 4) (args := [(.fz, .int base), (.fz, .int n)]) e3
theorem c_power_of (m1 m2 : Md) (base : Int) (hb : 0 ≤ base ∧ base < 65536) (n : Nat) (hn : n ≤ 1000000) (s : En) : callR i_power_of [] [(m1, .int base), (m2, .int n)] s = .ok (.fz, .int (base ^ n)) s := callR0_ret rfl rfl rfl (s_power_of base hb n hn)
theorem c_is_below (m1 m2 : Md) (d : D) (n : Int) (s : En) : callR i_is_below [] [(m1, d), (m2, .int n)] s = .ok (.fz, .bool (isBel n d)) s := callR0_ret rfl rfl rfl (s_is_below d n)
theorem c_is_pair (m1 : Md) (d : D) (s : En) : callR i_is_pair [] [(m1, d)] s = .ok (.fz, .bool (isPair d)) s := callR0_ret rfl rfl rfl (s_is_pair d)
/-! ### tables, operations, books -/
abbrev Op := Int × List Int
abbrev encT (xs : List Int) : D := .tuple (xs.map .int)
abbrev encOp (o : Op) : D := .tuple [.int o.1, encT o.2]
def okOp (size : Int) (o : Op) : Prop := 0 < o.1 ∧ o.1 ≤ 3 ∧ (o.2.length : Int) = size ^ o.1.toNat ∧ ∀ x ∈ o.2, 0 ≤ x ∧ x < size
theorem isBel_int (n i : Int) : isBel n (.int i) = (decide (0 ≤ i) && decide (i < n)) := rfl
/-- all([is_below(one, size) for one in xs]) -/
theorem filterMap_some {α β : Type} (f : α → β) (xs : List α) : xs.filterMap (fun x => some (f x)) = xs.map f := by
  induction xs with
  | nil => rfl
  | cons x xs ih => simp [ih]
end W74

set_option Elab.async false
set_option linter.all false
set_option maxRecDepth 100000
namespace W74
open PySem DV
abbrev cBel : Ce := .comp false [3] (.call 1 [] (.cons (.frz 3) (.cons (.frz 0) .nil))) (.nm 3) .seq (.cons (.ix (.var 1) (.int 1)) .nil) .nil
theorem all_bel (size : Int) (p : D) (q : D) (xs : List Int) : ev G_is_table cBel [some (.fz, .int size), some (.fz, .tuple [p, encT xs]), some (.fz, q), none] = .ok (.o1, .list ((xs.map fun x => isBel size (.int x)).map .bool)) [some (.fz, .int size), some (.fz, .tuple [p, encT xs]), some (.fz, q), none] := by
  have h := comp_run (G := G_is_table) (two := false) (own := [3]) (elt := .call 1 [] (.cons (.frz 3) (.cons (.frz 0) .nil))) (tg := .nm 3) (sk := .seq) (ses := .cons (.ix (.var 1) (.int 1)) .nil) (ifs := .nil)
    (s := [some (.fz, .int size), some (.fz, .tuple [p, encT xs]), some (.fz, q), none]) (s1 := [some (.fz, .int size), some (.fz, .tuple [p, encT xs]), some (.fz, q), none])
    (vs := [(.fz, encT xs)]) (xs := xs.map .int) (b := false) (fun d => some (.bool (isBel size d))) rfl rfl rfl (fun x hx => ?_)
  · rw [filterMap_some, List.map_map] at h
    rw [List.map_map]
    exact h
  · refine .inn [some (.fz, .int size), some (.fz, .tuple [p, encT xs]), some (.fz, q), some (.fz, x)] _ [some (.fz, .int size), some (.fz, .tuple [p, encT xs]), some (.fz, q), some (.fz, x)] .fz _ rfl rfl ?_ rfl rfl
    simp [ev, evs, frv, G_is_table, c_is_below]
theorem s_is_table (size most : Int) (o : Op) (hs : 2 ≤ size ∧ size < 65536) (ho : okOp size o) (hm : most = 3) : i_is_table.sem [(.fz, .int size), (.fz, encOp o), (.fz, .int most)] = .ret (.fz, .bool true) [] := by
  obtain ⟨p, xs⟩ := o
  obtain ⟨h1, h2, h3, h4⟩ := ho
  simp only at h1 h2 h3 h4
  obtain ⟨n, rfl⟩ : ∃ n : Nat, p = n := ⟨p.toNat, by omega⟩
  subst hm
  rw [sem_is_table]
  have hn : n ≤ 1000000 := by omega
  have e1 : tbR (ev G_is_table (.or (.cons (.not (.call 0 [] (.cons (.frz 1) .nil))) (.cons (.not (.call 1 [] (.cons (.ix (.var 1) (.int 0)) (.cons (.bin .Add (.var 2) (.int 1)) .nil)))) (.cons (.not (.call 2 [] (.cons (.ix (.var 1) (.int 1)) .nil))) .nil)))) [some (.fz, .int size), some (.fz, .tuple [.int n, encT xs]), some (.fz, .int 3), none]) = .ok false [some (.fz, .int size), some (.fz, .tuple [.int n, encT xs]), some (.fz, .int 3), none] := by
    have hb : isBel 4 (.int (n : Int)) = true := by rw [isBel_int]; simp; omega
    simp [ev, evs, evOr, frv, rdv, G_is_table, c_is_below, c_is_pair, c_is_sequence, isPair, fzv_eq, hb, encT, tyD]
  have e2 : ev G_is_table (.and (.cons (.cmp .Eq (.bi .len (.cons (.ix (.var 1) (.int 1)) .nil)) (.call 3 [] (.cons (.frz 0) (.cons (.ix (.var 1) (.int 0)) .nil)))) (.cons (.bi .all (.cons cBel .nil)) .nil))) [some (.fz, .int size), some (.fz, .tuple [.int n, encT xs]), some (.fz, .int 3), none] = .ok (.fz, .bool true) [some (.fz, .int size), some (.fz, .tuple [.int n, encT xs]), some (.fz, .int 3), none] := by
    have hall : (xs.map fun x => isBel size (.int x)).all id = true := by
      rw [List.all_eq_true]
      intro b hb
      obtain ⟨x, hx, rfl⟩ := List.mem_map.mp hb
      have := h4 x hx
      rw [isBel_int]; simp; omega
    have hb := all_bel size (.int n) (.int 3) xs
    have hp : (xs.length : Int) = size ^ n := by rw [h3]; congr 1
    have hcp := fun m1 m2 s => c_power_of m1 m2 size ⟨by omega, hs.2⟩ n hn s
    have e2a : tbR (ev G_is_table (.cmp .Eq (.bi .len (.cons (.ix (.var 1) (.int 1)) .nil)) (.call 3 [] (.cons (.frz 0) (.cons (.ix (.var 1) (.int 0)) .nil)))) [some (.fz, .int size), some (.fz, .tuple [.int n, encT xs]), some (.fz, .int 3), none]) = .ok true [some (.fz, .int size), some (.fz, .tuple [.int n, encT xs]), some (.fz, .int 3), none] := by
      refine run_tb (m := .fz) ?_
      refine run_cmp (x := (.fz, .int ((xs.map PyData.int).length : Nat))) (y := (.fz, .int (size ^ n))) (bi_run (m := .fz) (d := encT xs) (run_ix (x := (.fz, .tuple [.int n, encT xs])) (y := (.fz, .int 1)) rfl rfl rfl (ixT1 _ _ _ _ _)) rfl rfl)
        (run_call (vs := [(.fz, .int size), (.fz, .int n)]) (run_evs rfl (run_evs (run_ix (x := (.fz, .tuple [.int n, encT xs])) (y := (.fz, .int 0)) rfl rfl rfl (ixT0 _ _ _ _)) run_evs0 rfl) rfl) rfl rfl (hcp _ _ _) rfl) rfl ?_
      rw [cmp_eq, eqD_int, List.length_map, hp, beq_self_eq_true]
    exact (and_t e2a).trans (and_1.trans (bi_run hb rfl (by rw [bi_all, hall])))
  have e3 : ex G_is_table (.ite (.or (.cons (.not (.call 0 [] (.cons (.frz 1) .nil))) (.cons (.not (.call 1 [] (.cons (.ix (.var 1) (.int 0)) (.cons (.bin .Add (.var 2) (.int 1)) .nil)))) (.cons (.not (.call 2 [] (.cons (.ix (.var 1) (.int 1)) .nil))) .nil)))) (.cons (.ret (.bl false)) .nil) .nil) [some (.fz, .int size), some (.fz, .tuple [.int n, encT xs]), some (.fz, .int 3), none] = .ok .nx [some (.fz, .int size), some (.fz, .tuple [.int n, encT xs]), some (.fz, .int 3), none] := (ex_if_f e1).trans rfl
  exact run_ret (n := 4) (args := [(.fz, .int size), (.fz, encOp ((n : Int), xs)), (.fz, .int 3)]) ((exs_nx e3).trans (exs_rt (ex_ret e2 rfl)))
end W74

set_option Elab.async false
set_option linter.all false
set_option maxRecDepth 100000
namespace W74
open PySem DV
theorem c_is_table (m1 m2 m3 : Md) (size : Int) (o : Op) (hs : 2 ≤ size ∧ size < 65536) (ho : okOp size o) (s : En) : callR i_is_table [] [(m1, .int size), (m2, encOp o), (m3, .int 3)] s = .ok (.fz, .bool true) s := callR0_ret rfl rfl rfl (s_is_table size 3 o hs ho rfl)
theorem s_is_operation (size : Int) (o : Op) (hs : 2 ≤ size ∧ size < 65536) (ho : okOp size o) : i_is_operation.sem [(.fz, .int size), (.fz, encOp o)] = .ret (.fz, .bool true) [] := by
  rw [sem_is_operation]
  have e1 : tbR (ev G_is_operation (.call 0 [] (.cons (.frz 0) (.cons (.frz 1) (.cons (.glo "MOST_PLACES" 3) .nil)))) [some (.fz, .int size), some (.fz, encOp o)]) = .ok true [some (.fz, .int size), some (.fz, encOp o)] :=
    run_tb (m := .fz) (run_call (run_evs (run_frz rfl) (run_evs (run_frz rfl) (run_evs run_glo run_evs0 rfl) rfl) rfl) rfl rfl (c_is_table _ _ _ size o hs ho _) rfl)
  have e2 : ev G_is_operation (.cmp .Gt (.ix (.var 1) (.int 0)) (.int 0)) [some (.fz, .int size), some (.fz, encOp o)] = .ok (.fz, .bool true) [some (.fz, .int size), some (.fz, encOp o)] :=
    run_cmp (run_ix (run_var rfl) run_int rfl (ixT0 _ _ _ _)) run_int rfl (by rw [cmp_gt, decide_eq_true ho.1])
  exact run_ret (n := 2) (args := [(.fz, .int size), (.fz, encOp o)]) (exs_rt (ex_ret ((and_t e1).trans (and_1.trans e2)) rfl))
theorem s_in_tuples (o : Op) : i_in_tuples.sem [(.fz, encOp o)] = .ret (.fz, encOp o) [] := by
  rw [sem_in_tuples]
  have e1 : ev G_in_tuples (.tup (.cons (.ix (.var 0) (.int 0)) (.cons (.bi .tuple (.cons (.ix (.var 0) (.int 1)) .nil)) .nil))) [some (.fz, encOp o)] = .ok (.fz, encOp o) [some (.fz, encOp o)] :=
    run_tup (vs := [(.fz, .int o.1), (.fz, encT o.2)]) (run_evs (run_ix (run_var rfl) run_int rfl (ixT0 _ _ _ _)) (run_evs (bi_run (run_ix (run_var rfl) run_int rfl (ixT1 _ _ _ _ _)) rfl rfl) run_evs0 rfl) rfl) rfl rfl
  exact run_ret (n := 1) (args := [(.fz, encOp o)]) (exs_rt (ex_ret e1 rfl))
theorem c_is_operation (m1 m2 : Md) (size : Int) (o : Op) (hs : 2 ≤ size ∧ size < 65536) (ho : okOp size o) (s : En) : callR i_is_operation [] [(m1, .int size), (m2, encOp o)] s = .ok (.fz, .bool true) s := callR0_ret rfl rfl rfl (s_is_operation size o hs ho)
theorem c_in_tuples (m1 : Md) (o : Op) (s : En) : callR i_in_tuples [] [(m1, encOp o)] s = .ok (.fz, encOp o) s := callR0_ret rfl rfl rfl (s_in_tuples o)
end W74

set_option Elab.async false
set_option linter.all false
set_option maxRecDepth 100000
namespace DV
open PySem
theorem run_chn {G : List Info} {a b c : Ce} {s s1 s2 s3 : En} {x y z : MD} {op op' : CmpOp} {t : Bool} (ha : ev G a s = .ok x s1) (hb : ev G b s1 = .ok y s2) (hq : (x.1.isB && !qt b) = false) (h : cmpD op x.2 y.2 = some true) (hq2 : (y.1.isB && !qt c) = false) (hc : ev G c s2 = .ok z s3) (h' : cmpD op' y.2 z.2 = some t) :
    ev G (.chn op op' a b c) s = .ok (.fz, .bool t) s3 := by
  show ((ev G a s).bind fun x s1 => if (x.1.isB && !qt b) = true then Rs.no else (ev G b s1).bind fun y s2 => (ofO (cmpD op x.2 y.2) s2).bind fun r s3 =>
    if r = true then (if (y.1.isB && !qt c) = true then .no else (ev G c s3).bind fun z s4 => (ofO (cmpD op' y.2 z.2) s4).bind fun r' s5 => .ok (fzv (.bool r')) s5) else .ok (fzv (.bool false)) s3) = _
  rw [ha, bind_ok, hq, if_neg Bool.false_ne_true, hb, bind_ok, h, ofO_some, bind_ok, if_pos rfl, hq2, if_neg Bool.false_ne_true, hc, bind_ok, h']
  rfl
end DV
namespace W74
open PySem DV
abbrev Book := Int × List Op
abbrev encB (b : Book) : D := .tuple [.int b.1, .tuple (b.2.map encOp)]
structure okBook (b : Book) : Prop where
  lo : 2 ≤ b.1
  hi : b.1 ≤ 8
  len : b.2.length ≤ 8
  op : ∀ o ∈ b.2, okOp b.1 o
theorem okBook.sz {b : Book} (h : okBook b) : 2 ≤ b.1 ∧ b.1 < 65536 := ⟨h.lo, by have := h.hi; omega⟩
theorem nb1 {b : Book} (h : okBook b) (x y : Option MD) : ex G_need_book (.ite (.or (.cons (.not (.call 0 [] (.cons (.frz 0) .nil))) (.cons (.not (.call 1 [] (.cons (.ix (.var 0) (.int 0)) .nil))) (.cons (.not (.chn .LtE .LtE (.int 2) (.ix (.var 0) (.int 0)) (.glo "MOST_SIZE" 8))) .nil)))) (.cons (.rais "InvalidBook" "at" (.neg (.int 1))) .nil) .nil) [some (.fz, encB b), x, y] = .ok .nx [some (.fz, encB b), x, y] := by
  have e1 : tbR (ev G_need_book (.not (.call 0 [] (.cons (.frz 0) .nil))) [some (.fz, encB b), x, y]) = .ok false [some (.fz, encB b), x, y] :=
    run_tb (m := .fz) (run_not (run_tb (m := .fz) (t := true) (run_call (run_evs (run_frz rfl) run_evs0 rfl) rfl rfl (c_is_pair _ _ _) rfl)))
  have e2 : tbR (ev G_need_book (.not (.call 1 [] (.cons (.ix (.var 0) (.int 0)) .nil))) [some (.fz, encB b), x, y]) = .ok false [some (.fz, encB b), x, y] :=
    run_tb (m := .fz) (run_not (run_tb (m := .fz) (t := true) (run_call (run_evs (run_ix (run_var rfl) run_int rfl (ixT0 _ _ _ _)) run_evs0 rfl) rfl rfl (c_is_integer _ _ _) rfl)))
  have e3 : ev G_need_book (.not (.chn .LtE .LtE (.int 2) (.ix (.var 0) (.int 0)) (.glo "MOST_SIZE" 8))) [some (.fz, encB b), x, y] = .ok (.fz, .bool false) [some (.fz, encB b), x, y] :=
    run_not (t := true) (run_tb (m := .fz) (run_chn run_int (run_ix (run_var rfl) run_int rfl (ixT0 _ _ _ _)) rfl (by rw [cmp_le, decide_eq_true h.lo]) rfl run_glo (by rw [cmp_le, decide_eq_true h.hi])))
  exact (ex_if_f (run_tb (m := .fz) ((or_f e1).trans ((or_f e2).trans (or_1.trans e3))))).trans rfl
theorem nb2 {b : Book} (h : okBook b) (x y : Option MD) : ex G_need_book (.ite (.or (.cons (.not (.call 2 [] (.cons (.ix (.var 0) (.int 1)) .nil))) (.cons (.cmp .Gt (.bi .len (.cons (.ix (.var 0) (.int 1)) .nil)) (.glo "MOST_OPERATIONS" 8)) .nil))) (.cons (.rais "InvalidBook" "at" (.neg (.int 1))) .nil) .nil) [some (.fz, encB b), x, y] = .ok .nx [some (.fz, encB b), x, y] := by
  have e1 : tbR (ev G_need_book (.not (.call 2 [] (.cons (.ix (.var 0) (.int 1)) .nil))) [some (.fz, encB b), x, y]) = .ok false [some (.fz, encB b), x, y] :=
    run_tb (m := .fz) (run_not (run_tb (m := .fz) (t := true) (run_call (run_evs (run_ix (run_var rfl) run_int rfl (ixT1 _ _ _ _ _)) run_evs0 rfl) rfl rfl (c_is_sequence _ _ _) rfl)))
  have e2 : ev G_need_book (.cmp .Gt (.bi .len (.cons (.ix (.var 0) (.int 1)) .nil)) (.glo "MOST_OPERATIONS" 8)) [some (.fz, encB b), x, y] = .ok (.fz, .bool false) [some (.fz, encB b), x, y] :=
    run_cmp (bi_run (run_ix (run_var rfl) run_int rfl (ixT1 _ _ _ _ _)) rfl (bi_lenT _)) run_glo rfl (by rw [cmp_gt, List.length_map, decide_eq_false (by have := h.len; omega)])
  exact (ex_if_f (run_tb (m := .fz) ((or_f e1).trans (or_1.trans e2)))).trans rfl
end W74

set_option Elab.async false
set_option linter.all false
set_option maxRecDepth 100000
namespace W74
open PySem DV
abbrev nbBody : Css := .cons (.ite (.not (.call 3 [] (.cons (.ix (.var 0) (.int 0)) (.cons (.frz 2) .nil)))) (.cons (.rais "InvalidBook" "at" (.frz 1)) .nil) .nil) .nil
def nbSt (b : Book) (_ : Nat) (s : En) : Prop := ∃ x y, s = [some (.fz, encB b), x, y] ∧ heldE [some (.fz, encB b), x, y] 2 = false
theorem nb3s {b : Book} (h : okBook b) (i : Nat) (d : D) (s : En) (hd : ((b.2.map encOp).mapIdx fun i x => PyData.tuple [.int i, x])[i]? = some d) (hs : nbSt b i s) : ∃ s1 s2, bindT (.tp [.nm 1, .nm 2]) d s = some s1 ∧ (exs G_need_book nbBody s1 = .ok .nx s2 ∨ exs G_need_book nbBody s1 = .ok .ct s2) ∧ nbSt b (i + 1) s2 := by
  obtain ⟨x, y, rfl, _⟩ := hs
  rw [List.getElem?_mapIdx, List.getElem?_map] at hd
  obtain ⟨e, he, rfl⟩ := Option.map_eq_some_iff.mp hd
  obtain ⟨o, ho, rfl⟩ := Option.map_eq_some_iff.mp he
  have hm := List.mem_of_getElem? ho
  refine ⟨[some (.fz, encB b), some (.fz, .int i), some (.fz, encOp o)], [some (.fz, encB b), some (.fz, .int i), some (.fz, encOp o)], rfl, .inl ?_, _, _, rfl, rfl⟩
  have e1 : tbR (ev G_need_book (.not (.call 3 [] (.cons (.ix (.var 0) (.int 0)) (.cons (.frz 2) .nil)))) [some (.fz, encB b), some (.fz, .int i), some (.fz, encOp o)]) = .ok false [some (.fz, encB b), some (.fz, .int i), some (.fz, encOp o)] :=
    run_tb (m := .fz) (run_not (run_tb (m := .fz) (t := true) (run_call (run_evs (run_ix (run_var rfl) run_int rfl (ixT0 _ _ _ _)) (run_evs (run_frz rfl) run_evs0 rfl) rfl) rfl rfl (c_is_operation _ _ b.1 o h.sz (h.op o hm) _) rfl)))
  exact (exs_nx ((ex_if_f e1).trans rfl)).trans rfl
theorem nb3 {b : Book} (h : okBook b) : ∃ x y, ex G_need_book (.for (.tp [.nm 1, .nm 2]) .enm (.cons (.ix (.var 0) (.int 1)) .nil) nbBody) [some (.fz, encB b), none, none] = .ok .nx [some (.fz, encB b), x, y] ∧ heldE [some (.fz, encB b), x, y] 2 = false := by
  obtain ⟨s', e1, x, y, rfl, hy⟩ := for_run (G := G_need_book) (tg := .tp [.nm 1, .nm 2]) (sk := .enm) (ses := .cons (.ix (.var 0) (.int 1)) .nil) (body := nbBody) (s := [some (.fz, encB b), none, none]) (nbSt b)
    (run_evs (run_ix (run_var rfl) run_int rfl (ixT1 _ _ _ _ _)) run_evs0 rfl) (xs := (b.2.map encOp).mapIdx fun i x => PyData.tuple [.int i, x]) rfl ⟨none, none, rfl, rfl⟩ (nb3s h)
  exact ⟨x, y, e1, hy⟩
theorem nb4 (b : Book) (x y : Option MD) (hy : heldE [some (.fz, encB b), x, y] 2 = false) : ev G_need_book (.tup (.cons (.ix (.var 0) (.int 0)) (.cons (.bi .tuple (.cons (.comp false [2] (.call 4 [] (.cons (.frz 2) .nil)) (.nm 2) .seq (.cons (.ix (.var 0) (.int 1)) .nil) .nil) .nil)) .nil))) [some (.fz, encB b), x, y] = .ok (.fz, encB b) [some (.fz, encB b), x, y] := by
  have hc := comp_run (G := G_need_book) (two := false) (own := [2]) (elt := .call 4 [] (.cons (.frz 2) .nil)) (tg := .nm 2) (sk := .seq) (ses := .cons (.ix (.var 0) (.int 1)) .nil) (ifs := .nil) (s := [some (.fz, encB b), x, y]) (s1 := [some (.fz, encB b), x, y])
    (vs := [(.fz, .tuple (b.2.map encOp))]) (xs := b.2.map encOp) (b := false) (fun d => some d) (run_evs (run_ix (run_var rfl) run_int rfl (ixT1 _ _ _ _ _)) run_evs0 rfl) rfl (by rw [List.any_cons, hy]; rfl) (fun d hd => by
      obtain ⟨o, ho, rfl⟩ := List.mem_map.mp hd
      exact .inn [some (.fz, encB b), x, some (.fz, encOp o)] _ [some (.fz, encB b), x, some (.fz, encOp o)] .fz _ rfl rfl (run_call (run_evs (run_frz rfl) run_evs0 rfl) rfl rfl (c_in_tuples _ o _) rfl) rfl rfl)
  rw [show (b.2.map encOp).filterMap (fun d => some d) = b.2.map encOp from by rw [filterMap_some]; exact List.map_id _] at hc
  exact run_tup (vs := [(.fz, .int b.1), (.fz, .tuple (b.2.map encOp))]) (run_evs (run_ix (run_var rfl) run_int rfl (ixT0 _ _ _ _)) (run_evs (bi_run hc rfl rfl) run_evs0 rfl) rfl) rfl rfl
theorem s_need_book {b : Book} (h : okBook b) : i_need_book.sem [(.fz, encB b)] = .ret (.fz, encB b) [] := by
  rw [sem_need_book]
  obtain ⟨x, y, e3, hy⟩ := nb3 h
  exact run_ret (n := 3) (args := [(.fz, encB b)]) ((exs_nx (nb1 h none none)).trans ((exs_nx (nb2 h none none)).trans ((exs_nx e3).trans (exs_rt (ex_ret (nb4 b x y hy) rfl)))))
theorem c_need_book {b : Book} (h : okBook b) (m : Md) (s : En) : callR i_need_book [] [(m, encB b)] s = .ok (.fz, encB b) s := callR0_ret rfl rfl rfl (s_need_book h)
end W74

set_option Elab.async false
set_option linter.all false
set_option maxRecDepth 100000
namespace W74
open PySem DV
theorem s_is_string (d : D) : i_is_string.sem [(.fz, d)] = .ret (.fz, .bool (tyD d .str)) [] := by
  rw [sem_is_string]
  cases d <;> rfl
theorem c_is_string (m : Md) (d : D) (s : En) : callR i_is_string [] [(m, d)] s = .ok (.fz, .bool (tyD d .str)) s := callR0_ret rfl rfl rfl (s_is_string d)
structure okList (size : Int) (xs : List Int) : Prop where
  ne : xs ≠ []
  inn : ∀ x ∈ xs, 0 ≤ x ∧ x < size
  up : ∀ (i : Nat) (x y : Int), xs[i]? = some x → xs[i + 1]? = some y → x < y
  len : xs.length ≤ 1000
theorem il1 {size : Int} {xs : List Int} (h : okList size xs) : ev G_is_list (.bi .all (.cons (.comp false [3] (.call 0 [] (.cons (.frz 3) (.cons (.frz 0) .nil))) (.nm 3) .seq (.cons (.var 1) .nil) .nil) .nil)) [some (.fz, .int size), some (.fz, encT xs), none, none] = .ok (.fz, .bool true) [some (.fz, .int size), some (.fz, encT xs), none, none] := by
  have hc := comp_run (G := G_is_list) (two := false) (own := [3]) (elt := .call 0 [] (.cons (.frz 3) (.cons (.frz 0) .nil))) (tg := .nm 3) (sk := .seq) (ses := .cons (.var 1) .nil) (ifs := .nil)
    (s := [some (.fz, .int size), some (.fz, encT xs), none, none]) (s1 := [some (.fz, .int size), some (.fz, encT xs), none, none]) (vs := [(.fz, encT xs)]) (xs := xs.map .int) (b := false) (fun d => some (.bool (isBel size d))) (run_evs (run_var rfl) run_evs0 rfl) rfl rfl (fun d _ =>
      .inn [some (.fz, .int size), some (.fz, encT xs), none, some (.fz, d)] _ [some (.fz, .int size), some (.fz, encT xs), none, some (.fz, d)] .fz _ rfl rfl (run_call (run_evs (run_frz rfl) (run_evs (run_frz rfl) run_evs0 rfl) rfl) rfl rfl (c_is_below _ _ d size _) rfl) rfl rfl)
  rw [filterMap_some, List.map_map] at hc
  refine bi_run hc rfl ?_
  rw [show xs.map ((fun d => PyData.bool (isBel size d)) ∘ PyData.int) = (xs.map fun x => isBel size (.int x)).map PyData.bool from by rw [List.map_map]; rfl, bi_all]
  congr 3
  rw [List.all_eq_true]
  intro b hb
  obtain ⟨x, hx, rfl⟩ := List.mem_map.mp hb
  have := h.inn x hx
  rw [isBel_int, decide_eq_true this.1, decide_eq_true this.2]
  rfl
theorem il2 {size : Int} {xs : List Int} (h : okList size xs) : ev G_is_list (.bi .all (.cons (.comp false [2] (.cmp .Lt (.ix (.var 1) (.var 2)) (.ix (.var 1) (.bin .Add (.var 2) (.int 1)))) (.nm 2) .rng1 (.cons (.bin .Sub (.bi .len (.cons (.var 1) .nil)) (.int 1)) .nil) .nil) .nil)) [some (.fz, .int size), some (.fz, encT xs), none, none] = .ok (.fz, .bool true) [some (.fz, .int size), some (.fz, encT xs), none, none] := by
  obtain ⟨n, hn⟩ : ∃ n : Nat, xs.length = n + 1 := ⟨xs.length - 1, by have := List.length_pos_iff.mpr h.ne; omega⟩
  have hlen : ((xs.map PyData.int).length : Int) - 1 = (n : Nat) := by rw [List.length_map, hn]; omega
  have hc := comp_run (G := G_is_list) (two := false) (own := [2]) (elt := .cmp .Lt (.ix (.var 1) (.var 2)) (.ix (.var 1) (.bin .Add (.var 2) (.int 1)))) (tg := .nm 2) (sk := .rng1) (ses := .cons (.bin .Sub (.bi .len (.cons (.var 1) .nil)) (.int 1)) .nil) (ifs := .nil)
    (s := [some (.fz, .int size), some (.fz, encT xs), none, none]) (s1 := [some (.fz, .int size), some (.fz, encT xs), none, none]) (vs := [(.fz, .int n)]) (xs := rangeD 0 n) (b := false) (fun _ => some (.bool true))
    (run_evs (run_bin (bi_run (run_var rfl) rfl (bi_lenT _)) run_int rfl rfl (by rw [bin_sub, hlen])) run_evs0 rfl) (items_rng .fz (le_line (by have := h.len; omega))) rfl (fun d hd => by
      obtain ⟨i, hi⟩ := List.getElem?_of_mem hd
      obtain ⟨rfl, hlt⟩ := rangeD0_at hi
      obtain ⟨x, hx⟩ : ∃ x, xs[i]? = some x := ⟨_, List.getElem?_eq_getElem (by omega)⟩
      obtain ⟨y, hy⟩ : ∃ y, xs[i + 1]? = some y := ⟨_, List.getElem?_eq_getElem (by omega)⟩
      refine .inn [some (.fz, .int size), some (.fz, encT xs), some (.fz, .int i), none] _ [some (.fz, .int size), some (.fz, encT xs), some (.fz, .int i), none] .fz _ rfl rfl (run_cmp (run_ix (run_var rfl) (run_var rfl) rfl (ixTm (enc := PyData.int) hx)) (run_ix (run_var rfl) (run_bin (run_var rfl) run_int rfl rfl (bin_add _ _)) rfl (ixT (i := i + 1) (by omega) (by rw [List.getElem?_map, hy]; rfl))) rfl ?_) rfl rfl
      rw [cmp_lt, decide_eq_true (h.up i x y hx hy)])
  rw [filterMap_some, rangeD0, List.map_map] at hc
  refine bi_run hc rfl ?_
  rw [show (List.range n).map ((fun _ => PyData.bool true) ∘ fun i => PyData.int (i : Nat)) = ((List.range n).map fun _ => true).map PyData.bool from by rw [List.map_map]; rfl, bi_all]
  congr 3
  rw [List.all_eq_true]
  intro b hb
  obtain ⟨x, hx, rfl⟩ := List.mem_map.mp hb
  rfl
theorem s_is_list {size : Int} {xs : List Int} (h : okList size xs) : i_is_list.sem [(.fz, .int size), (.fz, encT xs)] = .ret (.fz, .bool true) [] := by
  rw [sem_is_list]
  have e1 : tbR (ev G_is_list (.not (.isi (.var 1) [.tuple])) [some (.fz, .int size), some (.fz, encT xs), none, none]) = .ok false [some (.fz, .int size), some (.fz, encT xs), none, none] :=
    have e0 : ev G_is_list (.isi (.var 1) [.tuple]) [some (.fz, .int size), some (.fz, encT xs), none, none] = .ok (.fz, .bool true) [some (.fz, .int size), some (.fz, encT xs), none, none] := run_isi (x := (.fz, encT xs)) (run_var rfl)
    run_tb (m := .fz) (run_not (t := true) (run_tb (m := .fz) e0))
  have e2 : tbR (ev G_is_list (.cmp .Eq (.bi .len (.cons (.var 1) .nil)) (.int 0)) [some (.fz, .int size), some (.fz, encT xs), none, none]) = .ok false [some (.fz, .int size), some (.fz, encT xs), none, none] :=
    run_tb (m := .fz) (run_cmp (bi_run (run_var rfl) rfl (bi_lenT _)) run_int rfl (by
      rw [cmp_eq, eqD_int, List.length_map]
      have := List.length_pos_iff.mpr h.ne
      congr 1
      rw [beq_eq_false_iff_ne]
      omega))
  have e3 : ev G_is_list (.not (.bi .all (.cons (.comp false [3] (.call 0 [] (.cons (.frz 3) (.cons (.frz 0) .nil))) (.nm 3) .seq (.cons (.var 1) .nil) .nil) .nil))) [some (.fz, .int size), some (.fz, encT xs), none, none] = .ok (.fz, .bool false) [some (.fz, .int size), some (.fz, encT xs), none, none] :=
    run_not (t := true) (run_tb (m := .fz) (il1 h))
  exact run_ret (n := 4) (args := [(.fz, .int size), (.fz, encT xs)]) ((exs_nx ((ex_if_f (run_tb (m := .fz) ((or_f e1).trans ((or_f e2).trans (or_1.trans e3))))).trans rfl)).trans (exs_rt (ex_ret (il2 h) rfl)))
theorem c_is_list (m1 m2 : Md) {size : Int} {xs : List Int} (h : okList size xs) (s : En) : callR i_is_list [] [(m1, .int size), (m2, encT xs)] s = .ok (.fz, .bool true) s := callR0_ret rfl rfl rfl (s_is_list h)
end W74

set_option Elab.async false
set_option linter.all false
set_option maxRecDepth 100000
namespace DV
open PySem
theorem run_dct {G : List Info} {ks : List Str} {cs : Ces} {s s1 : En} {vs : List MD} (h : evs G cs s = .ok vs s1) (hn : vs.any (·.1.isB) = false) (hl : ks.length = vs.length ∧ ks.Nodup) : ev G (.dct ks cs) s = .ok (.o1, .dict ((ks.map PyData.str).zip (vs.map (·.2)))) s1 := by
  show ((evs G cs s).bind fun vs s1 => if vs.any (·.1.isB) = true then Rs.no else if ks.length = vs.length ∧ ks.Nodup then Rs.ok ((Md.o1, PyData.dict ((ks.map PyData.str).zip (vs.map (·.2)))) : MD) s1 else .no) = _
  rw [h, bind_ok, hn, if_neg Bool.false_ne_true, if_pos hl]
end DV
namespace W74
open PySem DV
abbrev Rdg := Str × Int
abbrev encR (r : Rdg) : D := .tuple [.str r.1, .int r.2]
inductive okR (size inputs lines : Int) : Rdg → Prop
  | inp (n : Int) (h : 0 ≤ n ∧ n < inputs) : okR size inputs lines ("in", n)
  | line (n : Int) (h : 0 ≤ n ∧ n < lines) : okR size inputs lines ("line", n)
  | val (n : Int) (h : 0 ≤ n ∧ n < size) : okR size inputs lines ("value", n)
def most (size inputs lines : Int) : D := .dict [(.str "in", .int inputs), (.str "line", .int lines), (.str "value", .int size)]
theorem rd_core (size inputs lines bound : Int) (k : Str) (n : Int) (hin : cmpD .In (.str k) (most size inputs lines) = some true) (hix : ixR (.b1, most size inputs lines) (.fz, .str k) = some (.fz, .int bound)) (hb : 0 ≤ n ∧ n < bound) :
    i_is_reading.sem [(.fz, .int size), (.fz, .int inputs), (.fz, .int lines), (.fz, encR (k, n))] = .ret (.fz, .bool true) [] := by
  rw [sem_is_reading]
  have e0 : ev G_is_reading (.isi (.var 3) [.tuple]) [some (.fz, .int size), some (.fz, .int inputs), some (.fz, .int lines), some (.fz, encR (k, n)), none] = .ok (.fz, .bool true) [some (.fz, .int size), some (.fz, .int inputs), some (.fz, .int lines), some (.fz, encR (k, n)), none] := run_isi (x := (.fz, encR (k, n))) (run_var rfl)
  have e1 := run_tb (m := .fz) (run_not (t := true) (run_tb (m := .fz) e0))
  have e2 : tbR (ev G_is_reading (.cmp .NotEq (.bi .len (.cons (.var 3) .nil)) (.int 2)) [some (.fz, .int size), some (.fz, .int inputs), some (.fz, .int lines), some (.fz, encR (k, n)), none]) = .ok false [some (.fz, .int size), some (.fz, .int inputs), some (.fz, .int lines), some (.fz, encR (k, n)), none] :=
    run_tb (m := .fz) (run_cmp (bi_run (run_var rfl) rfl (bi_lenT _)) run_int rfl rfl)
  have e3 : ev G_is_reading (.not (.call 1 [] (.cons (.ix (.var 3) (.int 0)) .nil))) [some (.fz, .int size), some (.fz, .int inputs), some (.fz, .int lines), some (.fz, encR (k, n)), none] = .ok (.fz, .bool false) [some (.fz, .int size), some (.fz, .int inputs), some (.fz, .int lines), some (.fz, encR (k, n)), none] :=
    run_not (t := true) (run_tb (m := .fz) (run_call (run_evs (run_ix (run_var rfl) run_int rfl (ixT0 _ _ _ _)) run_evs0 rfl) rfl rfl (c_is_string _ _ _) rfl))
  have a1 := (ex_if_f (G := G_is_reading) (a := .cons (.ret (.bl false)) .nil) (b := .nil) (run_tb (m := .fz) ((or_f e1).trans ((or_f e2).trans (or_1.trans e3)))))
  have a2 : ex G_is_reading (.asg (.nm 4) (.dct ["in", "line", "value"] (.cons (.frz 1) (.cons (.frz 2) (.cons (.frz 0) .nil))))) [some (.fz, .int size), some (.fz, .int inputs), some (.fz, .int lines), some (.fz, encR (k, n)), none] = .ok .nx [some (.fz, .int size), some (.fz, .int inputs), some (.fz, .int lines), some (.fz, encR (k, n)), some (.o1, most size inputs lines)] :=
    ex_set (run_dct (run_evs (run_frz rfl) (run_evs (run_frz rfl) (run_evs (run_frz rfl) run_evs0 rfl) rfl) rfl) rfl ⟨rfl, by decide +kernel⟩) rfl
  have e4 : tbR (ev G_is_reading (.cmp .In (.ix (.var 3) (.int 0)) (.var 4)) [some (.fz, .int size), some (.fz, .int inputs), some (.fz, .int lines), some (.fz, encR (k, n)), some (.o1, most size inputs lines)]) = .ok true [some (.fz, .int size), some (.fz, .int inputs), some (.fz, .int lines), some (.fz, encR (k, n)), some (.o1, most size inputs lines)] :=
    run_tb (m := .fz) (run_cmp (run_ix (run_var rfl) run_int rfl (ixT0 _ _ _ _)) (run_varO rfl) rfl hin)
  have e5 : ev G_is_reading (.call 0 [] (.cons (.ix (.var 3) (.int 1)) (.cons (.ix (.var 4) (.ix (.var 3) (.int 0))) .nil))) [some (.fz, .int size), some (.fz, .int inputs), some (.fz, .int lines), some (.fz, encR (k, n)), some (.o1, most size inputs lines)] = .ok (.fz, .bool (isBel bound (.int n))) [some (.fz, .int size), some (.fz, .int inputs), some (.fz, .int lines), some (.fz, encR (k, n)), some (.o1, most size inputs lines)] :=
    run_call (run_evs (run_ix (run_var rfl) run_int rfl (ixT1 _ _ _ _ _)) (run_evs (run_ix (run_varO rfl) (run_ix (run_var rfl) run_int rfl (ixT0 _ _ _ _)) rfl hix) run_evs0 rfl) rfl) rfl rfl (c_is_below _ _ _ _ _) rfl
  have hb' : isBel bound (.int n) = true := by rw [isBel_int, decide_eq_true hb.1, decide_eq_true hb.2]; rfl
  rw [hb'] at e5
  exact run_ret (n := 5) (args := [(.fz, .int size), (.fz, .int inputs), (.fz, .int lines), (.fz, encR (k, n))]) ((exs_nx (a1.trans rfl)).trans ((exs_nx a2).trans (exs_rt (ex_ret ((and_t e4).trans (and_1.trans e5)) rfl))))
theorem s_is_reading {size inputs lines : Int} {r : Rdg} (h : okR size inputs lines r) : i_is_reading.sem [(.fz, .int size), (.fz, .int inputs), (.fz, .int lines), (.fz, encR r)] = .ret (.fz, .bool true) [] := by
  cases h with
  | inp n h => exact rd_core size inputs lines inputs "in" n rfl rfl h
  | line n h => exact rd_core size inputs lines lines "line" n rfl rfl h
  | val n h => exact rd_core size inputs lines size "value" n rfl rfl h
theorem c_is_reading (m1 m2 m3 m4 : Md) {size inputs lines : Int} {r : Rdg} (h : okR size inputs lines r) (s : En) : callR i_is_reading [] [(m1, .int size), (m2, .int inputs), (m3, .int lines), (m4, encR r)] s = .ok (.fz, .bool true) s := callR0_ret rfl rfl rfl (s_is_reading h)
end W74

set_option Elab.async false
set_option linter.all false
set_option maxRecDepth 100000
namespace W74
open PySem DV
abbrev Ln := Int × List Rdg
abbrev encLn (l : Ln) : D := .tuple [.int l.1, .tuple (l.2.map encR)]
structure okLn (b : Book) (inputs at' : Int) (l : Ln) : Prop where
  op : ∃ (n : Nat) (o : Op), l.1 = n ∧ b.2[n]? = some o ∧ (l.2.length : Int) = o.1
  rd : ∀ r ∈ l.2, okR b.1 inputs at' r
theorem s_is_line {b : Book} {inputs at' : Int} {l : Ln} (h : okLn b inputs at' l) : i_is_line.sem [(.fz, encB b), (.fz, .int inputs), (.fz, .int at'), (.fz, encLn l)] = .ret (.fz, .bool true) [] := by
  rw [sem_is_line]
  obtain ⟨n, o, hn, ho, hl⟩ := h.op
  have hlt := (List.getElem?_eq_some_iff.mp ho).1
  have e0 : ev G_is_line (.isi (.var 3) [.tuple]) [some (.fz, encB b), some (.fz, .int inputs), some (.fz, .int at'), some (.fz, encLn l), none] = .ok (.fz, .bool true) [some (.fz, encB b), some (.fz, .int inputs), some (.fz, .int at'), some (.fz, encLn l), none] := run_isi (x := (.fz, encLn l)) (run_var rfl)
  have e1 := run_tb (m := .fz) (run_not (t := true) (run_tb (m := .fz) e0))
  have e2 : tbR (ev G_is_line (.cmp .NotEq (.bi .len (.cons (.var 3) .nil)) (.int 2)) [some (.fz, encB b), some (.fz, .int inputs), some (.fz, .int at'), some (.fz, encLn l), none]) = .ok false [some (.fz, encB b), some (.fz, .int inputs), some (.fz, .int at'), some (.fz, encLn l), none] :=
    run_tb (m := .fz) (run_cmp (bi_run (run_var rfl) rfl (bi_lenT _)) run_int rfl rfl)
  have hb : isBel ((b.2.map encOp).length : Nat) (.int l.1) = true := by
    rw [isBel_int, List.length_map, decide_eq_true (by omega), decide_eq_true (by omega)]; rfl
  have e3 : ev G_is_line (.not (.call 0 [] (.cons (.ix (.var 3) (.int 0)) (.cons (.bi .len (.cons (.ix (.var 0) (.int 1)) .nil)) .nil)))) [some (.fz, encB b), some (.fz, .int inputs), some (.fz, .int at'), some (.fz, encLn l), none] = .ok (.fz, .bool (!isBel ((b.2.map encOp).length : Nat) (.int l.1))) [some (.fz, encB b), some (.fz, .int inputs), some (.fz, .int at'), some (.fz, encLn l), none] :=
    run_not (run_tb (m := .fz) (run_call (run_evs (run_ix (run_var rfl) run_int rfl (ixT0 _ _ _ _)) (run_evs (bi_run (run_ix (run_var rfl) run_int rfl (ixT1 _ _ _ _ _)) rfl (bi_lenT _)) run_evs0 rfl) rfl) rfl rfl (c_is_below _ _ _ _ _) rfl))
  rw [hb] at e3
  have a1 := (ex_if_f (G := G_is_line) (a := .cons (.ret (.bl false)) .nil) (b := .nil) (run_tb (m := .fz) ((or_f e1).trans ((or_f e2).trans (or_1.trans e3)))))
  have e4 : ev G_is_line (.isi (.ix (.var 3) (.int 1)) [.tuple]) [some (.fz, encB b), some (.fz, .int inputs), some (.fz, .int at'), some (.fz, encLn l), none] = .ok (.fz, .bool true) [some (.fz, encB b), some (.fz, .int inputs), some (.fz, .int at'), some (.fz, encLn l), none] := run_isi (x := (.fz, .tuple (l.2.map encR))) (run_ix (run_var rfl) run_int rfl (ixT1 _ _ _ _ _))
  have e4' := run_tb (m := .fz) (run_not (t := true) (run_tb (m := .fz) e4))
  have hix : ixR (.fz, .tuple (b.2.map encOp)) (.fz, .int l.1) = some (.fz, encOp o) := by rw [hn]; exact ixTm ho
  have e5 : ev G_is_line (.cmp .NotEq (.bi .len (.cons (.ix (.var 3) (.int 1)) .nil)) (.ix (.ix (.ix (.var 0) (.int 1)) (.ix (.var 3) (.int 0))) (.int 0))) [some (.fz, encB b), some (.fz, .int inputs), some (.fz, .int at'), some (.fz, encLn l), none] = .ok (.fz, .bool false) [some (.fz, encB b), some (.fz, .int inputs), some (.fz, .int at'), some (.fz, encLn l), none] :=
    run_cmp (bi_run (run_ix (run_var rfl) run_int rfl (ixT1 _ _ _ _ _)) rfl (bi_lenT _)) (run_ix (run_ix (run_ix (run_var rfl) run_int rfl (ixT1 _ _ _ _ _)) (run_ix (run_var rfl) run_int rfl (ixT0 _ _ _ _)) rfl hix) run_int rfl (ixT0 _ _ _ _)) rfl (by
      rw [cmp_ne, eqD_int, List.length_map, hl, beq_self_eq_true]; rfl)
  have a2 := (ex_if_f (G := G_is_line) (a := .cons (.ret (.bl false)) .nil) (b := .nil) (run_tb (m := .fz) ((or_f e4').trans (or_1.trans e5))))
  have hc := comp_run (G := G_is_line) (two := false) (own := [4]) (elt := .call 1 [] (.cons (.ix (.var 0) (.int 0)) (.cons (.frz 1) (.cons (.frz 2) (.cons (.frz 4) .nil))))) (tg := .nm 4) (sk := .seq) (ses := .cons (.ix (.var 3) (.int 1)) .nil) (ifs := .nil)
    (s := [some (.fz, encB b), some (.fz, .int inputs), some (.fz, .int at'), some (.fz, encLn l), none]) (s1 := [some (.fz, encB b), some (.fz, .int inputs), some (.fz, .int at'), some (.fz, encLn l), none]) (vs := [(.fz, .tuple (l.2.map encR))]) (xs := l.2.map encR) (b := false) (fun _ => some (.bool true))
    (run_evs (run_ix (run_var rfl) run_int rfl (ixT1 _ _ _ _ _)) run_evs0 rfl) rfl rfl (fun d hd => by
      obtain ⟨r, hr, rfl⟩ := List.mem_map.mp hd
      exact .inn [some (.fz, encB b), some (.fz, .int inputs), some (.fz, .int at'), some (.fz, encLn l), some (.fz, encR r)] _ [some (.fz, encB b), some (.fz, .int inputs), some (.fz, .int at'), some (.fz, encLn l), some (.fz, encR r)] .fz _ rfl rfl (run_call (run_evs (run_ix (run_var rfl) run_int rfl (ixT0 _ _ _ _)) (run_evs (run_frz rfl) (run_evs (run_frz rfl) (run_evs (run_frz rfl) run_evs0 rfl) rfl) rfl) rfl) rfl rfl (c_is_reading _ _ _ _ (h.rd r hr) _) rfl) rfl rfl)
  rw [filterMap_some, List.map_map] at hc
  have e6 : ev G_is_line (.bi .all (.cons (.comp false [4] (.call 1 [] (.cons (.ix (.var 0) (.int 0)) (.cons (.frz 1) (.cons (.frz 2) (.cons (.frz 4) .nil))))) (.nm 4) .seq (.cons (.ix (.var 3) (.int 1)) .nil) .nil) .nil)) [some (.fz, encB b), some (.fz, .int inputs), some (.fz, .int at'), some (.fz, encLn l), none] = .ok (.fz, .bool true) [some (.fz, encB b), some (.fz, .int inputs), some (.fz, .int at'), some (.fz, encLn l), none] := by
    refine bi_run hc rfl ?_
    rw [show l.2.map ((fun _ => PyData.bool true) ∘ encR) = (l.2.map fun _ => true).map PyData.bool from by rw [List.map_map]; rfl, bi_all]
    congr 3
    rw [List.all_eq_true]
    intro b hb
    obtain ⟨x, hx, rfl⟩ := List.mem_map.mp hb
    rfl
  exact run_ret (n := 5) (args := [(.fz, encB b), (.fz, .int inputs), (.fz, .int at'), (.fz, encLn l)]) ((exs_nx (a1.trans rfl)).trans ((exs_nx (a2.trans rfl)).trans (exs_rt (ex_ret e6 rfl))))
theorem c_is_line (m1 m2 m3 m4 : Md) {b : Book} {inputs at' : Int} {l : Ln} (h : okLn b inputs at' l) (s : En) : callR i_is_line [] [(m1, encB b), (m2, .int inputs), (m3, .int at'), (m4, encLn l)] s = .ok (.fz, .bool true) s := callR0_ret rfl rfl rfl (s_is_line h)
end W74

set_option Elab.async false
set_option linter.all false
set_option maxRecDepth 100000
namespace W74
open PySem DV
theorem e__law_draw {x0 x1 : MD} {Q : MD → List MD → Prop} {X : Xn → List MD → Prop} (h : Wp (Rt 0 Q) (Rx 0 X) (exs G__law_draw b__law_draw [some x0, some x1, none, none, none])) : WpC Q X (i__law_draw.sem [x0, x1]) := w_run' (n := 5) (args := [x0, x1]) h
theorem e__law_any {x0 x1 : MD} {Q : MD → List MD → Prop} {X : Xn → List MD → Prop} (h : Wp (Rt 1 Q) (Rx 1 X) (exs G__law_any b__law_any [some x0, some x1, none])) : WpC Q X (i__law_any.sem [x0, x1]) := w_run' (n := 3) (args := [x0, x1]) h
theorem e__law_rows {x0 x1 : MD} {Q : MD → List MD → Prop} {X : Xn → List MD → Prop} (h : Wp (Rt 0 Q) (Rx 0 X) (exs G__law_rows b__law_rows [some x0, some x1, none, none, none, none, none])) : WpC Q X (i__law_rows.sem [x0, x1]) := w_run' (n := 7) (args := [x0, x1]) h
theorem e__law_operation {x0 x1 : MD} {Q : MD → List MD → Prop} {X : Xn → List MD → Prop} (h : Wp (Rt 1 Q) (Rx 1 X) (exs G__law_operation b__law_operation [some x0, some x1, none, none, none, none])) : WpC Q X (i__law_operation.sem [x0, x1]) := w_run' (n := 6) (args := [x0, x1]) h
theorem e__law_book {x0 x1 : MD} {Q : MD → List MD → Prop} {X : Xn → List MD → Prop} (h : Wp (Rt 1 Q) (Rx 1 X) (exs G__law_book b__law_book [some x0, some x1, none, none])) : WpC Q X (i__law_book.sem [x0, x1]) := w_run' (n := 4) (args := [x0, x1]) h
theorem e__law_of {x0 x1 : MD} {Q : MD → List MD → Prop} {X : Xn → List MD → Prop} (h : Wp (Rt 1 Q) (Rx 1 X) (exs G__law_of b__law_of [some x0, some x1])) : WpC Q X (i__law_of.sem [x0, x1]) := w_run' (n := 2) (args := [x0, x1]) h
theorem e__law_cut {x0 x1 x2 x3 : MD} {Q : MD → List MD → Prop} {X : Xn → List MD → Prop} (h : Wp (Rt 1 Q) (Rx 1 X) (exs G__law_cut b__law_cut [some x0, some x1, some x2, some x3, none, none, none, none, none, none, none, none, none, none, none, none])) : WpC Q X (i__law_cut.sem [x0, x1, x2, x3]) := w_run' (n := 16) (args := [x0, x1, x2, x3]) h
theorem e_is_sequence {x0 : MD} {Q : MD → List MD → Prop} {X : Xn → List MD → Prop} (h : Wp (Rt 0 Q) (Rx 0 X) (exs G_is_sequence b_is_sequence [some x0])) : WpC Q X (i_is_sequence.sem [x0]) := w_run' (n := 1) (args := [x0]) h
theorem e_is_pair {x0 : MD} {Q : MD → List MD → Prop} {X : Xn → List MD → Prop} (h : Wp (Rt 0 Q) (Rx 0 X) (exs G_is_pair b_is_pair [some x0])) : WpC Q X (i_is_pair.sem [x0]) := w_run' (n := 1) (args := [x0]) h
theorem e_is_integer {x0 : MD} {Q : MD → List MD → Prop} {X : Xn → List MD → Prop} (h : Wp (Rt 0 Q) (Rx 0 X) (exs G_is_integer b_is_integer [some x0])) : WpC Q X (i_is_integer.sem [x0]) := w_run' (n := 1) (args := [x0]) h
theorem e_is_number {x0 : MD} {Q : MD → List MD → Prop} {X : Xn → List MD → Prop} (h : Wp (Rt 0 Q) (Rx 0 X) (exs G_is_number b_is_number [some x0])) : WpC Q X (i_is_number.sem [x0]) := w_run' (n := 1) (args := [x0]) h
theorem e_is_below {x0 x1 : MD} {Q : MD → List MD → Prop} {X : Xn → List MD → Prop} (h : Wp (Rt 0 Q) (Rx 0 X) (exs G_is_below b_is_below [some x0, some x1])) : WpC Q X (i_is_below.sem [x0, x1]) := w_run' (n := 2) (args := [x0, x1]) h
theorem e_power_of {x0 x1 : MD} {Q : MD → List MD → Prop} {X : Xn → List MD → Prop} (h : Wp (Rt 0 Q) (Rx 0 X) (exs G_power_of b_power_of [some x0, some x1, none, none])) : WpC Q X (i_power_of.sem [x0, x1]) := w_run' (n := 4) (args := [x0, x1]) h
theorem e_is_table {x0 x1 x2 : MD} {Q : MD → List MD → Prop} {X : Xn → List MD → Prop} (h : Wp (Rt 0 Q) (Rx 0 X) (exs G_is_table b_is_table [some x0, some x1, some x2, none])) : WpC Q X (i_is_table.sem [x0, x1, x2]) := w_run' (n := 4) (args := [x0, x1, x2]) h
theorem e_is_operation {x0 x1 : MD} {Q : MD → List MD → Prop} {X : Xn → List MD → Prop} (h : Wp (Rt 0 Q) (Rx 0 X) (exs G_is_operation b_is_operation [some x0, some x1])) : WpC Q X (i_is_operation.sem [x0, x1]) := w_run' (n := 2) (args := [x0, x1]) h
theorem e_in_tuples {x0 : MD} {Q : MD → List MD → Prop} {X : Xn → List MD → Prop} (h : Wp (Rt 0 Q) (Rx 0 X) (exs G_in_tuples b_in_tuples [some x0])) : WpC Q X (i_in_tuples.sem [x0]) := w_run' (n := 1) (args := [x0]) h
theorem e_need_book {x0 : MD} {Q : MD → List MD → Prop} {X : Xn → List MD → Prop} (h : Wp (Rt 0 Q) (Rx 0 X) (exs G_need_book b_need_book [some x0, none, none])) : WpC Q X (i_need_book.sem [x0]) := w_run' (n := 3) (args := [x0]) h
theorem e_is_list {x0 x1 : MD} {Q : MD → List MD → Prop} {X : Xn → List MD → Prop} (h : Wp (Rt 0 Q) (Rx 0 X) (exs G_is_list b_is_list [some x0, some x1, none, none])) : WpC Q X (i_is_list.sem [x0, x1]) := w_run' (n := 4) (args := [x0, x1]) h
theorem e_is_string {x0 : MD} {Q : MD → List MD → Prop} {X : Xn → List MD → Prop} (h : Wp (Rt 0 Q) (Rx 0 X) (exs G_is_string b_is_string [some x0])) : WpC Q X (i_is_string.sem [x0]) := w_run' (n := 1) (args := [x0]) h
theorem e_is_reading {x0 x1 x2 x3 : MD} {Q : MD → List MD → Prop} {X : Xn → List MD → Prop} (h : Wp (Rt 0 Q) (Rx 0 X) (exs G_is_reading b_is_reading [some x0, some x1, some x2, some x3, none])) : WpC Q X (i_is_reading.sem [x0, x1, x2, x3]) := w_run' (n := 5) (args := [x0, x1, x2, x3]) h
theorem e_is_line {x0 x1 x2 x3 : MD} {Q : MD → List MD → Prop} {X : Xn → List MD → Prop} (h : Wp (Rt 0 Q) (Rx 0 X) (exs G_is_line b_is_line [some x0, some x1, some x2, some x3, none])) : WpC Q X (i_is_line.sem [x0, x1, x2, x3]) := w_run' (n := 5) (args := [x0, x1, x2, x3]) h
theorem e_need_cut {x0 x1 : MD} {Q : MD → List MD → Prop} {X : Xn → List MD → Prop} (h : Wp (Rt 0 Q) (Rx 0 X) (exs G_need_cut b_need_cut [some x0, some x1, none, none, none, none, none, none, none])) : WpC Q X (i_need_cut.sem [x0, x1]) := w_run' (n := 9) (args := [x0, x1]) h
theorem e_need_both {x0 x1 : MD} {Q : MD → List MD → Prop} {X : Xn → List MD → Prop} (h : Wp (Rt 0 Q) (Rx 0 X) (exs G_need_both b_need_both [some x0, some x1])) : WpC Q X (i_need_both.sem [x0, x1]) := w_run' (n := 2) (args := [x0, x1]) h
theorem e_standing_rows {x0 : MD} {Q : MD → List MD → Prop} {X : Xn → List MD → Prop} (h : Wp (Rt 0 Q) (Rx 0 X) (exs G_standing_rows b_standing_rows [some x0, none, none, none, none, none, none, none])) : WpC Q X (i_standing_rows.sem [x0]) := w_run' (n := 8) (args := [x0]) h
theorem e_fewest_cells {x0 x1 : MD} {Q : MD → List MD → Prop} {X : Xn → List MD → Prop} (h : Wp (Rt 0 Q) (Rx 0 X) (exs G_fewest_cells b_fewest_cells [some x0, some x1, none, none, none, none, none, none, none, none, none])) : WpC Q X (i_fewest_cells.sem [x0, x1]) := w_run' (n := 11) (args := [x0, x1]) h
theorem e_fewest_hold {x0 x1 x2 : MD} {Q : MD → List MD → Prop} {X : Xn → List MD → Prop} (h : Wp (Rt 0 Q) (Rx 0 X) (exs G_fewest_hold b_fewest_hold [some x0, some x1, some x2, none, none, none, none, none, none, none])) : WpC Q X (i_fewest_hold.sem [x0, x1, x2]) := w_run' (n := 10) (args := [x0, x1, x2]) h
theorem e__law_anchor {Q : MD → List MD → Prop} {X : Xn → List MD → Prop} (h : Wp (Rt 0 Q) (Rx 0 X) (exs G__law_anchor b__law_anchor [none, none, none, none, none])) : WpC Q X (i__law_anchor.sem []) := w_run' (n := 5) (args := []) h
theorem e__law_ways {x0 x1 : MD} {Q : MD → List MD → Prop} {X : Xn → List MD → Prop} (h : Wp (Rt 0 Q) (Rx 0 X) (exs G__law_ways b__law_ways [some x0, some x1, none, none, none, none, none])) : WpC Q X (i__law_ways.sem [x0, x1]) := w_run' (n := 7) (args := [x0, x1]) h
theorem e__law_tried {x0 x1 : MD} {Q : MD → List MD → Prop} {X : Xn → List MD → Prop} (h : Wp (Rt 0 Q) (Rx 0 X) (exs G__law_tried b__law_tried [some x0, some x1, none])) : WpC Q X (i__law_tried.sem [x0, x1]) := w_run' (n := 3) (args := [x0, x1]) h
theorem e__law_stands {x0 x1 : MD} {Q : MD → List MD → Prop} {X : Xn → List MD → Prop} (h : Wp (Rt 0 Q) (Rx 0 X) (exs G__law_stands b__law_stands [some x0, some x1, none, none, none, none, none])) : WpC Q X (i__law_stands.sem [x0, x1]) := w_run' (n := 7) (args := [x0, x1]) h
theorem e__law_fit {x0 x1 : MD} {Q : MD → List MD → Prop} {X : Xn → List MD → Prop} (h : Wp (Rt 0 Q) (Rx 0 X) (exs G__law_fit b__law_fit [some x0, some x1, none, none, none])) : WpC Q X (i__law_fit.sem [x0, x1]) := w_run' (n := 5) (args := [x0, x1]) h
theorem e__law_due {x0 x1 : MD} {Q : MD → List MD → Prop} {X : Xn → List MD → Prop} (h : Wp (Rt 0 Q) (Rx 0 X) (exs G__law_due b__law_due [some x0, some x1, none, none, none, none, none])) : WpC Q X (i__law_due.sem [x0, x1]) := w_run' (n := 7) (args := [x0, x1]) h
theorem e_law {x0 : MD} {Q : MD → List MD → Prop} {X : Xn → List MD → Prop} (h : Wp (Rt 0 Q) (Rx 0 X) (exs G_law b_law [some x0, none, none, none, none, none, none, none, none, none, none, none, none, none, none, none, none, none])) : WpC Q X (i_law.sem [x0]) := w_run' (n := 18) (args := [x0]) h
end W74

/-! one step of a run -/
local macro_rules
  | `(tactic| array_get_dec) => `(tactic| first
    | ((with_reducible apply DV.g_ev); first
      | ((with_reducible apply DV.w_frz); (· rfl))
      | ((with_reducible apply DV.w_var); (· rfl))
      | (with_reducible apply DV.w_int)
      | (with_reducible apply DV.w_ix)
      | (with_reducible apply DV.w_cmp)
      | ((with_reducible apply DV.w_call); (· rfl))
      | (with_reducible apply DV.w_bi1)
      | (with_reducible apply DV.w_bin)
      | (with_reducible apply DV.w_tupN)
      | ((with_reducible apply DV.w_var1); (· rfl))
      | ((with_reducible apply DV.w_frz1); (· rfl))
      | ((with_reducible apply DV.w_mv); (· rfl))
      | ((with_reducible apply DV.w_var2); (· rfl))
      | (with_reducible apply DV.w_not)
      | (with_reducible apply DV.w_str)
      | (with_reducible apply DV.w_bl)
      | (with_reducible apply DV.w_non)
      | (with_reducible apply DV.w_glo)
      | (with_reducible apply DV.w_negI)
      | (with_reducible apply DV.w_and1)
      | (with_reducible apply DV.w_and)
      | (with_reducible apply DV.w_or1)
      | (with_reducible apply DV.w_or)
      | (with_reducible apply DV.w_ite)
      | (with_reducible apply DV.w_bi2)
      | (with_reducible apply DV.w_isi)
      | (with_reducible apply DV.w_lstN)
      | (with_reducible apply DV.w_lst2)
      | (with_reducible apply DV.w_sl)
      | (with_reducible apply DV.w_chn)
      | (with_reducible apply DV.w_comp1)
      | (with_reducible apply DV.w_comp2)
      | (with_reducible apply DV.w_mth)
      | (with_reducible apply DV.w_callk))
    | ((with_reducible apply DV.g_es); first
      | (with_reducible apply DV.w_es)
      | (with_reducible apply DV.w_e0))
    | ((with_reducible apply DV.g_ex); first
      | (with_reducible apply DV.w_set)
      | (with_reducible apply DV.w_if)
      | (with_reducible apply DV.w_ret)
      | (with_reducible apply DV.w_for)
      | ((with_reducible apply DV.w_app); (· exact []); (· rfl))
      | (with_reducible apply DV.w_rais)
      | (with_reducible apply DV.w_exp)
      | (with_reducible apply DV.w_pass)
      | (with_reducible apply DV.w_brk)
      | (with_reducible apply DV.w_cnt)
      | (with_reducible apply DV.w_try)
      | (with_reducible apply DV.w_whl)
      | ((with_reducible apply DV.w_aug); (· rfl))
      | ((with_reducible apply DV.w_setL); (· rfl))
      | (with_reducible apply DV.w_parN)
      | (with_reducible apply DV.w_setT))
    | ((with_reducible apply DV.g_exs); first
      | (with_reducible apply DV.w_cons)
      | (with_reducible apply DV.w_nil))
    | ((with_reducible apply DV.cq); (· rfl))
    | (with_reducible apply DV.tbv)
    | ((with_reducible apply DV.g_ft); first
      | (with_reducible apply DV.ft_t)
      | (with_reducible apply DV.ft_f)
      | (with_reducible apply DV.ft_n)
      | ((with_reducible apply DV.ft_is_t); (· rfl))
      | ((with_reducible apply DV.ft_is_f); (· rfl)))
    | ((with_reducible apply DV.g_ix); first
      | (with_reducible apply DV.wo_T0)
      | (with_reducible apply DV.wo_T1)
      | (with_reducible apply DV.wo_T2)
      | (with_reducible apply DV.wo_T3)
      | ((with_reducible apply DV.wo_L0); (· rfl))
      | ((with_reducible apply DV.wo_L1); (· rfl)))
    | ((with_reducible apply DV.g_cmp); first
      | (with_reducible apply DV.wo_eqI)
      | (with_reducible apply DV.wo_neI)
      | (with_reducible apply DV.wo_lt)
      | (with_reducible apply DV.wo_le)
      | (with_reducible apply DV.wo_gt)
      | (with_reducible apply DV.wo_ge))
    | ((with_reducible apply DV.g_bin); first
      | (with_reducible apply DV.wo_add)
      | (with_reducible apply DV.wo_sub))
    | ((with_reducible apply DV.g_bi); first
      | (with_reducible apply DV.wo_lenTm)
      | (with_reducible apply DV.wo_lenLm)
      | (with_reducible apply DV.wo_lenL)
      | (with_reducible apply DV.wo_lenT)
      | (with_reducible apply DV.wo_int)
      | (with_reducible apply DV.wo_intB)
      | (with_reducible apply DV.wo_tupL)
      | (with_reducible apply DV.wo_tupT)
      | (with_reducible apply DV.wo_lstL)
      | (with_reducible apply DV.wo_lstT)
      | (with_reducible apply DV.wo_all)
      | (with_reducible apply DV.wo_any))
    | ((with_reducible apply DV.g_it); first
      | ((with_reducible apply DV.wi_seqT); (· rfl))
      | ((with_reducible apply DV.wi_seqL); (· rfl))
      | ((with_reducible apply DV.wi_enmT); (· rfl))
      | ((with_reducible apply DV.wi_enmL); (· rfl))
      | (with_reducible apply DV.wi_rng))
    | ((with_reducible apply DV.kt_nx'); (· first | (dsimp only [List.set, DV.restE]; done) | (dsimp only [List.set, DV.restE]; rfl) | rfl))
    | (with_reducible apply DV.kt_rt)
    | (with_reducible apply DV.kt_bk)
    | (with_reducible apply DV.kt_ct)
    | (with_reducible apply DV.lk_nx)
    | (with_reducible apply DV.lk_ct)
    | (with_reducible apply DV.lk_bk)
    | (with_reducible apply DV.lk_rt)
    | (with_reducible apply DV.rt0)
    | (with_reducible apply DV.rn0)
    | (with_reducible apply DV.rx0)
    | ((with_reducible apply DV.g_et); first
      | (with_reducible apply DV.w_t0)
      | (with_reducible apply DV.w_t1))
    | ((with_reducible apply DV.g_eo); first
      | (with_reducible apply DV.w_onone)
      | (with_reducible apply DV.w_osome))
    | (with_reducible apply DV.tq0)
    | (with_reducible apply DV.lq0)
    | (with_reducible apply DV.intv)
    | (with_reducible apply DV.slT)
    | (with_reducible apply DV.slL)
    | ((with_reducible apply DV.pq); (· decide); (· rfl); (· rfl))
    | ((with_reducible apply DV.gx); (· rfl))
    | ((with_reducible apply DV.ct); (· rfl))
    | ((with_reducible apply DV.sx); (· first | (dsimp only [DV.bindT, DV.bindTs, Option.bind, DV.wipeE, List.set]; done) | (dsimp only [DV.bindT, DV.bindTs, Option.bind, DV.wipeE, List.set]; rfl) | rfl))
    | ((with_reducible apply DV.rt1); (· rfl))
    | ((with_reducible apply DV.rn1); (· rfl))
    | ((with_reducible apply DV.rx1); (· rfl))
    | ((with_reducible apply DV.tq2); (· rfl))
    | ((with_reducible apply DV.tq1); (· rfl))
    | ((with_reducible apply DV.tq3); (· rfl))
    | ((with_reducible apply DV.tq4); (· rfl))
    | ((with_reducible apply DV.tq5); (· rfl))
    | ((with_reducible apply DV.lq1); (· rfl))
    | ((with_reducible apply DV.lq2); (· rfl))
    | ((with_reducible apply DV.lq3); (· rfl))
    | ((with_reducible apply DV.lqn); (· rfl); (· rfl); (· first | (dsimp only [List.map]; done) | (dsimp only [List.map]; rfl) | rfl))
    | ((with_reducible apply DV.tqn); (· rfl); (· rfl); (· first | (dsimp only [List.map]; done) | (dsimp only [List.map]; rfl) | rfl)))

set_option Elab.async false
set_option linter.all false
set_option maxRecDepth 100000
set_option maxHeartbeats 4000000
namespace W74
open PySem DV
/-! calls -/
section
variable {Q : MD → En → Prop} {X : Xn → En → Prop} {s : En} {m m1 m2 m3 m4 : Md}
theorem p_is_number {d : D} (h : Q (.fz, .bool (isNum d)) s) : Cl i_is_number [(m, d)] [] s Q X := wp_eqo (c_is_number m d s) h
theorem p_is_below {d : D} {n : Int} (h : Q (.fz, .bool (isBel n d)) s) : Cl i_is_below [(m1, d), (m2, .int n)] [] s Q X := wp_eqo (c_is_below m1 m2 d n s) h
theorem p_is_list {size : Int} {xs : List Int} (h : Q (.fz, .bool true) s) (hl : okList size xs) : Cl i_is_list [(m1, .int size), (m2, encT xs)] [] s Q X := wp_eqo (c_is_list m1 m2 hl s) h
theorem p_is_line {b : Book} {inputs at' : Int} {l : Ln} (h : Q (.fz, .bool true) s) (hl : okLn b inputs at' l) : Cl i_is_line [(m1, encB b), (m2, .int inputs), (m3, .int at'), (m4, encLn l)] [] s Q X := wp_eqo (c_is_line m1 m2 m3 m4 hl s) h
theorem p_is_reading {size inputs lines : Int} {r : Rdg} (h : Q (.fz, .bool true) s) (hl : okR size inputs lines r) : Cl i_is_reading [(m1, .int size), (m2, .int inputs), (m3, .int lines), (m4, encR r)] [] s Q X := wp_eqo (c_is_reading m1 m2 m3 m4 hl s) h
theorem p_need_book {b : Book} (h : Q (.fz, encB b) s) (hb : okBook b) : Cl i_need_book [(m, encB b)] [] s Q X := wp_eqo (c_need_book hb m s) h
end
structure Cut where
  lists : List (List Int)
  lines : List Ln
  ends : List Rdg
abbrev encC (c : Cut) : D := .tuple [.tuple (c.lists.map encT), .tuple (c.lines.map encLn), .tuple (c.ends.map encR)]
structure okCut (b : Book) (c : Cut) : Prop where
  li : ∀ xs ∈ c.lists, okList b.1 xs
  ln : ∀ (i : Nat) (l : Ln), c.lines[i]? = some l → okLn b c.lists.length (i : Nat) l
  en : ∀ r ∈ c.ends, okR b.1 c.lists.length c.lines.length r
  n1 : c.lines.length ≤ 1000
local macro_rules
  | `(tactic| array_get_dec) => `(tactic| ((with_reducible apply g_call); first
    | ((with_reducible apply p_is_number))
    | ((with_reducible apply p_is_below))
    | ((with_reducible apply p_is_list))
    | ((with_reducible apply p_is_line))
    | ((with_reducible apply p_is_reading))
    | ((with_reducible apply p_need_book))))
theorem s_need_cut {b : Book} {c : Cut} (h : okCut b c) : i_need_cut.sem [(.fz, encB b), (.fz, encC c)] = .ret (.fz, encC c) [] := by
  refine wpc_ret (e_need_cut ?_)
  unfold b_need_cut
  repeat' array_get_dec
  refine cp_map c.lists encT (fun _ => .bool true) (fun x hx => ⟨_, rfl, ?_⟩) ?_
  · repeat' array_get_dec
    · exact ⟨rfl, rfl⟩
    · exact h.li x hx
  repeat' array_get_dec
  refine ft_is_t (by simp) ?_
  repeat' array_get_dec
  refine cp_map c.lines.zipIdx _ (fun _ => .bool true) (fun x hx => ⟨_, rfl, ?_⟩) ?_
  · repeat' array_get_dec
    · exact ⟨rfl, rfl⟩
    · exact h.ln _ _ (List.mem_zipIdx_iff_getElem?.mp hx)
  repeat' array_get_dec
  refine ft_is_t (by simp) ?_
  repeat' array_get_dec
  refine cp_map c.ends encR (fun _ => .bool true) (fun x hx => ⟨_, rfl, ?_⟩) ?_
  · repeat' array_get_dec
    · exact ⟨rfl, rfl⟩
    · exact h.en x hx
  repeat' array_get_dec
  refine ft_is_t (by simp) ?_
  repeat' array_get_dec
  exact ⟨rfl, rfl⟩
theorem s_need_cut_odd {b d : D} (h : tyD d .tuple = false) : i_need_cut.sem [(.fz, b), (.fz, d)] = .exc ⟨"InvalidCut", "at", .int (-1)⟩ [] := by
  refine wpc_exc (e_need_cut ?_)
  unfold b_need_cut
  repeat' array_get_dec
  refine ft_is_f (by show ([Ty.tuple].any (tyD d)) = false; rw [List.any_cons, h]; rfl) ?_
  repeat' array_get_dec
  exact ⟨rfl, rfl⟩
theorem s_need_cut_ends {b : Book} {c : Cut} {d : D} (h : okCut b c) (hd : tyD d .tuple = false) : i_need_cut.sem [(.fz, encB b), (.fz, .tuple [.tuple (c.lists.map encT), .tuple (c.lines.map encLn), d])] = .exc ⟨"InvalidCut", "at", .int 2⟩ [] := by
  refine wpc_exc (e_need_cut ?_)
  unfold b_need_cut
  repeat' array_get_dec
  refine cp_map c.lists encT (fun _ => .bool true) (fun x hx => ⟨_, rfl, ?_⟩) ?_
  · repeat' array_get_dec
    · exact ⟨rfl, rfl⟩
    · exact h.li x hx
  repeat' array_get_dec
  refine ft_is_t (by simp) ?_
  repeat' array_get_dec
  refine cp_map c.lines.zipIdx _ (fun _ => .bool true) (fun x hx => ⟨_, rfl, ?_⟩) ?_
  · repeat' array_get_dec
    · exact ⟨rfl, rfl⟩
    · exact h.ln _ _ (List.mem_zipIdx_iff_getElem?.mp hx)
  repeat' array_get_dec
  refine ft_is_t (by simp) ?_
  repeat' array_get_dec
  refine ft_is_f (by show ([Ty.tuple].any (tyD d)) = false; rw [List.any_cons, hd]; rfl) ?_
  repeat' array_get_dec
  exact ⟨rfl, rfl⟩
section
variable {Q : MD → En → Prop} {X : Xn → En → Prop} {s : En} {m m1 m2 m3 m4 : Md}
theorem p_need_cut {b : Book} {c : Cut} (h : Q (.fz, encC c) s) (hc : okCut b c) : Cl i_need_cut [(m1, encB b), (m2, encC c)] [] s Q X := wp_ret rfl rfl (s_need_cut hc) rfl h
theorem p_need_cut_odd {b d : D} (hd : tyD d .tuple = false) (h : X ⟨"InvalidCut", "at", .int (-1)⟩ s) : Cl i_need_cut [(m1, b), (m2, d)] [] s Q X := wp_rexc rfl rfl (s_need_cut_odd hd) h
theorem p_need_cut_ends {b : Book} {c : Cut} {d : D} (hd : tyD d .tuple = false) (h : X ⟨"InvalidCut", "at", .int 2⟩ s) (hc : okCut b c) : Cl i_need_cut [(m1, encB b), (m2, .tuple [.tuple (c.lists.map encT), .tuple (c.lines.map encLn), d])] [] s Q X := wp_rexc rfl rfl (s_need_cut_ends hc hd) h
theorem p_is_pair {d : D} (h : Q (.fz, .bool (isPair d)) s) : Cl i_is_pair [(m1, d)] [] s Q X := wp_eqo (c_is_pair m1 d s) h
end
end W74
namespace W74
open PySem DV
local macro_rules
  | `(tactic| array_get_dec) => `(tactic| ((with_reducible apply g_call); first
    | ((with_reducible apply p_need_cut))
    | ((with_reducible apply p_need_book))
    | ((with_reducible apply p_is_pair))))
theorem s_need_book_odd {d : D} (h : isPair d = false) : i_need_book.sem [(.fz, d)] = .exc ⟨"InvalidBook", "at", .int (-1)⟩ [] := by
  refine wpc_exc (e_need_book ?_)
  unfold b_need_book
  repeat' array_get_dec
  refine ft_is_f h ?_
  repeat' array_get_dec
  exact ⟨rfl, rfl⟩
theorem s_need_both {b : Book} {c : Cut} (hb : okBook b) (h : okCut b c) : i_need_both.sem [(.fz, encB b), (.fz, encC c)] = .ret (.fz, .tuple [encB b, encC c]) [] := by
  refine wpc_ret (e_need_both ?_)
  unfold b_need_both
  repeat' array_get_dec
  · exact ⟨rfl, rfl⟩
  · exact h
  · exact hb
theorem s_need_both_b {d e : D} (h : isPair d = false) : i_need_both.sem [(.fz, d), (.fz, e)] = .exc ⟨"InvalidBook", "at", .int (-1)⟩ [] := by
  refine wpc_exc (e_need_both ?_)
  unfold b_need_both
  repeat' array_get_dec
  refine wp_rexc rfl rfl (s_need_book_odd h) ?_
  repeat' array_get_dec
  exact ⟨rfl, rfl⟩
theorem s_need_both_c {b : Book} {d : D} (hb : okBook b) (h : tyD d .tuple = false) : i_need_both.sem [(.fz, encB b), (.fz, d)] = .exc ⟨"InvalidCut", "at", .int (-1)⟩ [] := by
  refine wpc_exc (e_need_both ?_)
  unfold b_need_both
  repeat' array_get_dec
  · refine wp_rexc rfl rfl (s_need_cut_odd h) ?_
    repeat' array_get_dec
    exact ⟨rfl, rfl⟩
  · exact hb
theorem s_need_both_e {b : Book} {c : Cut} {d : D} (hb : okBook b) (h : okCut b c) (hd : tyD d .tuple = false) : i_need_both.sem [(.fz, encB b), (.fz, .tuple [.tuple (c.lists.map encT), .tuple (c.lines.map encLn), d])] = .exc ⟨"InvalidCut", "at", .int 2⟩ [] := by
  refine wpc_exc (e_need_both ?_)
  unfold b_need_both
  repeat' array_get_dec
  · refine wp_rexc rfl rfl (s_need_cut_ends h hd) ?_
    repeat' array_get_dec
    exact ⟨rfl, rfl⟩
  · exact hb
end W74

set_option Elab.async false
set_option linter.all false
set_option maxRecDepth 100000
set_option maxHeartbeats 4000000
namespace W74
open PySem DV
def rLine (n : Nat) : Rdg := ("line", (n : Int))
def reads (l : Ln) (i : Nat) : Bool := decide (rLine i ∈ l.2)
def live (c : Cut) (one at' : Nat) : Bool := (c.lines.drop (at' + 1)).any (fun l => reads l one) || decide (rLine one ∈ c.ends)
def rowP (c : Cut) (at' : Nat) : List Nat := (List.range (at' + 1)).filter (fun one => decide (one = at') || live c one at')
/-- what `last` tells behind k lines and so many readings of the next -/
structure LastI (c : Cut) (k : Nat) (pre : List Rdg) (L : List Int) : Prop where
  len : L.length = c.lines.length
  iff : ∀ i at' : Nat, i < c.lines.length → i ≤ at' → at' < c.lines.length → ((at' : Int) < L.getD i 0 ↔ (∃ j l, c.lines[j]? = some l ∧ at' < j ∧ j < k ∧ reads l i = true) ∨ (at' < k ∧ rLine i ∈ pre))
def st1 (c : Cut) (k : Nat) (pre : List Rdg) (s : En) : Prop := ∃ L x2 x3 x4 x5 x6, s = [some (.fz, encC c), some (.o1, .list (L.map PyData.int)), x2, x3, x4, x5, x6, none] ∧ nh x3 ∧ LastI c k pre L
theorem LastI.start (c : Cut) : LastI c 0 [] ((List.range c.lines.length).map fun i => ((i : Nat) : Int)) := by
  refine ⟨by simp, fun i at' hi h1 h2 => ?_⟩
  have e : ((List.range c.lines.length).map fun i => ((i : Nat) : Int)).getD i 0 = i := by simp [List.getD, hi]
  rw [e]
  constructor
  · intro h; omega
  · rintro (⟨j, l, _, h1, h2, _⟩ | ⟨h1, _⟩) <;> omega
theorem LastI.next {c : Cut} {k : Nat} {l : Ln} {L : List Int} (hl : c.lines[k]? = some l) (h : LastI c k l.2 L) : LastI c (k + 1) [] L := by
  refine ⟨h.len, fun i at' hi h1 h2 => (h.iff i at' hi h1 h2).trans ⟨?_, ?_⟩⟩
  · rintro (⟨j, l', e, h1, h2, h3⟩ | ⟨h1, h2⟩)
    · exact .inl ⟨j, l', e, h1, by omega, h3⟩
    · exact .inl ⟨k, l, hl, h1, by omega, decide_eq_true h2⟩
  · rintro (⟨j, l', e, h1, h2, h3⟩ | ⟨h1, h2⟩)
    · rcases Nat.lt_or_ge j k with hj | hj
      · exact .inl ⟨j, l', e, h1, hj, h3⟩
      · obtain rfl : j = k := by omega
        rw [hl] at e
        cases e
        exact .inr ⟨h1, of_decide_eq_true h3⟩
    · cases h2
theorem LastI.skip {c : Cut} {k : Nat} {pre : List Rdg} {r : Rdg} {L : List Int} (h : LastI c k pre L) (hr : ∀ i : Nat, rLine i ≠ r) : LastI c k (pre ++ [r]) L := by
  refine ⟨h.len, fun i at' hi h1 h2 => (h.iff i at' hi h1 h2).trans ?_⟩
  rw [List.mem_append, List.mem_singleton]
  have := hr i
  simp [this]
theorem LastI.put {c : Cut} {k n : Nat} {pre : List Rdg} {L : List Int} (h : LastI c k pre L) (hn : n < k) (hk : k ≤ c.lines.length) : LastI c k (pre ++ [rLine n]) (L.set n k) := by
  refine ⟨by rw [List.length_set]; exact h.len, fun i at' hi h1 h2 => ?_⟩
  rw [List.mem_append, List.mem_singleton]
  by_cases e : n = i
  · subst e
    have e : (L.set n (k : Int)).getD n 0 = k := by
      have : n < L.length := by rw [h.len]; omega
      simp [List.getD, this]
    rw [e]
    constructor
    · intro z; exact .inr ⟨by omega, .inr rfl⟩
    · rintro (⟨j, l, _, z1, z2, _⟩ | ⟨z1, _⟩) <;> omega
  · have e1 : (L.set n (k : Int)).getD i 0 = L.getD i 0 := by
      simp [List.getD, e]
    rw [e1, h.iff i at' hi h1 h2]
    have e2 : ¬ rLine i = rLine n := by
      intro z
      have := (Prod.mk.inj z).2
      omega
    simp [e2]
/-- the last of all, behind the ends too -/
structure LastE (c : Cut) (pre : List Rdg) (L : List Int) : Prop where
  len : L.length = c.lines.length
  iff : ∀ i at' : Nat, i < c.lines.length → i ≤ at' → at' < c.lines.length → ((at' : Int) < L.getD i 0 ↔ (∃ j l, c.lines[j]? = some l ∧ at' < j ∧ reads l i = true) ∨ rLine i ∈ pre)
theorem LastE.start {c : Cut} {L : List Int} (h : LastI c c.lines.length [] L) : LastE c [] L := by
  refine ⟨h.len, fun i at' hi h1 h2 => (h.iff i at' hi h1 h2).trans ⟨?_, ?_⟩⟩
  · rintro (⟨j, l, e, h1, h2, h3⟩ | ⟨_, h2⟩)
    · exact .inl ⟨j, l, e, h1, h3⟩
    · cases h2
  · rintro (⟨j, l, e, h1, h3⟩ | h2)
    · exact .inl ⟨j, l, e, h1, (List.getElem?_eq_some_iff.mp e).1, h3⟩
    · cases h2
theorem LastE.skip {c : Cut} {pre : List Rdg} {r : Rdg} {L : List Int} (h : LastE c pre L) (hr : ∀ i : Nat, rLine i ≠ r) : LastE c (pre ++ [r]) L := by
  refine ⟨h.len, fun i at' hi h1 h2 => (h.iff i at' hi h1 h2).trans ?_⟩
  rw [List.mem_append, List.mem_singleton]
  have := hr i
  simp [this]
theorem LastE.put {c : Cut} {n : Nat} {pre : List Rdg} {L : List Int} (h : LastE c pre L) (hn : n < c.lines.length) : LastE c (pre ++ [rLine n]) (L.set n c.lines.length) := by
  refine ⟨by rw [List.length_set]; exact h.len, fun i at' hi h1 h2 => ?_⟩
  rw [List.mem_append, List.mem_singleton]
  by_cases e : n = i
  · subst e
    have e : (L.set n (c.lines.length : Int)).getD n 0 = c.lines.length := by
      have : n < L.length := by rw [h.len]; omega
      simp [List.getD, this]
    rw [e]
    constructor
    · intro z; exact .inr (.inr rfl)
    · intro _; omega
  · have e1 : (L.set n (c.lines.length : Int)).getD i 0 = L.getD i 0 := by
      simp [List.getD, e]
    rw [e1, h.iff i at' hi h1 h2]
    have e2 : ¬ rLine i = rLine n := by
      intro z
      have := (Prod.mk.inj z).2
      omega
    simp [e2]
theorem LastE.live {c : Cut} {L : List Int} (h : LastE c c.ends L) {i at' : Nat} (hi : i ≤ at') (ha : at' < c.lines.length) : decide ((at' : Int) < L.getD i 0) = live c i at' := by
  unfold W74.live
  rw [Bool.eq_iff_iff, decide_eq_true_eq, h.iff i at' (by omega) hi ha, Bool.or_eq_true, List.any_eq_true, decide_eq_true_eq]
  constructor
  · rintro (⟨j, l, e, h1, h2⟩ | h2)
    · exact .inl ⟨l, List.mem_iff_getElem?.mpr ⟨j - (at' + 1), by rw [List.getElem?_drop, show at' + 1 + (j - (at' + 1)) = j by omega]; exact e⟩, h2⟩
    · exact .inr h2
  · rintro (⟨l, hl, h2⟩ | h2)
    · obtain ⟨j, e⟩ := List.mem_iff_getElem?.mp hl
      rw [List.getElem?_drop] at e
      exact .inl ⟨at' + 1 + j, l, e, by omega, h2⟩
    · exact .inr h2
theorem eq_in : cmpD .Eq (.str "in") (.str "line") = some false := by decide +kernel
theorem eq_value : cmpD .Eq (.str "value") (.str "line") = some false := by decide +kernel
theorem eq_line : cmpD .Eq (.str "line") (.str "line") = some true := by decide +kernel
theorem ln_in (i : Nat) (n : Int) : rLine i ≠ (("in" : Str), n) := fun z => absurd (Prod.mk.inj z).1 (by decide +kernel)
theorem ln_value (i : Nat) (n : Int) : rLine i ≠ (("value" : Str), n) := fun z => absurd (Prod.mk.inj z).1 (by decide +kernel)
def st2 (c : Cut) (pre : List Rdg) (s : En) : Prop := ∃ L x2 x3 x4 x5 x6, s = [some (.fz, encC c), some (.o1, .list (L.map PyData.int)), x2, x3, x4, x5, x6, none] ∧ nh x3 ∧ LastE c pre L
def st3 (c : Cut) (k : Nat) (pre : List Rdg) (s : En) : Prop := ∃ L x2 x4 x5 x6, s = [some (.fz, encC c), some (.o1, .list (L.map PyData.int)), x2, some (.fz, .int k), x4, x5, x6, none] ∧ LastI c k pre L
theorem s_standing_rows {b : Book} {c : Cut} (h : okCut b c) : i_standing_rows.sem [(.fz, encC c)] = .ret (.o1, .list ((List.range c.lines.length).map fun at' => .list ((rowP c at').map nI))) [] := by
  refine wpc_ret (e_standing_rows ?_)
  unfold b_standing_rows
  repeat' array_get_dec
  refine wo_listRg ?_ ?_
  repeat' array_get_dec
  refine lp_enm c.lines encLn (fun k s => st1 c k [] s) ?_ (fun k l s hl hi => ?_) ?_
  · exact ⟨_, none, none, none, none, none, by rw [rangeD0, List.map_map]; rfl, nh_none, LastI.start c⟩
  · obtain ⟨L, x2, x3, x4, x5, x6, rfl, h3, hL⟩ := hi
    repeat' array_get_dec
    refine lp_inv l.2 encR (fun pre s => st3 c k pre s) ?_ (fun pre r post s hr hi => ?_) ?_
    · exact ⟨L, _, _, _, _, rfl, hL⟩
    · obtain ⟨L, x2, x4, x5, x6, rfl, hL⟩ := hi
      have hrd := (h.ln k l hl).rd r (by rw [hr]; simp)
      repeat' array_get_dec
      cases hrd with
      | inp n hn =>
        refine wo_eq eq_in ?_
        repeat' array_get_dec
        exact ⟨L, _, _, _, _, rfl, hL.skip fun i => ln_in i n⟩
      | val n hn =>
        refine wo_eq eq_value ?_
        repeat' array_get_dec
        exact ⟨L, _, _, _, _, rfl, hL.skip fun i => ln_value i n⟩
      | line n hn =>
        obtain ⟨m, rfl⟩ : ∃ m : Nat, n = m := ⟨n.toNat, by omega⟩
        have hk := (List.getElem?_eq_some_iff.mp hl).1
        refine wo_eq eq_line ?_
        repeat' array_get_dec
        refine ⟨_, _, m, rfl, rfl, ?_, ?_⟩
        · exact ixI_nat (by rw [List.length_map, hL.len]; omega)
        · repeat' array_get_dec
          exact ⟨L.set m k, _, _, _, _, by rw [List.map_set], hL.put (by omega) (by omega)⟩
    · rintro s ⟨L, x2, x4, x5, x6, rfl, hL⟩
      repeat' array_get_dec
      exact ⟨L, _, _, _, _, _, rfl, nh_fz, hL.next hl⟩
  · rintro s ⟨L, x2, x3, x4, x5, x6, rfl, h3, hL⟩
    repeat' array_get_dec
    refine lp_inv c.ends encR (fun pre s => st2 c pre s) ?_ (fun pre r post s hr hi => ?_) ?_
    · exact ⟨L, _, _, _, _, _, rfl, h3, LastE.start hL⟩
    · obtain ⟨L, x2, x3, x4, x5, x6, rfl, h3, hL⟩ := hi
      have hrd := h.en r (by rw [hr]; simp)
      repeat' array_get_dec
      cases hrd with
      | inp n hn =>
        refine wo_eq eq_in ?_
        repeat' array_get_dec
        exact ⟨L, _, _, _, _, _, rfl, h3, hL.skip fun i => ln_in i n⟩
      | val n hn =>
        refine wo_eq eq_value ?_
        repeat' array_get_dec
        exact ⟨L, _, _, _, _, _, rfl, h3, hL.skip fun i => ln_value i n⟩
      | line n hn =>
        obtain ⟨m, rfl⟩ : ∃ m : Nat, n = m := ⟨n.toNat, by omega⟩
        refine wo_eq eq_line ?_
        repeat' array_get_dec
        refine ⟨_, _, m, rfl, rfl, ?_, ?_⟩
        · exact ixI_nat (by rw [List.length_map, hL.len]; omega)
        · repeat' array_get_dec
          exact ⟨L.set m c.lines.length, _, _, _, _, _, by rw [List.map_set], h3, hL.put (by omega)⟩
    · rintro s ⟨L, x2, x3, x4, x5, x6, rfl, h3, hL⟩
      repeat' array_get_dec
      · refine cq (own1 rfl (nh_held h3 rfl)) ?_
        refine cp_mapR c.lines.length (fun at' => .list ((rowP c at').map nI)) (fun k hk => ?_) ?_
        · repeat' array_get_dec
          refine wi_rng (n := k + 1) ?_ ?_
          · repeat' array_get_dec
            refine cp_filterR (k + 1) (fun one => decide (one = k) || live c one k) nI (fun one ho => ?_) ?_
            · repeat' array_get_dec
              refine ft_d (fun e => ?_) (fun e => ?_)
              · repeat' array_get_dec
                obtain rfl : one = k := by omega
                have ep : (decide (one = one) || live c one one) = true := by simp
                refine ⟨ep.symm, fun _ => ?_, fun z => nomatch ep.symm.trans z⟩
                repeat' array_get_dec
                exact ⟨rfl, rfl⟩
              · repeat' array_get_dec
                refine wo_ixLn 0 ?_ ?_ ?_ rfl
                · repeat' array_get_dec
                  have ep : (decide (one = k) || live c one k) = decide ((k : Int) < L.getD one 0) := by
                    rw [hL.live (by omega) (by omega), decide_eq_false (by omega)]; rfl
                  refine ⟨ep.symm, fun _ => ?_, fun _ => ?_⟩
                  · repeat' array_get_dec
                    exact ⟨rfl, rfl⟩
                  · rfl
                · omega
                · rw [hL.len]; omega
            · repeat' array_get_dec
              exact ⟨rfl, rfl⟩
          · have := h.n1
            exact le_line (by omega)
        · repeat' array_get_dec
          exact ⟨rfl, rfl⟩
      · have := h.n1
        exact le_line (by omega)
  · have := h.n1
    exact le_line (by omega)
end W74

set_option Elab.async false
set_option linter.all false
set_option maxRecDepth 100000
set_option maxHeartbeats 4000000
namespace W74
open PySem DV
theorem pigeon : ∀ (m : Nat) (T : List Nat), T.length < m → ∃ x, x < m ∧ x ∉ T
  | 0, T, h => absurd h (Nat.not_lt_zero _)
  | m + 1, T, h => by
    by_cases hm : m ∈ T
    · obtain ⟨x, h1, h2⟩ := pigeon m (T.erase m) (by rw [List.length_erase_of_mem hm]; have := List.length_pos_of_mem hm; omega)
      exact ⟨x, by omega, fun z => h2 ((List.mem_erase_of_ne (by omega)).mpr z)⟩
    · exact ⟨m, by omega, hm⟩
theorem nodup_len : ∀ (m : Nat) (ns : List Nat), ns.Nodup → (∀ x ∈ ns, x < m) → ns.length ≤ m
  | 0, ns, _, h => by
    cases ns with
    | nil => exact Nat.le_refl _
    | cons x r => exact absurd (h x List.mem_cons_self) (Nat.not_lt_zero _)
  | m + 1, ns, hn, h => by
    by_cases hm : m ∈ ns
    · have := nodup_len m (ns.erase m) (hn.erase m) (fun x hx => by
        have h1 := h x (List.mem_of_mem_erase hx)
        have h2 : x ≠ m := fun z => by subst z; exact (List.Nodup.not_mem_erase hn) hx
        omega)
      rw [List.length_erase_of_mem hm] at this
      omega
    · exact Nat.le_succ_of_le (nodup_len m ns hn fun x hx => by
        have h1 := h x hx
        have h2 : x ≠ m := fun z => hm (z ▸ hx)
        omega)
theorem maxI_ge : ∀ (ns : List Int) (x : Int), x ∈ ns → x ≤ maxI ns
  | [], x, h => by cases h
  | [y], x, h => by rw [List.mem_singleton] at h; subst h; exact Int.le_refl _
  | y :: z :: r, x, h => by
    show x ≤ (if maxI (z :: r) ≤ y then y else maxI (z :: r))
    have ih := maxI_ge (z :: r)
    rcases List.mem_cons.mp h with rfl | h
    · split <;> omega
    · have := ih x h
      split <;> omega
theorem maxI_mem : ∀ (ns : List Int), ns ≠ [] → maxI ns ∈ ns
  | [], h => absurd rfl h
  | [y], _ => List.mem_singleton.mpr rfl
  | y :: z :: r, _ => by
    show (if maxI (z :: r) ≤ y then y else maxI (z :: r)) ∈ _
    split
    · exact List.mem_cons_self
    · exact List.mem_cons_of_mem _ (maxI_mem (z :: r) (fun h => nomatch h))
theorem maxI_cons {x : Int} {ns : List Int} (h : ns ≠ []) (hx : x ≤ maxI ns) : maxI (x :: ns) = maxI ns := by
  cases ns with
  | nil => exact absurd rfl h
  | cons y r =>
    show (if maxI (y :: r) ≤ x then x else maxI (y :: r)) = _
    split
    · omega
    · rfl
theorem minI_head : ∀ (ns : List Nat), ns.Pairwise (· < ·) → ns ≠ [] → minI (ns.map fun n => ((n : Nat) : Int)) = ns.headD 0
  | [], _, h => absurd rfl h
  | [y], _, _ => rfl
  | y :: z :: r, hp, _ => by
    have ih := minI_head (z :: r) (List.pairwise_cons.mp hp).2 (fun h => nomatch h)
    have hlt := (List.pairwise_cons.mp hp).1 z List.mem_cons_self
    show (if ((y : Nat) : Int) ≤ minI ((z :: r).map fun n => ((n : Nat) : Int)) then ((y : Nat) : Int) else minI ((z :: r).map fun n => ((n : Nat) : Int))) = _
    rw [ih]
    show (if ((y : Nat) : Int) ≤ ((z : Nat) : Int) then ((y : Nat) : Int) else _) = ((y : Nat) : Int)
    rw [if_pos (by omega)]
/-! ### the cells -/
def takenL (c : Cut) (cs : List Nat) (k : Nat) : List Nat := ((rowP c k).filter fun one => decide (one ≠ k)).map fun one => cs.getD one 0
def mex (m : Nat) (T : List Nat) : Nat := ((List.range m).filter fun x => decide (x ∉ T)).headD 0
def cellsL (c : Cut) : Nat → List Nat
  | 0 => []
  | k + 1 => cellsL c k ++ [mex (rowP c k).length (takenL c (cellsL c k) k)]
theorem cellsL_len (c : Cut) : ∀ k, (cellsL c k).length = k
  | 0 => rfl
  | k + 1 => by show (cellsL c k ++ _).length = _; rw [List.length_append, cellsL_len c k]; rfl
def lens (c : Cut) : List Int := (List.range c.lines.length).map fun k => (((rowP c k).length : Nat) : Int)
def manyI (c : Cut) : Int := maxI (0 :: lens c)
def moments (c : Cut) : List Nat := (List.range c.lines.length).filter fun k => decide ((((rowP c k).length : Nat) : Int) = manyI c)
theorem lens_ne {c : Cut} (h : 0 < c.lines.length) : lens c ≠ [] := by
  intro z
  have := congrArg List.length z
  unfold lens at this
  rw [List.length_map, List.length_range] at this
  exact absurd this (by simp; intro e; rw [e] at h; exact absurd h (by decide))
theorem manyI_eq {c : Cut} (h : 0 < c.lines.length) : manyI c = maxI (lens c) := by
  refine maxI_cons (lens_ne h) ?_
  obtain ⟨k, _, e⟩ := List.mem_map.mp (maxI_mem _ (lens_ne h))
  have e' : (((rowP c k).length : Nat) : Int) = maxI (lens c) := e
  omega
theorem manyI_at {c : Cut} (h : 0 < c.lines.length) : ∃ k, k < c.lines.length ∧ (((rowP c k).length : Nat) : Int) = manyI c := by
  obtain ⟨k, hk, e⟩ := List.mem_map.mp (maxI_mem _ (lens_ne h))
  exact ⟨k, List.mem_range.mp hk, by rw [manyI_eq h]; exact e⟩
theorem manyI_ge {c : Cut} {k : Nat} (h : k < c.lines.length) : (((rowP c k).length : Nat) : Int) ≤ manyI c :=
  maxI_ge _ _ (List.mem_cons_of_mem _ (List.mem_map.mpr ⟨k, List.mem_range.mpr h, rfl⟩))
theorem moments_ne {c : Cut} (h : 0 < c.lines.length) : moments c ≠ [] := by
  obtain ⟨k, hk, e⟩ := manyI_at h
  intro z
  have : k ∈ moments c := List.mem_filter.mpr ⟨List.mem_range.mpr hk, decide_eq_true e⟩
  rw [z] at this
  cases this
theorem row_last (c : Cut) (k : Nat) : rowP c k = ((List.range k).filter fun one => live c one k) ++ [k] := by
  unfold rowP
  rw [List.range_succ, List.filter_append]
  congr 1
  · refine List.filter_congr fun x hx => ?_
    rw [decide_eq_false (by have := List.mem_range.mp hx; omega)]; rfl
  · simp
theorem row_taken (c : Cut) (cs : List Nat) (k : Nat) : takenL c cs k = ((List.range k).filter fun one => live c one k).map fun one => cs.getD one 0 := by
  unfold takenL
  rw [row_last, List.filter_append]
  congr 1
  rw [List.filter_eq_self.mpr (fun x hx => decide_eq_true (by have := List.mem_range.mp (List.mem_filter.mp hx).1; omega))]
  simp
theorem taken_len (c : Cut) (cs : List Nat) (k : Nat) : (takenL c cs k).length < (rowP c k).length := by
  rw [row_taken, row_last, List.length_map, List.length_append]
  exact Nat.lt_succ_self _
theorem mex_list (c : Cut) (cs : List Nat) (k : Nat) : ((List.range (rowP c k).length).filter fun x => decide (x ∉ takenL c cs k)) ≠ [] := by
  obtain ⟨x, h1, h2⟩ := pigeon _ _ (taken_len c cs k)
  intro z
  have : x ∈ ((List.range (rowP c k).length).filter fun x => decide (x ∉ takenL c cs k)) := List.mem_filter.mpr ⟨List.mem_range.mpr h1, decide_eq_true h2⟩
  rw [z] at this
  cases this
theorem mex_spec (c : Cut) (cs : List Nat) (k : Nat) : mex (rowP c k).length (takenL c cs k) < (rowP c k).length ∧ mex (rowP c k).length (takenL c cs k) ∉ takenL c cs k := by
  have h := mex_list c cs k
  unfold mex
  revert h
  cases e : (List.range (rowP c k).length).filter fun x => decide (x ∉ takenL c cs k) with
  | nil => intro h; exact absurd rfl h
  | cons y r =>
    intro _
    have : y ∈ ((List.range (rowP c k).length).filter fun x => decide (x ∉ takenL c cs k)) := by rw [e]; exact List.mem_cons_self
    obtain ⟨h1, h2⟩ := List.mem_filter.mp this
    exact ⟨List.mem_range.mp h1, of_decide_eq_true h2⟩
section
variable {Q : MD → En → Prop} {X : Xn → En → Prop} {s : En} {m m1 m2 m3 m4 : Md}
theorem p_need_both {b : Book} {c : Cut} (h : Q (.fz, .tuple [encB b, encC c]) s) (hb : okBook b) (hc : okCut b c) : Cl i_need_both [(m1, encB b), (m2, encC c)] [] s Q X := wp_ret rfl rfl (s_need_both hb hc) rfl h
theorem p_standing_rows {b : Book} {c : Cut} (h : Q (.o1, .list ((List.range c.lines.length).map fun at' => .list ((rowP c at').map nI))) s) (hc : okCut b c) : Cl i_standing_rows [(m, encC c)] [] s Q X := wp_ret rfl rfl (s_standing_rows hc) rfl h
end
local macro_rules
  | `(tactic| array_get_dec) => `(tactic| ((with_reducible apply g_call); first
    | ((with_reducible apply p_need_both))
    | ((with_reducible apply p_standing_rows))))
def fcI (b : Book) (c : Cut) (k : Nat) (s : En) : Prop := ∃ x6 x7 x8, s = [some (.fz, encB b), some (.fz, encC c), none, none, some (.fz, .list ((List.range c.lines.length).map fun at' => .list ((rowP c at').map nI))), some (.o1, .list ((cellsL c k).map nI)), x6, x7, x8, none, none] ∧ nh x6 ∧ nh x7
theorem s_fewest_cells {b : Book} {c : Cut} (hb : okBook b) (h : okCut b c) (h0 : 0 < c.lines.length) : i_fewest_cells.sem [(.fz, encB b), (.fz, encC c)] = .ret (.fz, .tuple [.int (manyI c), .tuple ((cellsL c c.lines.length).map nI), .int ((moments c).headD 0 : Nat)]) [] := by
  have hn := h.n1
  refine wpc_ret (e_fewest_cells ?_)
  unfold b_fewest_cells
  repeat' array_get_dec
  · refine lp_enm (List.range c.lines.length) (fun at' => .list ((rowP c at').map nI)) (fcI b c) ?_ (fun k x s hk hi => ?_) ?_
    · exact ⟨none, none, none, rfl, nh_none, nh_none⟩
    · obtain ⟨x6, x7, x8, rfl, h6, h7⟩ := hi
      obtain ⟨hk', rfl⟩ : k < c.lines.length ∧ x = k := by
        obtain ⟨h1, h2⟩ := List.getElem?_eq_some_iff.mp hk
        rw [List.length_range] at h1
        rw [List.getElem_range] at h2
        exact ⟨h1, h2.symm⟩
      repeat' array_get_dec
      refine cp_filter (rowP c x) nI (fun one => decide (one ≠ x)) (fun one => nI ((cellsL c x).getD one 0)) (fun one ho => ?_) ?_
      · have ho' : one < x + 1 := List.mem_range.mp (List.mem_filter.mp ho).1
        repeat' array_get_dec
        have ep : decide ((one : Int) ≠ (x : Int)) = decide (one ≠ x) := by
          by_cases e : one = x
          · simp [e]
          · simp [e]; omega
        refine ⟨ep, fun hp => ?_, fun _ => rfl⟩
        have hp := of_decide_eq_true hp
        repeat' array_get_dec
        refine wo_ixLn 0 ?_ ?_ ?_ rfl
        · repeat' array_get_dec
          exact ⟨rfl, rfl⟩
        · omega
        · rw [cellsL_len]; omega
      · repeat' array_get_dec
        · refine cp_filterR (rowP c x).length (fun k => decide (k ∉ takenL c (cellsL c x) x)) nI (fun k hk => ?_) ?_
          · repeat' array_get_dec
            rw [show (fun one => nI ((cellsL c x).getD one 0)) = nI ∘ fun one => (cellsL c x).getD one 0 from rfl, ← List.map_map]
            refine wo_niL eqe_nI (by decide) ?_
            repeat' array_get_dec
            refine ⟨rfl, fun hp => ?_, fun _ => rfl⟩
            repeat' array_get_dec
            exact ⟨rfl, rfl⟩
          · repeat' array_get_dec
            refine wo_minE _ (map_nI _) (by rw [List.length_map]; exact List.length_pos_iff.mpr (mex_list c (cellsL c x) x)) ?_
            · repeat' array_get_dec
              refine ⟨_, rfl, ?_, ?_⟩
              · rw [List.length_map, cellsL_len]; exact Nat.lt_of_lt_of_le (Nat.lt_of_lt_of_le hk' hn) (by decide)
              · repeat' array_get_dec
                rw [minI_head _ (List.Pairwise.filter _ List.pairwise_lt_range) (mex_list c (cellsL c x) x)]
                have ec : (cellsL c (x + 1)).map nI = (cellsL c x).map nI ++ [nI (mex (rowP c x).length (takenL c (cellsL c x) x))] := by
                  show (cellsL c x ++ _).map nI = _
                  rw [List.map_append]; rfl
                show fcI b c (x + 1) _
                unfold fcI
                rw [ec]
                exact ⟨_, _, _, rfl, nh_fz, nh_fz⟩
        · have : (rowP c x).length ≤ x + 1 := by
            have := List.length_filter_le (fun one => decide (one = x) || live c one x) (List.range (x + 1))
            rw [List.length_range] at this
            exact this
          exact le_line (by omega)
    · rintro s ⟨x6, x7, x8, rfl, h6, h7⟩
      repeat' array_get_dec
      refine cq (own1 rfl (nh_held h7 rfl)) ?_
      refine cp_map (List.range c.lines.length) (fun at' => .list ((rowP c at').map nI)) (fun k => nI (rowP c k).length) (fun k hk => ?_) ?_
      · repeat' array_get_dec
        exact ⟨rfl, rfl⟩
      repeat' array_get_dec
      refine wo_catL ?_ ?_
      · repeat' array_get_dec
        refine wo_maxE (0 :: lens c) ?_ (Nat.succ_pos _) ?_
        · show [PyData.int 0] ++ _ = PyData.int 0 :: (lens c).map PyData.int
          unfold lens
          rw [List.map_map]
          rfl
        repeat' array_get_dec
        refine cq (own2 rfl (nh_held h6 rfl) (nh_held h7 rfl)) ?_
        refine cp_enmF (List.range c.lines.length) (fun at' => .list ((rowP c at').map nI)) (fun _ k => decide ((((rowP c k).length : Nat) : Int) = manyI c)) (fun k _ => nI k) (fun k x hk => ?_) ?_
        · repeat' array_get_dec
          refine ⟨rfl, fun _ => ?_, fun _ => rfl⟩
          repeat' array_get_dec
          exact ⟨rfl, rfl⟩
        rw [zip_filter c.lines.length (fun k => decide ((((rowP c k).length : Nat) : Int) = manyI c)) nI]
        repeat' array_get_dec
        rw [List.length_range]
        have hm := moments_ne h0
        unfold moments at *
        cases e : (List.range c.lines.length).filter fun k => decide ((((rowP c k).length : Nat) : Int) = manyI c) with
        | nil => exact absurd e hm
        | cons k r =>
          rw [List.map_cons]
          refine ft_d (fun _ => ?_) (fun z => absurd (by rw [List.length_cons]; omega) z)
          repeat' array_get_dec
          exact ⟨rfl, rfl⟩
      · rw [List.length_map, List.length_range]
        exact Nat.le_trans (Nat.add_le_add_left hn _) (by decide)
  · exact h
  · exact hb
  · exact h
end W74

set_option Elab.async false
set_option linter.all false
set_option maxRecDepth 100000
set_option maxHeartbeats 4000000
namespace W74
open PySem DV
local macro_rules
  | `(tactic| array_get_dec) => `(tactic| ((with_reducible apply g_call); first
    | ((with_reducible apply p_need_both))
    | ((with_reducible apply p_standing_rows))
    | ((with_reducible apply p_is_number))
    | ((with_reducible apply p_is_below))))
def fitB (c : Cut) (ns : List Int) : Bool := (List.range c.lines.length).all fun at' => decide (((dedI ((rowP c at').map fun one => ns.getD one 0)).length : Int) = ((rowP c at').length : Nat))
def momB (c : Cut) (k : Int) : D → Bool
  | .int z => decide (0 ≤ z) && decide (z < (c.lines.length : Nat)) && decide ((((rowP c z.toNat).length : Nat) : Int) = k)
  | _ => false
def holdB (c : Cut) (k : Int) (ns : List Int) (mo : D) : Bool := decide (0 ≤ k) && (decide (ns.length = c.lines.length) && (ns.all (fun x => isBel k (.int x)) && (fitB c ns && momB c k mo)))
theorem row_len (c : Cut) (k : Nat) : (rowP c k).length ≤ k + 1 := by
  have := List.length_filter_le (fun one => decide (one = k) || live c one k) (List.range (k + 1))
  rw [List.length_range] at this
  exact this
theorem row_lt {c : Cut} {k one : Nat} (h : one ∈ rowP c k) : one < k + 1 := List.mem_range.mp (List.mem_filter.mp h).1
theorem s_hold {b : Book} {c : Cut} {k : Int} {ns : List Int} {mo : D} (hb : okBook b) (h : okCut b c) (h0 : 0 < c.lines.length) : i_fewest_hold.sem [(.fz, encB b), (.fz, encC c), (.fz, .tuple [.int k, encT ns, mo])] = .ret (.fz, .bool (holdB c k ns mo)) [] := by
  have hn := h.n1
  refine wpc_ret (e_fewest_hold ?_)
  unfold b_fewest_hold
  repeat' array_get_dec
  · refine ft_d (fun hk => ?_) (fun hk => ?_)
    · repeat' array_get_dec
      refine ft_d (fun hl => ?_) (fun hl => ?_)
      · repeat' array_get_dec
        refine ⟨?_, rfl⟩
        unfold holdB
        rw [decide_eq_false (p := ns.length = c.lines.length) (by omega)]
        simp
      repeat' array_get_dec
      refine cp_map ns PyData.int (fun x => .bool (isBel k (.int x))) (fun x hx => ?_) ?_
      · repeat' array_get_dec
        exact ⟨rfl, rfl⟩
      repeat' array_get_dec
      refine ft (fun ha => ?_) (fun ha => ?_)
      · repeat' array_get_dec
        any_goals exact h
        refine cp_map (List.range c.lines.length) (fun at' => .list ((rowP c at').map nI)) (fun at' => .bool (decide (((dedI ((rowP c at').map fun one => ns.getD one 0)).length : Int) = ((rowP c at').length : Nat)))) (fun at' hat => ?_) ?_
        · have hat := List.mem_range.mp hat
          have hrl := row_len c at'
          repeat' array_get_dec
          refine cp_map (rowP c at') nI (fun one => .int (ns.getD one 0)) (fun one hone => ?_) ?_
          · have := row_lt hone
            repeat' array_get_dec
            refine wo_ixTn 0 ?_ (by omega) (by omega)
            repeat' array_get_dec
            exact ⟨rfl, rfl⟩
          · repeat' array_get_dec
            refine wo_lenSetE ((rowP c at').map fun one => ns.getD one 0) (by rw [List.map_map]; rfl) (by rw [List.length_map]; omega) ?_
            repeat' array_get_dec
            exact ⟨rfl, rfl⟩
        repeat' array_get_dec
        refine ft (fun hf => ?_) (fun hf => ?_)
        · repeat' array_get_dec
          refine ft_d (fun z => absurd z (by rw [List.length_range]; omega)) (fun _ => ?_)
          repeat' array_get_dec
          rw [List.length_range]
          have e1 : holdB c k ns mo = momB c k mo := by
            unfold holdB fitB
            rw [decide_eq_true hk, decide_eq_true (show ns.length = c.lines.length by omega), ha, hf]
            simp
          rw [e1]
          refine ft (fun hm => ?_) (fun hm => ?_)
          · cases mo with
            | int z =>
              have hm' : (decide (0 ≤ z) && decide (z < (c.lines.length : Nat))) = true := hm
              have hz : 0 ≤ z ∧ z < (c.lines.length : Nat) := by simpa using hm'
              repeat' array_get_dec
              refine wo_ixLn 0 ?_ (by omega) (by rw [List.length_range]; omega) rfl
              have e2 : (List.range c.lines.length).getD z.toNat 0 = z.toNat := by
                rw [List.getD_eq_getElem?_getD, List.getElem?_range (by omega)]; rfl
              rw [e2]
              repeat' array_get_dec
              refine ⟨?_, rfl⟩
              show (Md.fz, PyData.bool _) = (Md.fz, PyData.bool (decide (0 ≤ z) && decide (z < (c.lines.length : Nat)) && _))
              rw [hm', Bool.true_and]
            | _ => exact nomatch hm
          · repeat' array_get_dec
            refine ⟨?_, rfl⟩
            cases mo with
            | int z =>
              show (Md.fz, PyData.bool _) = (Md.fz, PyData.bool (decide (0 ≤ z) && decide (z < (c.lines.length : Nat)) && _))
              rw [show (decide (0 ≤ z) && decide (z < (c.lines.length : Nat))) = false from hm, Bool.false_and]
            | _ => rfl
        · repeat' array_get_dec
          refine ⟨?_, rfl⟩
          unfold holdB fitB
          rw [hf]
          simp
      · repeat' array_get_dec
        refine ⟨?_, rfl⟩
        unfold holdB
        rw [ha]
        simp
    · repeat' array_get_dec
      refine ⟨?_, rfl⟩
      unfold holdB
      rw [decide_eq_false hk]; rfl
  · exact hb
  · exact h
/-- what can't be a paper by its form -/
inductive BadV : D → Prop
  | form {d : D} (h : tyD d .tuple = false) : BadV d
  | len {ds : List D} (h : ds.length ≠ 3) : BadV (.tuple ds)
  | many {b : Bool} {d e : D} : BadV (.tuple [.bool b, d, e])
  | cells {k : Int} {d e : D} (h : tyD d .tuple = false) : BadV (.tuple [.int k, d, e])
theorem s_hold_bad {b : Book} {c : Cut} {d : D} (hb : okBook b) (h : okCut b c) (hd : BadV d) : i_fewest_hold.sem [(.fz, encB b), (.fz, encC c), (.fz, d)] = .ret (.fz, .bool false) [] := by
  refine wpc_ret (e_fewest_hold ?_)
  unfold b_fewest_hold
  repeat' array_get_dec
  any_goals exact hb
  any_goals exact h
  cases hd with
  | form hd =>
    refine ft_is_f (by show ([Ty.tuple].any (tyD d)) = false; rw [List.any_cons, hd]; rfl) ?_
    repeat' array_get_dec
    exact ⟨rfl, rfl⟩
  | len hl =>
    repeat' array_get_dec
    refine ft_d (fun _ => ?_) (fun z => absurd z (by omega))
    repeat' array_get_dec
    exact ⟨rfl, rfl⟩
  | many =>
    repeat' array_get_dec
    exact ⟨rfl, rfl⟩
  | cells hd =>
    repeat' array_get_dec
    refine ft_d (fun _ => ?_) (fun _ => ?_)
    · repeat' array_get_dec
      refine ft_is_f (by show ([Ty.tuple].any (tyD _)) = false; rw [List.any_cons, hd]; rfl) ?_
      repeat' array_get_dec
      exact ⟨rfl, rfl⟩
    · repeat' array_get_dec
      exact ⟨rfl, rfl⟩
/-! ### raising -/
theorem s_cells_b {d e : D} (h : isPair d = false) : i_fewest_cells.sem [(.fz, d), (.fz, e)] = .exc ⟨"InvalidBook", "at", .int (-1)⟩ [] := by
  refine wpc_exc (e_fewest_cells ?_)
  unfold b_fewest_cells
  repeat' array_get_dec
  refine wp_rexc rfl rfl (s_need_both_b h) ?_
  repeat' array_get_dec
  exact ⟨rfl, rfl⟩
theorem s_cells_c {b : Book} {d : D} (hb : okBook b) (h : tyD d .tuple = false) : i_fewest_cells.sem [(.fz, encB b), (.fz, d)] = .exc ⟨"InvalidCut", "at", .int (-1)⟩ [] := by
  refine wpc_exc (e_fewest_cells ?_)
  unfold b_fewest_cells
  repeat' array_get_dec
  refine wp_rexc rfl rfl (s_need_both_c hb h) ?_
  repeat' array_get_dec
  exact ⟨rfl, rfl⟩
theorem s_cells_e {b : Book} {c : Cut} {d : D} (hb : okBook b) (h : okCut b c) (hd : tyD d .tuple = false) : i_fewest_cells.sem [(.fz, encB b), (.fz, .tuple [.tuple (c.lists.map encT), .tuple (c.lines.map encLn), d])] = .exc ⟨"InvalidCut", "at", .int 2⟩ [] := by
  refine wpc_exc (e_fewest_cells ?_)
  unfold b_fewest_cells
  repeat' array_get_dec
  refine wp_rexc rfl rfl (s_need_both_e hb h hd) ?_
  repeat' array_get_dec
  exact ⟨rfl, rfl⟩
theorem s_hold_b {d e f : D} (h : isPair d = false) : i_fewest_hold.sem [(.fz, d), (.fz, e), (.fz, f)] = .exc ⟨"InvalidBook", "at", .int (-1)⟩ [] := by
  refine wpc_exc (e_fewest_hold ?_)
  unfold b_fewest_hold
  repeat' array_get_dec
  refine wp_rexc rfl rfl (s_need_both_b h) ?_
  repeat' array_get_dec
  exact ⟨rfl, rfl⟩
theorem s_hold_c {b : Book} {d f : D} (hb : okBook b) (h : tyD d .tuple = false) : i_fewest_hold.sem [(.fz, encB b), (.fz, d), (.fz, f)] = .exc ⟨"InvalidCut", "at", .int (-1)⟩ [] := by
  refine wpc_exc (e_fewest_hold ?_)
  unfold b_fewest_hold
  repeat' array_get_dec
  refine wp_rexc rfl rfl (s_need_both_c hb h) ?_
  repeat' array_get_dec
  exact ⟨rfl, rfl⟩
end W74

set_option Elab.async false
set_option linter.all false
set_option maxRecDepth 100000
set_option maxHeartbeats 4000000
namespace W74
open PySem DV
theorem eqv_R (a b : Rdg) : PyData.eqv (encR a) (encR b) = decide (a = b) := by
  obtain ⟨a1, a2⟩ := a
  obtain ⟨b1, b2⟩ := b
  show PyData.eqv (.tuple [.str a1, .int a2]) (.tuple [.str b1, .int b2]) = _
  rw [eqv_pair, eqv_str, eqv_int]
  simp
theorem lay_in : PyData.canLay0 (.str "in") = true := by decide +kernel
theorem lay_line : PyData.canLay0 (.str "line") = true := by decide +kernel
theorem lay_value : PyData.canLay0 (.str "value") = true := by decide +kernel
theorem sh_R {size inputs lines : Int} {r : Rdg} (h : okR size inputs lines r) : Sh 1 (encR r) := by
  cases h with
  | inp n _ => exact sh_tup2 (sh_str lay_in) (sh_int _)
  | line n _ => exact sh_tup2 (sh_str lay_line) (sh_int _)
  | val n _ => exact sh_tup2 (sh_str lay_value) (sh_int _)
theorem sh_rLine (n : Nat) : Sh 1 (encR (rLine n)) := sh_tup2 (sh_str lay_line) (sh_int _)
def standsL (c : Cut) (at' : Nat) : List Nat := at' :: (List.range at').filter fun one => live c one at'
theorem s_stands {b : Book} {c : Cut} (h : okCut b c) {at' : Nat} (ha : at' ≤ 1000) : i__law_stands.sem [(.fz, encC c), (.fz, nI at')] = .ret (.o1, .list ((standsL c at').map nI)) [] := by
  have hn := h.n1
  refine wpc_ret (e__law_stands ?_)
  unfold b__law_stands
  repeat' array_get_dec
  · refine lp_rng at' (fun k s => ∃ x3 x4, s = [some (.fz, encC c), some (.fz, nI at'), some (.o1, .list ((at' :: (List.range k).filter fun one => live c one at').map nI)), x3, x4, none, none]) ⟨none, none, rfl⟩ (fun k s hk hi => ?_) ?_
    · obtain ⟨x3, x4, rfl⟩ := hi
      have hfl : ((at' :: (List.range k).filter fun one => live c one at').map nI).length < lineN := by
        have := List.length_filter_le (fun one => live c one at') (List.range k)
        rw [List.length_range] at this
        rw [List.length_map, List.length_cons]
        exact Nat.lt_of_le_of_lt (Nat.succ_le_succ (Nat.le_trans this (Nat.le_trans (Nat.le_of_lt hk) ha))) (by decide)
      repeat' array_get_dec
      rw [show ((at' : Int) + 1) = ((at' + 1 : Nat) : Int) from rfl, cut_from, ← List.map_drop]
      have hdrop : ∀ l, l ∈ c.lines.drop (at' + 1) → ∀ r ∈ l.2, Sh 1 (encR r) := fun l hl r hr => by
        obtain ⟨j, e⟩ := List.mem_iff_getElem?.mp (List.mem_of_mem_drop hl)
        exact sh_R ((h.ln j l e).rd r hr)
      refine cp_filter (c.lines.drop (at' + 1)) encLn (fun l => reads l k) (fun l => .tuple (l.2.map encR)) (fun l hl => ?_) ?_
      · repeat' array_get_dec
        refine wo_inTs (e := encR) (a := rLine k) eqv_R ((sh_rLine k).up (by decide)) (fun r hr => (hdrop l hl r hr).up (by decide)) ?_
        repeat' array_get_dec
        refine ⟨decide_eq_decide.mpr Iff.rfl, fun _ => ?_, fun _ => rfl⟩
        repeat' array_get_dec
        exact ⟨rfl, rfl⟩
      · repeat' array_get_dec
        refine wo_nes (sh_lst (n := 2) (sh_map fun l hl => sh_tup (sh_map (hdrop l (List.mem_filter.mp hl).1))) |>.up (by decide)) (sh_lst (n := 0) (fun x hx => absurd hx List.not_mem_nil) |>.up (by decide)) ?_
        repeat' array_get_dec
        rw [eqv_nilL]
        have hs : (List.range (k + 1)).filter (fun one => live c one at') = (List.range k).filter (fun one => live c one at') ++ if live c k at' = true then [k] else [] := by
          rw [List.range_succ, List.filter_append, List.filter_cons, List.filter_nil]
        rw [hs]
        cases ea : (c.lines.drop (at' + 1)).any (fun l => reads l k) with
        | true =>
          have hl : live c k at' = true := by unfold live; rw [ea]; rfl
          refine ft_is_f ?_ ?_
          · obtain ⟨l, hl1, hl2⟩ := List.any_eq_true.mp ea
            rw [List.isEmpty_eq_false_iff_exists_mem]
            exact ⟨_, List.mem_map.mpr ⟨l, List.mem_filter.mpr ⟨hl1, hl2⟩, rfl⟩⟩
          · repeat' array_get_dec
            refine ⟨_, rfl, ?_, ?_⟩
            · exact hfl
            repeat' array_get_dec
            rw [hl, if_pos rfl, ← List.cons_append, List.map_append]
            exact ⟨_, _, rfl⟩
        | false =>
          refine ft_is_t ?_ ?_
          · rw [List.isEmpty_iff, List.map_eq_nil_iff, List.filter_eq_nil_iff]
            intro l hl
            have := List.any_eq_false.mp ea l hl
            exact this
          · repeat' array_get_dec
            refine wo_inTs (e := encR) (a := rLine k) eqv_R ((sh_rLine k).up (by decide)) (fun r hr => (sh_R (h.en r hr)).up (by decide)) ?_
            repeat' array_get_dec
            have hl : live c k at' = decide (rLine k ∈ c.ends) := by
              unfold live
              rw [ea, Bool.false_or]
            refine ft (fun he => ?_) (fun he => ?_)
            · repeat' array_get_dec
              refine ⟨_, rfl, ?_, ?_⟩
              · exact hfl
              repeat' array_get_dec
              rw [if_pos (by rw [hl]; simpa using he), ← List.cons_append, List.map_append]
              exact ⟨_, _, rfl⟩
            · repeat' array_get_dec
              rw [if_neg (by rw [hl]; simpa using he), List.append_nil]
              exact ⟨_, _, rfl⟩
    · rintro s ⟨x3, x4, rfl⟩
      repeat' array_get_dec
      exact ⟨rfl, rfl⟩
  · exact le_line (by omega)
section
variable {Q : MD → En → Prop} {X : Xn → En → Prop} {s : En} {m m1 m2 m3 m4 : Md}
theorem p_stands {b : Book} {c : Cut} {at' : Nat} (h : Q (.o1, .list ((standsL c at').map nI)) s) (hc : okCut b c) (ha : at' ≤ 1000) : Cl i__law_stands [(m1, encC c), (m2, .int at')] [] s Q X := wp_ret rfl rfl (s_stands hc ha) rfl h
end
end W74
namespace W74
open PySem DV
local macro_rules
  | `(tactic| array_get_dec) => `(tactic| ((with_reducible apply g_call); first
    | ((with_reducible apply p_stands))))
theorem stands_perm (c : Cut) (at' : Nat) : (standsL c at').Perm (rowP c at') := by
  rw [row_last]
  unfold standsL
  exact (List.perm_append_singleton _ _).symm
theorem stands_lt {c : Cut} {k one : Nat} (h : one ∈ standsL c k) : one < k + 1 := row_lt ((stands_perm c k).mem_iff.mp h)
theorem stands_len (c : Cut) (k : Nat) : (standsL c k).length = (rowP c k).length := (stands_perm c k).length_eq
/-- whether no two lines that stand at once have one cell -/
def Fit (c : Cut) (ns : List Int) : Prop := ∀ at', at' < c.lines.length → ((rowP c at').map fun one => ns.getD one 0).Nodup
theorem ded_iff (ns : List Int) : ((dedI ns).length = ns.length ↔ ns.Nodup) ∧ (dedI ns).length ≤ ns.length := by
  have key : ∀ (l σ : List Int), (l.foldl PyProof.Rows.step_dedup σ).length ≤ σ.length + l.length ∧ (σ.Nodup → ((l.foldl PyProof.Rows.step_dedup σ).length = σ.length + l.length ↔ (σ ++ l).Nodup)) := by
    intro l
    induction l with
    | nil => intro σ; exact ⟨Nat.le_refl _, fun hs => by rw [List.append_nil]; exact ⟨fun _ => hs, fun _ => rfl⟩⟩
    | cons x l ih =>
      intro σ
      show (l.foldl PyProof.Rows.step_dedup (PyProof.Rows.step_dedup σ x)).length ≤ _ ∧ (_ → ((l.foldl PyProof.Rows.step_dedup (PyProof.Rows.step_dedup σ x)).length = _ ↔ _))
      unfold PyProof.Rows.step_dedup
      by_cases h : σ.any (· == x) = true
      · rw [if_pos h]
        have hx : x ∈ σ := by simpa using h
        have := (ih σ).1
        refine ⟨by rw [List.length_cons]; unfold PyProof.Rows.step_dedup at this; omega, fun hs => ⟨fun z => ?_, fun z => ?_⟩⟩
        · rw [List.length_cons] at z
          unfold PyProof.Rows.step_dedup at this
          omega
        · rw [List.nodup_append] at z
          exact absurd rfl (z.2.2 x hx x List.mem_cons_self)
      · rw [if_neg h]
        have hx : x ∉ σ := by simpa using h
        obtain ⟨h1, h2⟩ := ih (σ ++ [x])
        unfold PyProof.Rows.step_dedup at h1 h2
        rw [List.length_append] at h1 h2
        refine ⟨by rw [List.length_cons]; simp only [List.length_cons, List.length_nil] at h1; omega, fun hs => ?_⟩
        have hs' : (σ ++ [x]).Nodup := by
          rw [List.nodup_append]
          refine ⟨hs, by simp, fun a ha b hb => ?_⟩
          rw [List.mem_singleton] at hb
          subst hb
          exact fun z => hx (z ▸ ha)
        have := h2 hs'
        rw [List.append_assoc] at this
        rw [List.length_cons]
        simp only [List.length_cons, List.length_nil] at this
        rw [show σ.length + (l.length + 1) = σ.length + (0 + 1) + l.length by omega]
        exact this
  have h := key ns []
  refine ⟨?_, by have := h.1; simp only [List.length_nil, Nat.zero_add] at this; exact this⟩
  have h2 := h.2 List.nodup_nil
  simp only [List.length_nil, Nat.zero_add, List.nil_append] at h2
  exact h2
theorem fitB_iff (c : Cut) (ns : List Int) : fitB c ns = true ↔ Fit c ns := by
  unfold fitB Fit
  rw [List.all_eq_true]
  refine ⟨fun h k hk => ?_, fun h k hk => ?_⟩
  · have := of_decide_eq_true (h k (List.mem_range.mpr hk))
    refine (ded_iff _).1.mp ?_
    rw [List.length_map]
    omega
  · have := (ded_iff _).1.mpr (h k (List.mem_range.mp hk))
    rw [List.length_map] at this
    exact decide_eq_true (by omega)
theorem s_fit {b : Book} {c : Cut} {ns : List Int} (h : okCut b c) (hl : ns.length = c.lines.length) : i__law_fit.sem [(.fz, encC c), (.fz, encT ns)] = .ret (.fz, .bool (fitB c ns)) [] := by
  have hn := h.n1
  refine wpc_ret (e__law_fit ?_)
  unfold b__law_fit
  repeat' array_get_dec
  · refine lp_rng c.lines.length (fun k s => (∃ x2 x3, s = [some (.fz, encC c), some (.fz, encT ns), x2, x3, none]) ∧ ∀ at', at' < k → ((rowP c at').map fun one => ns.getD one 0).Nodup) ?_ (fun k s hk hi => ?_) ?_
    · exact ⟨⟨none, none, rfl⟩, fun _ z => absurd z (Nat.not_lt_zero _)⟩
    · obtain ⟨⟨x2, x3, rfl⟩, hi⟩ := hi
      repeat' array_get_dec
      · refine cp_map (standsL c k) nI (fun one => .int (ns.getD one 0)) (fun one ho => ?_) ?_
        · have := stands_lt ho
          repeat' array_get_dec
          refine wo_ixTn 0 ?_ (by omega) (by omega)
          repeat' array_get_dec
          exact ⟨rfl, rfl⟩
        · have e1 : ((standsL c k).map fun one => PyData.int (ns.getD one 0)) = ((standsL c k).map fun one => ns.getD one 0).map PyData.int := by rw [List.map_map]; rfl
          have hrl := row_len c k
          have hsl := stands_len c k
          have hd := ded_iff ((standsL c k).map fun one => ns.getD one 0)
          have hp : ((standsL c k).map fun one => ns.getD one 0).Nodup ↔ ((rowP c k).map fun one => ns.getD one 0).Nodup := ((stands_perm c k).map _).nodup_iff
          rw [List.length_map] at hd
          repeat' array_get_dec
          rw [e1]
          refine wo_lenSetE _ rfl (by rw [List.length_map]; omega) ?_
          repeat' array_get_dec
          rw [List.length_map]
          refine ft_d (fun z => ?_) (fun z => ?_)
          · repeat' array_get_dec
            refine ⟨?_, rfl⟩
            have : ¬ Fit c ns := fun hf => by
              have := hd.1.mpr (hp.mpr (hf k hk))
              omega
            rw [Bool.eq_false_iff.mpr (fun z => this ((fitB_iff c ns).mp z))]
          · repeat' array_get_dec
            refine ⟨⟨_, _, rfl⟩, fun at' ha => ?_⟩
            · rcases Nat.lt_or_ge at' k with h1 | h1
              · exact hi at' h1
              · obtain rfl : at' = k := by omega
                exact hp.mp (hd.1.mp (by omega))
      · exact h
      · omega
    · rintro s ⟨⟨x2, x3, rfl⟩, hi⟩
      repeat' array_get_dec
      refine ⟨?_, rfl⟩
      rw [(fitB_iff c ns).mpr hi]
  · exact le_line (by omega)
end W74

set_option Elab.async false
set_option linter.all false
set_option maxRecDepth 100000
set_option maxHeartbeats 4000000
namespace W74
open PySem DV
theorem holdB_iff (c : Cut) (k : Int) (ns : List Int) (z : Int) : holdB c k ns (.int z) = true ↔ 0 ≤ k ∧ ns.length = c.lines.length ∧ (∀ x ∈ ns, 0 ≤ x ∧ x < k) ∧ Fit c ns ∧ 0 ≤ z ∧ z < (c.lines.length : Nat) ∧ (((rowP c z.toNat).length : Nat) : Int) = k := by
  unfold holdB
  rw [Bool.and_eq_true, Bool.and_eq_true, Bool.and_eq_true, Bool.and_eq_true, fitB_iff, List.all_eq_true, decide_eq_true_eq, decide_eq_true_eq]
  show _ ∧ _ ∧ _ ∧ _ ∧ (decide (0 ≤ z) && decide (z < (c.lines.length : Nat)) && decide ((((rowP c z.toNat).length : Nat) : Int) = k)) = true ↔ _
  rw [Bool.and_eq_true, Bool.and_eq_true, decide_eq_true_eq, decide_eq_true_eq, decide_eq_true_eq]
  simp only [isBel_int, Bool.and_eq_true, decide_eq_true_eq, and_assoc]
theorem holdB_none (c : Cut) (k : Int) (ns : List Int) : holdB c k ns .none = false := by
  unfold holdB momB
  simp
section
variable {Q : MD → En → Prop} {X : Xn → En → Prop} {s : En} {m m1 m2 m3 m4 : Md}
theorem p_fit {b : Book} {c : Cut} {ns : List Int} (h : Q (.fz, .bool (fitB c ns)) s) (hc : okCut b c) (hl : ns.length = c.lines.length) : Cl i__law_fit [(m1, encC c), (m2, encT ns)] [] s Q X := wp_ret rfl rfl (s_fit hc hl) rfl h
end
local macro_rules
  | `(tactic| array_get_dec) => `(tactic| ((with_reducible apply g_call); first
    | ((with_reducible apply p_fit))
    | ((with_reducible apply p_stands))))
theorem s_due {b : Book} {c : Cut} {k : Int} {ns : List Int} {mo : D} (h : okCut b c) (h0 : 0 < c.lines.length) (hns : ns.length ≤ 100000) (hmo : (∃ z, mo = .int z) ∨ mo = .none) : i__law_due.sem [(.fz, encC c), (.fz, .tuple [.int k, encT ns, mo])] = .ret (.fz, .bool (holdB c k ns mo)) [] := by
  have hn := h.n1
  have hneg : ∀ i : Int, i < 0 → .int i ∈ (.int k :: (ns.map PyData.int ++ [mo])) → holdB c k ns mo = false := by
    intro i hi hm
    rcases hmo with ⟨z, rfl⟩ | rfl
    · refine Bool.eq_false_iff.mpr fun w => ?_
      obtain ⟨w1, _, w3, _, w5, _⟩ := (holdB_iff c k ns z).mp w
      rcases List.mem_cons.mp hm with e | hm
      · cases e; omega
      rcases List.mem_append.mp hm with hm | hm
      · obtain ⟨x, hx, e⟩ := List.mem_map.mp hm
        cases e
        have := w3 _ hx
        omega
      · rw [List.mem_singleton] at hm
        cases hm; omega
    · exact holdB_none c k ns
  refine wpc_ret (e__law_due ?_)
  unfold b__law_due
  repeat' array_get_dec
  refine wo_catL ?_ ?_
  · repeat' array_get_dec
    refine ft_d (fun _ => ?_) (fun z => absurd z (by omega))
    repeat' array_get_dec
    refine wo_catL ?_ ?_
    · repeat' array_get_dec
      rw [show ([PyData.int k] ++ ns.map PyData.int ++ [mo]) = (.int k :: (ns.map PyData.int ++ [mo])).map (fun d => d) from by rw [List.map_id']; rfl]
      refine lp_inv (.int k :: (ns.map PyData.int ++ [mo])) (fun d => d) (fun pre s => (∃ x2, s = [some (.fz, encC c), some (.fz, .tuple [.int k, encT ns, mo]), x2, some (.fz, .int k), some (.fz, encT ns), some (.fz, mo), none]) ∧ ∀ d ∈ pre, ∃ i, d = .int i ∧ 0 ≤ i) ⟨⟨none, rfl⟩, fun d hd => absurd hd List.not_mem_nil⟩ (fun pre d post s hx hi => ?_) ?_
      · obtain ⟨⟨x2, rfl⟩, hi⟩ := hi
        have hd : (∃ i, d = .int i) ∨ d = .none := by
          have hm : d ∈ (.int k :: (ns.map PyData.int ++ [mo])) := by rw [hx]; simp
          rcases List.mem_cons.mp hm with e | hm
          · exact .inl ⟨_, e⟩
          rcases List.mem_append.mp hm with hm | hm
          · obtain ⟨x, _, e⟩ := List.mem_map.mp hm
            exact .inl ⟨_, e.symm⟩
          · rw [List.mem_singleton] at hm
            subst hm
            exact hmo
        rcases hd with ⟨i, rfl⟩ | rfl
        · repeat' array_get_dec

          refine ft_d (fun z => ?_) (fun z => ?_)
          · repeat' array_get_dec
            refine ⟨?_, rfl⟩
            rw [hneg i z (by rw [hx]; simp)]
          · repeat' array_get_dec
            refine ⟨⟨_, rfl⟩, fun d hd => ?_⟩
            rcases List.mem_append.mp hd with hd | hd
            · exact hi d hd
            · rw [List.mem_singleton] at hd
              exact ⟨i, hd, by omega⟩
        · repeat' array_get_dec
          refine ⟨?_, rfl⟩
          have : mo = .none := by
            have hm : PyData.none ∈ (.int k :: (ns.map PyData.int ++ [mo])) := by rw [hx]; simp
            rcases List.mem_cons.mp hm with e | hm
            · cases e
            rcases List.mem_append.mp hm with hm | hm
            · obtain ⟨x, _, e⟩ := List.mem_map.mp hm
              cases e
            · rw [List.mem_singleton] at hm
              exact hm.symm
          rw [this, holdB_none]
      · rintro s ⟨⟨x2, rfl⟩, hi⟩
        obtain ⟨z, rfl⟩ : ∃ z, mo = .int z := by
          obtain ⟨z, e, _⟩ := hi mo (by simp)
          exact ⟨z, e⟩
        have hz : 0 ≤ z := by
          obtain ⟨z', e, h⟩ := hi (.int z) (by simp)
          cases e; exact h
        have hk : 0 ≤ k := by
          obtain ⟨z', e, h⟩ := hi (.int k) (by simp)
          cases e; exact h
        have hns0 : ∀ x ∈ ns, 0 ≤ x := fun x hx => by
          obtain ⟨z', e, h⟩ := hi (.int x) (by simp [hx])
          cases e; exact h
        have hno : ∀ P : Prop, ((holdB c k ns (.int z) = true) → False) → (Md.fz, PyData.bool false) = ((Md.fz, PyData.bool (holdB c k ns (.int z))) : MD) := fun _ w => by rw [Bool.eq_false_iff.mpr w]
        repeat' array_get_dec
        refine ft_d (fun hl => ?_) (fun hl => ?_)
        · repeat' array_get_dec
          refine ⟨hno True fun w => ?_, rfl⟩
          have := ((holdB_iff c k ns z).mp w).2.1
          omega
        repeat' array_get_dec
        refine cp_filter ns PyData.int (fun x => decide (k ≤ x)) PyData.int (fun x hx => ?_) ?_
        · repeat' array_get_dec
          refine ⟨rfl, fun _ => ?_, fun _ => rfl⟩
          repeat' array_get_dec
          exact ⟨rfl, rfl⟩
        repeat' array_get_dec
        refine wo_nes (sh_lst (n := 0) (sh_map fun x _ => sh_int x) |>.up (by decide)) (sh_lst (n := 0) (fun x hx => absurd hx List.not_mem_nil) |>.up (by decide)) ?_
        repeat' array_get_dec
        rw [eqv_nilL]
        refine ft (fun he => ?_) (fun he => ?_)
        · have hlt : ∀ x ∈ ns, x < k := fun x hx => by
            rw [List.isEmpty_iff, List.map_eq_nil_iff, List.filter_eq_nil_iff] at he
            have := he x hx
            rw [decide_eq_true_eq] at this
            omega
          repeat' array_get_dec
          · refine ft (fun hf => ?_) (fun hf => ?_)
            · repeat' array_get_dec
              refine ft_d (fun z => absurd z (by omega)) (fun _ => ?_)
              repeat' array_get_dec
              refine ft_d (fun hzn => ?_) (fun hzn => ?_)
              · obtain ⟨zn, rfl⟩ : ∃ zn : Nat, z = zn := ⟨z.toNat, by omega⟩
                repeat' array_get_dec
                · refine ⟨?_, rfl⟩
                  have e1 : holdB c k ns (.int zn) = decide (((standsL c zn).length : Int) = k) := by
                    rw [Bool.eq_iff_iff, holdB_iff, decide_eq_true_eq, stands_len, Int.toNat_natCast]
                    exact ⟨fun w => w.2.2.2.2.2.2, fun w => ⟨hk, by omega, fun x hx => ⟨hns0 x hx, hlt x hx⟩, (fitB_iff c ns).mp hf, hz, hzn, w⟩⟩
                  rw [e1]
                · exact h
                · omega
              · repeat' array_get_dec
                refine ⟨hno True fun w => ?_, rfl⟩
                have := ((holdB_iff c k ns z).mp w).2.2.2.2.2.1
                omega
            · repeat' array_get_dec
              refine ⟨hno True fun w => ?_, rfl⟩
              have := ((holdB_iff c k ns z).mp w).2.2.2.1
              rw [(fitB_iff c ns).mpr this] at hf
              cases hf
          · exact h
          · omega
        · repeat' array_get_dec
          refine ⟨hno True fun w => ?_, rfl⟩
          have w3 := ((holdB_iff c k ns z).mp w).2.2.1
          rw [List.isEmpty_eq_false_iff_exists_mem] at he
          obtain ⟨d, hd⟩ := he
          obtain ⟨x, hx, _⟩ := List.mem_map.mp hd
          obtain ⟨hx1, hx2⟩ := List.mem_filter.mp hx
          have := w3 x hx1
          have := of_decide_eq_true hx2
          omega
    · rw [List.length_append, List.length_map]
      exact Nat.le_trans (Nat.add_le_add_right (Nat.add_le_add_left hns _) _) (show 1 + 100000 + 1 ≤ lineN by decide)
  · rw [List.length_map]
    exact Nat.le_trans (Nat.add_le_add_left hns _) (show 1 + 100000 ≤ lineN by decide)
theorem s_due_bad {b : Book} {c : Cut} {d : D} (h : okCut b c) (h0 : 0 < c.lines.length) (hd : tyD d .tuple = false ∨ (∃ ds : List D, d = .tuple ds ∧ ds.length ≠ 3) ∨ (∃ (k : Int) (e f : D), d = .tuple [.int k, e, f] ∧ tyD e .tuple = false)) : i__law_due.sem [(.fz, encC c), (.fz, d)] = .ret (.fz, .bool false) [] := by
  refine wpc_ret (e__law_due ?_)
  unfold b__law_due
  repeat' array_get_dec
  rcases hd with hd | ⟨ds, rfl, hl⟩ | ⟨k, e, f, rfl, hd⟩
  · refine ft_is_f (by show ([Ty.tuple].any (tyD d)) = false; rw [List.any_cons, hd]; rfl) ?_
    repeat' array_get_dec
    exact ⟨rfl, rfl⟩
  · repeat' array_get_dec
    refine ft_d (fun _ => ?_) (fun z => absurd z (by omega))
    repeat' array_get_dec
    exact ⟨rfl, rfl⟩
  · repeat' array_get_dec
    refine ft_is_f (by show ([Ty.tuple].any (tyD _)) = false; rw [List.any_cons, hd]; rfl) ?_
    repeat' array_get_dec
    exact ⟨rfl, rfl⟩
theorem s_due_true {b : Book} {c : Cut} {ns : List Int} {mo : D} {t : Bool} (h : okCut b c) (h0 : 0 < c.lines.length) (hns : ns.length ≤ 100000) : i__law_due.sem [(.fz, encC c), (.fz, .tuple [.bool t, encT ns, mo])] = .ret (.fz, .bool false) [] := by
  refine wpc_ret (e__law_due ?_)
  unfold b__law_due
  repeat' array_get_dec
  refine wo_catL ?_ ?_
  · repeat' array_get_dec
    refine ft_d (fun _ => ?_) (fun z => absurd z (by omega))
    repeat' array_get_dec
    refine wo_catL ?_ ?_
    · repeat' array_get_dec
      rw [show ([PyData.bool t] ++ ns.map PyData.int ++ [mo]) = (.bool t :: (ns.map PyData.int ++ [mo])).map (fun d => d) from by rw [List.map_id']; rfl]
      refine lp_inv (.bool t :: (ns.map PyData.int ++ [mo])) (fun d => d) (fun pre s => pre = [] ∧ s = [some (.fz, encC c), some (.fz, .tuple [.bool t, encT ns, mo]), none, some (.fz, .bool t), some (.fz, encT ns), some (.fz, mo), none]) ⟨rfl, rfl⟩ (fun pre d post s hx hi => ?_) (fun s hi => nomatch hi.1)
      obtain ⟨rfl, rfl⟩ := hi
      obtain rfl := (List.cons.inj hx).1
      repeat' array_get_dec
      exact ⟨rfl, rfl⟩
    · rw [List.length_append, List.length_map]
      exact Nat.le_trans (Nat.add_le_add_right (Nat.add_le_add_left hns _) _) (show 1 + 100000 + 1 ≤ lineN by decide)
  · rw [List.length_map]
    exact Nat.le_trans (Nat.add_le_add_left hns _) (show 1 + 100000 ≤ lineN by decide)
end W74

set_option Elab.async false
set_option linter.all false
set_option maxRecDepth 100000
set_option maxHeartbeats 4000000
namespace W74
open PySem DV
theorem s_any {δ : D} (hδ : IsDeal δ) {n : Int} (h0 : 0 < n) (h1 : n < 1073741824) : WpC (fun v os => ∃ i δ', v = (.fz, .int i) ∧ 0 ≤ i ∧ i < n ∧ os = [(.o2, δ')] ∧ IsDeal δ') (fun _ _ => False) (i__law_any.sem [(.o2, δ), (.fz, .int n)]) := by
  refine e__law_any ?_
  unfold b__law_any
  obtain ⟨ns, b, rfl, hl⟩ := hδ
  repeat' array_get_dec
  refine wl_inv (fun k s => ∃ ns : List Int, s = [some (.o2, .list [.list (ns.map PyData.int), .int b]), some (.fz, .int n), none] ∧ ns.length = k ∧ k ≤ 900) ns.length (by omega) ⟨ns, rfl, rfl, hl⟩ (fun k s hi => ?_)
  obtain ⟨ns, rfl, hk, hk9⟩ := hi
  repeat' array_get_dec
  refine deal0 ?_
  repeat' array_get_dec
  refine wo_neNilI ?_
  repeat' array_get_dec
  refine ft_d (fun hne => ?_) (fun hne => ?_)
  · obtain ⟨ms, x, rfl⟩ := split_last hne
    repeat' array_get_dec
    refine deal0 ?_
    repeat' array_get_dec
    refine wo_lastI rfl ?_
    repeat' array_get_dec
    refine ft_d (fun hx => ?_) (fun hx => ?_)
    · refine w_cons (w_exp (w_pop2 rfl rfl ?_))
      repeat' array_get_dec
      refine ⟨_, _, 0, _, _, _, rfl, rfl, rfl, rfl, lastPop_map ms x, ?_⟩
      repeat' array_get_dec
      refine ⟨ms.length, ?_, ms, rfl, rfl, ?_⟩
      · rw [← hk, List.length_append]; exact Nat.lt_succ_self _
      · rw [List.length_append] at hk; omega
    · repeat' array_get_dec
      refine deal0 ?_
      repeat' array_get_dec
      refine wo_neNilI ?_
      repeat' array_get_dec
      refine ft_d (fun hne => ?_) (fun hne => absurd (by simp) hne)
      repeat' array_get_dec
      refine w_pop2 rfl rfl ?_
      repeat' array_get_dec
      refine ⟨_, _, 0, _, _, _, rfl, rfl, rfl, rfl, lastPop_map ms x, ?_⟩
      repeat' array_get_dec
      refine w_app2 rfl ?_
      repeat' array_get_dec
      refine ⟨_, _, 0, _, rfl, rfl, rfl, rfl, ?_⟩
      repeat' array_get_dec
      refine wo_fdiv ?_ ⟨h0, h1⟩
      refine ⟨rfl, rfl, ?_, ?_⟩
      · rw [List.length_map]
        rw [List.length_append] at hk
        exact Nat.lt_of_le_of_lt (show ms.length ≤ 900 by omega) (by decide)
      · repeat' array_get_dec
        refine wo_mod ?_ h0
        repeat' array_get_dec
        refine ⟨_, _, rfl, Int.emod_nonneg _ (by omega), Int.emod_lt_of_pos _ h0, rfl, ms ++ [x / n], b, ?_, ?_⟩
        · rw [List.map_append]; rfl
        · rw [List.length_append] at hk ⊢
          simp only [List.length_cons, List.length_nil] at hk ⊢
          omega
  · obtain rfl : ns = [] := Classical.not_not.mp hne
    repeat' array_get_dec
    refine deal0 ?_
    repeat' array_get_dec
    refine wo_neNilI (ns := []) ?_
    repeat' array_get_dec
    refine w_set2 rfl ?_
    repeat' array_get_dec
    refine deal1 ?_
    repeat' array_get_dec
    refine wo_mul ?_ (.inr (by decide))
    repeat' array_get_dec
    refine wo_mod ?_ (by decide)
    repeat' array_get_dec
    refine ⟨_, _, 1, rfl, rfl, rfl, rfl, ?_⟩
    repeat' array_get_dec
    refine deal1 ?_
    repeat' array_get_dec
    refine wo_fdiv ?_ (by decide)
    repeat' array_get_dec
    refine wo_mod ?_ h0
    repeat' array_get_dec
    exact ⟨_, _, rfl, Int.emod_nonneg _ (by omega), Int.emod_lt_of_pos _ h0, rfl, [], _, rfl, by simp⟩
section
variable {Q : MD → En → Prop} {X : Xn → En → Prop} {s : En} {m : Md} {δ : D} {n : Int} {j : Nat}
theorem p_any (hs : s[j]? = some (some (.o2, δ))) (hδ : IsDeal δ) (h : ∀ i δ', 0 ≤ i → i < n → IsDeal δ' → Q (.fz, .int i) (s.set j (some (.o2, δ')))) (h0 : 0 < n) (h1 : n < 1073741824) : Cl i__law_any [(m, .int n)] [j] s Q X :=
  wp_call1 rfl rfl hs (by decide) ((s_any hδ h0 h1).imp (fun v os ⟨i, δ', e1, e2, e3, e4, e5⟩ => ⟨_, e4, by rw [e1]; rfl, rfl, by rw [e1]; exact h i δ' e2 e3 e5⟩) (fun _ _ z => z.elim))
end
end W74

set_option Elab.async false
set_option linter.all false
set_option maxRecDepth 100000
set_option maxHeartbeats 4000000
namespace W74
open PySem DV
/-- all rows of so many values -/
structure RowsOk (size many : Nat) (rows : List (List Int)) : Prop where
  len : rows.length = size ^ many
  row : ∀ r ∈ rows, r.length = many ∧ ∀ x ∈ r, 0 ≤ x ∧ x < size
theorem pow_le {size many : Nat} (hs : size ≤ 8) (hm : many ≤ 6) : size ^ many ≤ 262144 :=
  Nat.le_trans (Nat.pow_le_pow_left hs _) (Nat.le_trans (Nat.pow_le_pow_right (by decide) hm) (by decide))
theorem s_rows {size many : Nat} (hs : size ≤ 8) (hm : many ≤ 6) : WpC (fun v os => ∃ m rows, v = (m, .list (rows.map encT)) ∧ (m = .o1 ∨ m = .fz) ∧ os = [] ∧ RowsOk size many rows) (fun _ _ => False) (i__law_rows.sem [(.fz, nI size), (.fz, nI many)]) := by
  refine e__law_rows ?_
  unfold b__law_rows
  repeat' array_get_dec
  · refine lp_rng many (fun k s => ∃ (m : Md) (rows : List (List Int)) (x3 x4 x5 : Option MD), s = [some (.fz, nI size), some (.fz, nI many), some (m, .list (rows.map encT)), x3, x4, x5, none] ∧ (m = .o1 ∨ m = .fz) ∧ RowsOk size k rows) ?_ (fun k s hk hi => ?_) ?_
    · exact ⟨.o1, [[]], none, none, none, rfl, .inl rfl, by simp, fun r hr => by rw [List.mem_singleton] at hr; subst hr; exact ⟨rfl, fun x hx => absurd hx List.not_mem_nil⟩⟩
    · obtain ⟨m, rows, x3, x4, x5, rfl, hm', hr⟩ := hi
      have hfr : ∀ {Q : MD → En → Prop} {X : Xn → En → Prop} {x3 x4 x5 : Option MD}, Q (.fz, .list (rows.map encT)) [some (.fz, nI size), some (.fz, nI many), some (.fz, .list (rows.map encT)), x3, x4, x5, none] → Wp Q X (ev G__law_rows (.frz 2) [some (.fz, nI size), some (.fz, nI many), some (m, .list (rows.map encT)), x3, x4, x5, none]) := by
        intro Q X x3 x4 x5 q
        rcases hm' with rfl | rfl
        · exact w_frz1 rfl q
        · exact w_frz rfl q
      repeat' array_get_dec
      refine hfr ?_
      repeat' array_get_dec
      refine lp_inv rows encT (fun pre s => ∃ (out : List (List Int)) (x5 : Option MD), s = [some (.fz, nI size), some (.fz, nI many), some (.fz, .list (rows.map encT)), some (.fz, nI k), some (.o1, .list (out.map encT)), x5, none] ∧ out.length = pre.length * size ∧ ∀ r ∈ out, r.length = k + 1 ∧ ∀ x ∈ r, 0 ≤ x ∧ x < size) ?_ (fun pre row post s hx hi => ?_) ?_
      · exact ⟨[], _, rfl, by simp, fun r hr => absurd hr List.not_mem_nil⟩
      · obtain ⟨out, x5, rfl, ho1, ho2⟩ := hi
        have hrow := hr.row row (by rw [hx]; simp)
        have hpl : pre.length < size ^ k := by
          have := congrArg List.length hx
          rw [hr.len, List.length_append, List.length_cons] at this
          omega
        have hb1 := pow_le (size := size) (many := k) hs (by omega)
        have hb2 : pre.length * size ≤ 262144 * 8 := Nat.mul_le_mul (by omega) hs
        repeat' array_get_dec
        · refine cp_mapR size (fun v => encT (row ++ [(v : Int)])) (fun v hv => ?_) ?_
          · repeat' array_get_dec
            refine wo_catT ?_ ?_
            · repeat' array_get_dec
              refine ⟨?_, rfl⟩
              show PyData.tuple _ = PyData.tuple ((row ++ [(v : Int)]).map PyData.int)
              rw [List.map_append]; rfl
            · rw [List.length_map, hrow.1]
              exact Nat.le_trans (Nat.add_le_add_right (show k ≤ 6 by omega) _) (show 6 + 1 ≤ lineN by decide)
          · repeat' array_get_dec
            refine wo_catL ?_ ?_
            · repeat' array_get_dec
              refine ⟨out ++ (List.range size).map (fun v => row ++ [((v : Nat) : Int)]), _, by rw [List.map_append, List.map_map]; rfl, ?_, fun r hr => ?_⟩
              · rw [List.length_append, List.length_append, List.length_map, List.length_range, ho1, Nat.add_mul]
                simp
              · rcases List.mem_append.mp hr with hr | hr
                · exact ho2 r hr
                · obtain ⟨v, hv, rfl⟩ := List.mem_map.mp hr
                  have hv := List.mem_range.mp hv
                  refine ⟨by rw [List.length_append, hrow.1]; rfl, fun x hx => ?_⟩
                  rcases List.mem_append.mp hx with hx | hx
                  · exact hrow.2 x hx
                  · rw [List.mem_singleton] at hx
                    omega
            · rw [List.length_map, List.length_map, List.length_range, ho1]
              have : lineN = 16777216 := rfl
              omega
        · exact le_line (by omega)
      · rintro s ⟨out, x5, rfl, ho1, ho2⟩
        repeat' array_get_dec
        refine ⟨.fz, out, _, _, _, rfl, .inr rfl, by rw [ho1, hr.len, Nat.pow_succ], ho2⟩
    · rintro s ⟨m, rows, x3, x4, x5, rfl, hm', hr⟩
      repeat' array_get_dec
      rcases hm' with rfl | rfl
      · repeat' array_get_dec
        exact ⟨_, rows, rfl, .inl rfl, rfl, hr⟩
      · repeat' array_get_dec
        exact ⟨_, rows, rfl, .inr rfl, rfl, hr⟩
  · exact le_line (by omega)
theorem s_ways {size many : Nat} (hs : size ≤ 8) (hm : many ≤ 6) : WpC (fun v os => ∃ m rows, v = (m, .list (rows.map encT)) ∧ (m = .o1 ∨ m = .fz) ∧ os = [] ∧ RowsOk size many rows) (fun _ _ => False) (i__law_ways.sem [(.fz, nI many), (.fz, nI size)]) := by
  refine e__law_ways ?_
  unfold b__law_ways
  repeat' array_get_dec
  · refine lp_rng many (fun k s => ∃ (m : Md) (rows : List (List Int)) (x3 x4 x5 : Option MD), s = [some (.fz, nI many), some (.fz, nI size), some (m, .list (rows.map encT)), x3, x4, x5, none] ∧ (m = .o1 ∨ m = .fz) ∧ RowsOk size k rows) ?_ (fun k s hk hi => ?_) ?_
    · exact ⟨.o1, [[]], none, none, none, rfl, .inl rfl, by simp, fun r hr => by rw [List.mem_singleton] at hr; subst hr; exact ⟨rfl, fun x hx => absurd hx List.not_mem_nil⟩⟩
    · obtain ⟨m, rows, x3, x4, x5, rfl, hm', hr⟩ := hi
      have hfr : ∀ {Q : MD → En → Prop} {X : Xn → En → Prop} {x3 x4 x5 : Option MD}, Q (.fz, .list (rows.map encT)) [some (.fz, nI many), some (.fz, nI size), some (.fz, .list (rows.map encT)), x3, x4, x5, none] → Wp Q X (ev G__law_ways (.frz 2) [some (.fz, nI many), some (.fz, nI size), some (m, .list (rows.map encT)), x3, x4, x5, none]) := by
        intro Q X x3 x4 x5 q
        rcases hm' with rfl | rfl
        · exact w_frz1 rfl q
        · exact w_frz rfl q
      repeat' array_get_dec
      refine hfr ?_
      repeat' array_get_dec
      refine lp_inv rows encT (fun pre s => ∃ (out : List (List Int)) (x5 : Option MD), s = [some (.fz, nI many), some (.fz, nI size), some (.fz, .list (rows.map encT)), some (.fz, nI k), some (.o1, .list (out.map encT)), x5, none] ∧ out.length = pre.length * size ∧ ∀ r ∈ out, r.length = k + 1 ∧ ∀ x ∈ r, 0 ≤ x ∧ x < size) ?_ (fun pre row post s hx hi => ?_) ?_
      · exact ⟨[], _, rfl, by simp, fun r hr => absurd hr List.not_mem_nil⟩
      · obtain ⟨out, x5, rfl, ho1, ho2⟩ := hi
        have hrow := hr.row row (by rw [hx]; simp)
        have hpl : pre.length < size ^ k := by
          have := congrArg List.length hx
          rw [hr.len, List.length_append, List.length_cons] at this
          omega
        have hb1 := pow_le (size := size) (many := k) hs (by omega)
        have hb2 : pre.length * size ≤ 262144 * 8 := Nat.mul_le_mul (by omega) hs
        repeat' array_get_dec
        · refine cp_mapR size (fun v => encT (row ++ [(v : Int)])) (fun v hv => ?_) ?_
          · repeat' array_get_dec
            refine wo_catT ?_ ?_
            · repeat' array_get_dec
              refine ⟨?_, rfl⟩
              show PyData.tuple _ = PyData.tuple ((row ++ [(v : Int)]).map PyData.int)
              rw [List.map_append]; rfl
            · rw [List.length_map, hrow.1]
              exact Nat.le_trans (Nat.add_le_add_right (show k ≤ 6 by omega) _) (show 6 + 1 ≤ lineN by decide)
          · repeat' array_get_dec
            refine wo_catL ?_ ?_
            · repeat' array_get_dec
              refine ⟨out ++ (List.range size).map (fun v => row ++ [((v : Nat) : Int)]), _, by rw [List.map_append, List.map_map]; rfl, ?_, fun r hr => ?_⟩
              · rw [List.length_append, List.length_append, List.length_map, List.length_range, ho1, Nat.add_mul]
                simp
              · rcases List.mem_append.mp hr with hr | hr
                · exact ho2 r hr
                · obtain ⟨v, hv, rfl⟩ := List.mem_map.mp hr
                  have hv := List.mem_range.mp hv
                  refine ⟨by rw [List.length_append, hrow.1]; rfl, fun x hx => ?_⟩
                  rcases List.mem_append.mp hx with hx | hx
                  · exact hrow.2 x hx
                  · rw [List.mem_singleton] at hx
                    omega
            · rw [List.length_map, List.length_map, List.length_range, ho1]
              have : lineN = 16777216 := rfl
              omega
        · exact le_line (by omega)
      · rintro s ⟨out, x5, rfl, ho1, ho2⟩
        repeat' array_get_dec
        refine ⟨.fz, out, _, _, _, rfl, .inr rfl, by rw [ho1, hr.len, Nat.pow_succ], ho2⟩
    · rintro s ⟨m, rows, x3, x4, x5, rfl, hm', hr⟩
      repeat' array_get_dec
      rcases hm' with rfl | rfl
      · repeat' array_get_dec
        exact ⟨_, rows, rfl, .inl rfl, rfl, hr⟩
      · repeat' array_get_dec
        exact ⟨_, rows, rfl, .inr rfl, rfl, hr⟩
  · exact le_line (by omega)
section
variable {Q : MD → En → Prop} {X : Xn → En → Prop} {s : En} {m m1 m2 : Md} {δ : D} {n : Int} {j : Nat}
theorem p_rows {size many : Nat} (h : ∀ m rows, (m = .o1 ∨ m = .fz) → RowsOk size many rows → Q (m, .list (rows.map encT)) s) (hs : size ≤ 8) (hm : many ≤ 6) : Cl i__law_rows [(m1, nI size), (m2, nI many)] [] s Q X :=
  wp_call0 rfl rfl ((s_rows hs hm).imp (fun v os ⟨m, rows, e1, e2, e3, e4⟩ => ⟨e3, by rw [e1]; rcases e2 with rfl | rfl <;> rfl, by rw [e1]; exact h m rows e2 e4⟩) (fun _ _ z => z.elim))
theorem p_ways {size many : Nat} (h : ∀ m rows, (m = .o1 ∨ m = .fz) → RowsOk size many rows → Q (m, .list (rows.map encT)) s) (hs : size ≤ 8) (hm : many ≤ 6) : Cl i__law_ways [(m1, nI many), (m2, nI size)] [] s Q X :=
  wp_call0 rfl rfl ((s_ways hs hm).imp (fun v os ⟨m, rows, e1, e2, e3, e4⟩ => ⟨e3, by rw [e1]; rcases e2 with rfl | rfl <;> rfl, by rw [e1]; exact h m rows e2 e4⟩) (fun _ _ z => z.elim))
end
end W74
namespace W74
open PySem DV
local macro_rules
  | `(tactic| array_get_dec) => `(tactic| ((with_reducible apply g_call); first
    | ((with_reducible apply p_any); (· rfl); (· assumption))
    | ((with_reducible apply p_rows))))
theorem s_of {δ : D} (hδ : IsDeal δ) {xs : List D} (h0 : 0 < xs.length) (h1 : xs.length < 1000000) : WpC (fun v os => ∃ d δ', v = (.fz, d) ∧ d ∈ xs ∧ os = [(.o2, δ')] ∧ IsDeal δ') (fun _ _ => False) (i__law_of.sem [(.o2, δ), (.fz, .list xs)]) := by
  refine e__law_of ?_
  unfold b__law_of
  repeat' array_get_dec
  · intro i δ' hi1 hi2 hd
    obtain ⟨k, rfl⟩ : ∃ k : Nat, i = k := ⟨i.toNat, by omega⟩
    have hk : k < xs.length := by omega
    refine wo_eq (ixL (i := k) rfl rfl (List.getElem?_eq_getElem hk)) ?_
    repeat' array_get_dec
    exact ⟨_, _, rfl, List.getElem_mem hk, rfl, hd⟩
  · omega
  · omega
theorem minI_mem : ∀ (ns : List Int), ns ≠ [] → minI ns ∈ ns
  | [], h => absurd rfl h
  | [y], _ => List.mem_singleton.mpr rfl
  | y :: z :: r, _ => by
    show (if y ≤ minI (z :: r) then y else minI (z :: r)) ∈ _
    split
    · exact List.mem_cons_self
    · exact List.mem_cons_of_mem _ (minI_mem (z :: r) (fun h => nomatch h))
def opI (size p kind : Int) (n : Nat) (s : En) : Prop := ∃ (δ : D) (ans : List Int) (x3 : Option MD), s = [some (.o2, δ), some (.fz, .int size), some (.o1, .list (ans.map PyData.int)), x3, some (.fz, .int p), some (.fz, .int kind)] ∧ IsDeal δ ∧ ans.length = n ∧ ∀ x ∈ ans, 0 ≤ x ∧ x < size
theorem opI.next {size p kind : Int} {δ : D} {ans : List Int} {x3 : Option MD} {x : Int} (hd : IsDeal δ) (ha : ∀ x ∈ ans, 0 ≤ x ∧ x < size) (hx : 0 ≤ x ∧ x < size) : opI size p kind (ans.length + 1) [some (.o2, δ), some (.fz, .int size), some (.o1, .list (ans.map PyData.int ++ [PyData.int x])), x3, some (.fz, .int p), some (.fz, .int kind)] :=
  ⟨δ, ans ++ [x], x3, by rw [List.map_append]; rfl, hd, by rw [List.length_append]; rfl, fun y hy => by
    rcases List.mem_append.mp hy with hy | hy
    · exact ha y hy
    · rw [List.mem_singleton] at hy
      rw [hy]; exact hx⟩
theorem s_operation {δ : D} (hδ : IsDeal δ) {size : Nat} (h2 : 2 ≤ size) (h3 : size ≤ 8) : WpC (fun v os => ∃ o δ', v = (.fz, encOp o) ∧ okOp size o ∧ os = [(.o2, δ')] ∧ IsDeal δ') (fun _ _ => False) (i__law_operation.sem [(.o2, δ), (.fz, nI size)]) := by
  refine e__law_operation ?_
  unfold b__law_operation
  repeat' array_get_dec
  rotate_left 1
  · decide
  · decide
  intro i δ1 hi1 hi2 hd1
  repeat' array_get_dec
  rotate_left 1
  · decide
  · decide
  intro kind δ2 hk1 hk2 hd2
  obtain ⟨p, hp⟩ : ∃ p : Nat, 1 + i = p := ⟨(1 + i).toNat, by omega⟩
  rw [hp]
  repeat' array_get_dec
  · intro m rows hm hr
    have hit : Wo (fun p : List D × Bool => p = (rows.map encT, false)) (itemsD .seq [(m, .list (rows.map encT))]) := by
      rcases hm with rfl | rfl
      · exact ⟨_, rfl, rfl⟩
      · exact ⟨_, rfl, rfl⟩
    obtain ⟨pp, hp1, hp2⟩ := hit
    subst hp2
    refine cq (by rcases hm with rfl | rfl <;> rfl) ?_
    repeat' array_get_dec
    refine wo_eq hp1 ?_
    repeat' array_get_dec
    refine lp_inv rows encT (fun pre s => opI size p kind pre.length s) ?_ (fun pre row post s hx hi => ?_) ?_
    · exact ⟨δ2, [], none, rfl, hd2, rfl, fun x hx => absurd hx List.not_mem_nil⟩
    · obtain ⟨δ3, ans, x3, rfl, hd3, ha1, ha2⟩ := hi
      have hrow := hr.row row (by rw [hx]; simp)
      have hpl : pre.length < 64 := by
        have h1 := congrArg List.length hx
        rw [hr.len, List.length_append, List.length_cons] at h1
        have : size ^ p ≤ 64 := Nat.le_trans (Nat.pow_le_pow_left h3 _) (Nat.le_trans (Nat.pow_le_pow_right (by decide) (show p ≤ 2 by omega)) (by decide))
        omega
      have hal : (ans.map PyData.int).length < lineN := by
        rw [List.length_map, ha1]
        exact Nat.lt_trans hpl (by decide)
      have hne : row ≠ [] := fun z => by
        have := hrow.1
        rw [z] at this
        have : (0 : Nat) = p := this
        omega
      have hmax := hrow.2 _ (maxI_mem row hne)
      have hmin := hrow.2 _ (minI_mem row hne)
      have hl0 : 0 < row.length := List.length_pos_iff.mpr hne
      rw [List.length_append, show pre.length + [row].length = ans.length + 1 from by rw [ha1]; rfl]
      repeat' array_get_dec
      refine ft_d (fun _ => ?_) (fun _ => ?_)
      · repeat' array_get_dec
        rotate_left 1
        · omega
        · omega
        intro x δ4 hx1 hx2 hd4
        repeat' array_get_dec
        refine ⟨_, rfl, hal, ?_⟩
        repeat' array_get_dec
        exact opI.next hd4 ha2 ⟨hx1, hx2⟩
      repeat' array_get_dec
      refine ft_d (fun _ => ?_) (fun _ => ?_)
      · repeat' array_get_dec
        refine wo_maxT ?_ hl0
        repeat' array_get_dec
        refine ⟨_, rfl, hal, ?_⟩
        repeat' array_get_dec
        exact opI.next hd3 ha2 hmax
      repeat' array_get_dec
      refine ft_d (fun _ => ?_) (fun _ => ?_)
      · repeat' array_get_dec
        rotate_left 1
        · decide
        · decide
        intro x δ4 hx1 hx2 hd4
        repeat' array_get_dec
        refine ft_d (fun _ => ?_) (fun _ => ?_)
        · obtain ⟨y, r, rfl⟩ : ∃ y r, row = y :: r := by
            cases row with
            | nil => exact absurd rfl hne
            | cons y r => exact ⟨y, r, rfl⟩
          repeat' array_get_dec
          refine wo_eq (ixT0 _ _ _ _) ?_
          repeat' array_get_dec
          refine ⟨_, rfl, hal, ?_⟩
          repeat' array_get_dec
          exact opI.next hd4 ha2 (hrow.2 y List.mem_cons_self)
        · repeat' array_get_dec
          refine wo_minT ?_ hl0
          repeat' array_get_dec
          refine ⟨_, rfl, hal, ?_⟩
          repeat' array_get_dec
          exact opI.next hd4 ha2 hmin
      repeat' array_get_dec
      refine ft_d (fun _ => ?_) (fun _ => ?_)
      · obtain ⟨y, r, rfl⟩ : ∃ y r, row = y :: r := by
          cases row with
          | nil => exact absurd rfl hne
          | cons y r => exact ⟨y, r, rfl⟩
        repeat' array_get_dec
        refine wo_eq (ixT0 _ _ _ _) ?_
        repeat' array_get_dec
        refine wo_mod ?_ (by omega)
        repeat' array_get_dec
        refine ⟨_, rfl, hal, ?_⟩
        repeat' array_get_dec
        exact opI.next hd3 ha2 ⟨Int.emod_nonneg _ (by omega), Int.emod_lt_of_pos _ (by omega)⟩
      · repeat' array_get_dec
        refine wo_minT ?_ hl0
        repeat' array_get_dec
        refine ⟨_, rfl, hal, ?_⟩
        repeat' array_get_dec
        exact opI.next hd3 ha2 hmin
    · rintro s ⟨δ3, ans, x3, rfl, hd3, ha1, ha2⟩
      repeat' array_get_dec
      refine ⟨((p : Int), ans), _, rfl, ⟨by show (0 : Int) < p; omega, by show (p : Int) ≤ 3; omega, ?_, ha2⟩, rfl, hd3⟩
      show (ans.length : Int) = (size : Int) ^ ((p : Int)).toNat
      rw [ha1, hr.len, Int.toNat_natCast]
      exact Int.natCast_pow _ _
  · exact h3
  · omega
end W74

set_option Elab.async false
set_option linter.all false
set_option maxRecDepth 100000
set_option maxHeartbeats 4000000
namespace W74
open PySem DV
section
variable {Q : MD → En → Prop} {X : Xn → En → Prop} {s : En} {m m1 m2 : Md} {δ : D} {n : Int} {j : Nat}
theorem p_operation {size : Nat} (hs : s[j]? = some (some (.o2, δ))) (hδ : IsDeal δ) (h : ∀ o δ', okOp size o → IsDeal δ' → Q (.fz, encOp o) (s.set j (some (.o2, δ')))) (h2 : 2 ≤ size) (h3 : size ≤ 8) : Cl i__law_operation [(m, nI size)] [j] s Q X :=
  wp_call1 rfl rfl hs (by decide) ((s_operation hδ h2 h3).imp (fun v os ⟨o, δ', e1, e2, e3, e4⟩ => ⟨_, e3, by rw [e1]; rfl, rfl, by rw [e1]; exact h o δ' e2 e4⟩) (fun _ _ z => z.elim))
theorem p_of {xs : List D} (hs : s[j]? = some (some (.o2, δ))) (hδ : IsDeal δ) (h : ∀ d δ', d ∈ xs → IsDeal δ' → Q (.fz, d) (s.set j (some (.o2, δ')))) (h0 : 0 < xs.length) (h1 : xs.length < 1000000) : Cl i__law_of [(m, .list xs)] [j] s Q X :=
  wp_call1 rfl rfl hs (by decide) ((s_of hδ h0 h1).imp (fun v os ⟨d, δ', e1, e2, e3, e4⟩ => ⟨_, e3, by rw [e1]; rfl, rfl, by rw [e1]; exact h d δ' e2 e4⟩) (fun _ _ z => z.elim))
end
local macro_rules
  | `(tactic| array_get_dec) => `(tactic| ((with_reducible apply g_call); first
    | ((with_reducible apply p_any); (· rfl); (· assumption))
    | ((with_reducible apply p_operation); (· rfl); (· assumption))
    | ((with_reducible apply p_of); (· rfl); (· assumption))))
theorem s_book {δ : D} (hδ : IsDeal δ) : WpC (fun v os => ∃ b δ', v = (.fz, encB b) ∧ okBook b ∧ 0 < b.2.length ∧ os = [(.o2, δ')] ∧ IsDeal δ') (fun _ _ => False) (i__law_book.sem [(.o2, δ), (.fz, .int 3)]) := by
  refine e__law_book ?_
  unfold b__law_book
  repeat' array_get_dec
  rotate_left 1
  · decide
  · decide
  intro i δ1 hi1 hi2 hd1
  obtain ⟨sz, hsz⟩ : ∃ sz : Nat, 2 + i = sz := ⟨(2 + i).toNat, by omega⟩
  repeat' array_get_dec
  rw [hsz]
  repeat' array_get_dec
  rotate_left 1
  · decide
  · decide
  intro i2 δ2 hj1 hj2 hd2
  obtain ⟨n, hn⟩ : ∃ n : Nat, 1 + i2 = n := ⟨(1 + i2).toNat, by omega⟩
  repeat' array_get_dec
  rw [hn]
  repeat' array_get_dec
  · rw [rangeD0]
    refine cp_inv (List.range n) nI (fun pre acc s => ∃ (δ : D) (ops : List Op) (x3 : Option MD), s = [some (.o2, δ), some (.fz, .int 3), some (.fz, .int sz), x3] ∧ acc = ops.map encOp ∧ IsDeal δ ∧ ops.length = pre.length ∧ ∀ o ∈ ops, okOp sz o) ?_ (fun pre x post acc s hx hi => ?_) (fun acc s hi => ?_)
    · exact ⟨δ2, [], _, rfl, rfl, hd2, rfl, fun o ho => absurd ho List.not_mem_nil⟩
    · obtain ⟨δ3, ops, x3, rfl, rfl, hd3, ho1, ho2⟩ := hi
      repeat' array_get_dec
      rotate_left 1
      · omega
      · omega
      intro o δ4 ho hd4
      repeat' array_get_dec
      refine ⟨δ4, ops ++ [o], _, rfl, by rw [List.map_append]; rfl, hd4, by rw [List.length_append, List.length_append, ho1]; rfl, fun o' ho' => ?_⟩
      rcases List.mem_append.mp ho' with h | h
      · exact ho2 o' h
      · rw [List.mem_singleton] at h
        rw [h]; exact ho
    · obtain ⟨δ3, ops, x3, rfl, rfl, hd3, ho1, ho2⟩ := hi
      rw [List.length_range] at ho1
      repeat' array_get_dec
      refine ⟨((sz : Int), ops), _, rfl, ⟨by show (2 : Int) ≤ sz; omega, by show (sz : Int) ≤ 8; omega, by show ops.length ≤ 8; omega, ho2⟩, by show 0 < ops.length; omega, rfl, hd3⟩
  · exact le_line (by omega)
theorem s_draw {ns : List Int} {salt : Int} : WpC (fun v os => ∃ δ, v = (.o2, δ) ∧ IsDeal δ ∧ os = []) (fun _ _ => False) (i__law_draw.sem [(.fz, .list (ns.map PyData.int)), (.fz, .int salt)]) := by
  refine e__law_draw ?_
  unfold b__law_draw
  repeat' array_get_dec
  rw [show (48 : Int) = ((48 : Nat) : Int) from rfl, cut_to, ← List.map_take]
  refine cp_map (ns.take 48) PyData.int (fun a => .int (if a < 0 then -a else a)) (fun a _ => ?_) ?_
  · repeat' array_get_dec
    refine wo_abs ?_
    repeat' array_get_dec
    exact ⟨rfl, rfl⟩
  have e1 : ((ns.take 48).map fun a => PyData.int (if a < 0 then -a else a)) = ((ns.take 48).map fun a => if a < 0 then -a else a).map PyData.int := by rw [List.map_map]; rfl
  rw [e1]
  have hl : ((ns.take 48).map fun a => if a < 0 then -a else a).length ≤ 48 := by
    rw [List.length_map, List.length_take]; omega
  revert hl
  generalize ((ns.take 48).map fun a => if a < 0 then -a else a) = cells
  intro hl
  repeat' array_get_dec
  refine wo_mul ?_ (.inl (by decide))
  repeat' array_get_dec
  refine lp_inv cells PyData.int (fun _ s => ∃ (b : Int) (x4 : Option MD), s = [some (.fz, .list (ns.map PyData.int)), some (.fz, .int salt), some (.fz, .list (cells.map PyData.int)), some (.fz, .int b), x4] ∧ nh x4) ?_ (fun pre c post s hx hi => ?_) ?_
  · exact ⟨_, none, rfl, nh_none⟩
  · obtain ⟨b, x4, rfl, h4⟩ := hi
    repeat' array_get_dec
    refine wo_mul ?_ (.inr (by decide))
    repeat' array_get_dec
    refine wo_mod ?_ (by decide)
    repeat' array_get_dec
    refine wo_mod ?_ (by decide)
    repeat' array_get_dec
    exact ⟨_, _, rfl, nh_fz⟩
  · rintro s ⟨b, x4, rfl, h4⟩
    repeat' array_get_dec
    refine w_rev ?_
    repeat' array_get_dec
    refine cq (own1 rfl (nh_held h4 rfl)) ?_
    refine cp_filter cells PyData.int (fun x => decide ((10 : Int) ^ (18 : Int).toNat ≤ x)) PyData.int (fun x _ => ?_) ?_
    · repeat' array_get_dec
      refine wo_pow ?_ (by decide)
      repeat' array_get_dec
      refine ⟨rfl, fun _ => ?_, fun _ => rfl⟩
      repeat' array_get_dec
      exact ⟨rfl, rfl⟩
    refine ⟨_, .inr (.inl rfl), ?_⟩
    repeat' array_get_dec
    refine ⟨_, rfl, ⟨(cells.filter fun x => decide ((10 : Int) ^ (18 : Int).toNat ≤ x)).reverse, b, ?_, ?_⟩, rfl⟩
    · rw [List.map_reverse]; rfl
    · rw [List.length_reverse]
      have := List.length_filter_le (fun x => decide ((10 : Int) ^ (18 : Int).toNat ≤ x)) cells
      omega
end W74

set_option Elab.async false
set_option linter.all false
set_option maxRecDepth 100000
set_option maxHeartbeats 4000000
namespace W74
open PySem DV
section
variable {Q : MD → En → Prop} {X : Xn → En → Prop} {s : En} {m m1 m2 : Md} {δ : D} {n : Int} {j : Nat}
theorem p_book (hs : s[j]? = some (some (.o2, δ))) (hδ : IsDeal δ) (h : ∀ b δ', okBook b → 0 < b.2.length → IsDeal δ' → Q (.fz, encB b) (s.set j (some (.o2, δ')))) : Cl i__law_book [(m, .int 3)] [j] s Q X :=
  wp_call1 rfl rfl hs (by decide) ((s_book hδ).imp (fun v os ⟨b, δ', e1, e2, e3, e4, e5⟩ => ⟨_, e4, by rw [e1]; rfl, rfl, by rw [e1]; exact h b δ' e2 e3 e5⟩) (fun _ _ z => z.elim))
theorem p_draw {ns : List Int} {salt : Int} (h : ∀ δ, IsDeal δ → Q (.o2, δ) s) : Cl i__law_draw [(m1, .list (ns.map PyData.int)), (m2, .int salt)] [] s Q X :=
  wp_call0 rfl rfl (s_draw.imp (fun v os ⟨δ, e1, e2, e3⟩ => ⟨e3, by rw [e1]; rfl, by rw [e1]; exact h δ e2⟩) (fun _ _ z => z.elim))
end
theorem okList_of {size : Nat} {ys : List Nat} (hne : ys ≠ []) (hp : ys.Pairwise (· < ·)) (hl : ys.length ≤ 1000) (hs : ∀ y ∈ ys, y < size) : okList size (ys.map fun y => ((y : Nat) : Int)) where
  ne := fun z => hne (List.map_eq_nil_iff.mp z)
  inn := fun x hx => by
    obtain ⟨y, hy, rfl⟩ := List.mem_map.mp hx
    have := hs y hy
    omega
  up := fun i x y hx hy => by
    rw [List.getElem?_map] at hx hy
    obtain ⟨a, ha, rfl⟩ := Option.map_eq_some_iff.mp hx
    obtain ⟨b, hb, rfl⟩ := Option.map_eq_some_iff.mp hy
    obtain ⟨h1, ha⟩ := List.getElem?_eq_some_iff.mp ha
    obtain ⟨h2, hb⟩ := List.getElem?_eq_some_iff.mp hb
    have := List.pairwise_iff_getElem.mp hp i (i + 1) h1 h2 (Nat.lt_succ_self _)
    rw [ha, hb] at this
    omega
  len := by rw [List.length_map]; exact hl
def bookD (b : Book) : D := encB b
local macro_rules
  | `(tactic| array_get_dec) => `(tactic| ((with_reducible apply g_call); first
    | ((with_reducible apply p_any); (· rfl); (· assumption))
    | ((with_reducible apply p_of); (· rfl); (· assumption))))
/-- the lists of inputs, so far -/
def cutI1 (b : Book) (sz : Nat) (k : Nat) (s : En) : Prop := ∃ (δ : D) (ls : List (List Int)) (x4 x10 x15 : Option MD), s = [some (.o2, δ), some (.fz, encB b), some (.fz, .int 7), some (.fz, .bool false), x4, none, none, some (.fz, .int sz), some (.o1, .list (ls.map encT)), some (.o1, .list []), x10, none, none, none, none, x15] ∧ nh x15 ∧ IsDeal δ ∧ ls.length = k ∧ ∀ xs ∈ ls, okList sz xs
/-- the lines, so far -/
def cutI2 (b : Book) (sz : Nat) (ls : List (List Int)) (k : Nat) (s : En) : Prop := ∃ (δ : D) (lines : List Ln) (x4 x5 x10 x11 x12 x13 x14 x15 : Option MD), s = [some (.o2, δ), some (.fz, encB b), some (.fz, .int 7), some (.fz, .bool false), x4, x5, none, some (.fz, .int sz), some (.o1, .list (ls.map encT)), some (.o1, .list (lines.map encLn)), x10, x11, x12, x13, x14, x15] ∧ IsDeal δ ∧ lines.length = k ∧ ∀ (i : Nat) (l : Ln), lines[i]? = some l → okLn b ls.length (i : Nat) l
/-- a line's readings, so far -/
def cutI3 (b : Book) (sz : Nat) (ls : List (List Int)) (lines : List Ln) (at' : Nat) (op : Int) (k : Nat) (s : En) : Prop := ∃ (δ : D) (rs : List Rdg) (x4 x10 x11 x14 x15 : Option MD), s = [some (.o2, δ), some (.fz, encB b), some (.fz, .int 7), some (.fz, .bool false), x4, some (.fz, .int at'), none, some (.fz, .int sz), some (.o1, .list (ls.map encT)), some (.o1, .list (lines.map encLn)), x10, x11, some (.fz, .int op), some (.o1, .list (rs.map encR)), x14, x15] ∧ IsDeal δ ∧ rs.length = k ∧ ∀ r ∈ rs, okR b.1 ls.length (at' : Nat) r
theorem s_cut {δ : D} (hδ : IsDeal δ) {b : Book} (hb : okBook b) (hb0 : 0 < b.2.length) : WpC (fun v os => ∃ c δ', v = (.fz, encC c) ∧ okCut b c ∧ 0 < c.lines.length ∧ c.lines.length ≤ 7 ∧ os = [(.o2, δ')] ∧ IsDeal δ') (fun _ _ => False) (i__law_cut.sem [(.o2, δ), (.fz, encB b), (.fz, .int 7), (.fz, .bool false)]) := by
  refine e__law_cut ?_
  unfold b__law_cut
  have hlo := hb.lo
  have hhi := hb.hi
  have hbl := hb.len
  obtain ⟨sz, hsz⟩ : ∃ sz : Nat, b.1 = sz := ⟨b.1.toNat, by omega⟩
  repeat' array_get_dec
  rotate_left 1
  · decide
  · decide
  intro i δ1 hi1 hi2 hd1
  obtain ⟨ni, hni⟩ : ∃ ni : Nat, 1 + i = ni := ⟨(1 + i).toNat, by omega⟩
  repeat' array_get_dec
  rw [hni]
  repeat' array_get_dec
  · refine lp_rng ni (cutI1 b sz) ?_ (fun k s hk hi => ?_) ?_
    · rw [hsz]
      exact ⟨δ1, [], none, none, none, rfl, nh_none, hd1, rfl, fun xs hx => absurd hx List.not_mem_nil⟩
    · obtain ⟨δ2, ls, x4, x10, x15, rfl, h15, hd2, hl1, hl2⟩ := hi
      repeat' array_get_dec
      · refine cq (own1 rfl (nh_held h15 rfl)) ?_
        rw [rangeD0]
        refine cp_inv (List.range sz) nI (fun pre acc s => ∃ (δ : D) (ys : List Nat) (x15 : Option MD), s = [some (.o2, δ), some (.fz, encB b), some (.fz, .int 7), some (.fz, .bool false), some (.fz, .int k), none, none, some (.fz, .int sz), some (.o1, .list (ls.map encT)), some (.o1, .list []), x10, none, none, none, none, x15] ∧ acc = ys.map nI ∧ IsDeal δ ∧ ys.Sublist pre) ?_ (fun pre x post acc s hx hi => ?_) (fun acc s hi => ?_)
        · exact ⟨δ2, [], _, rfl, rfl, hd2, List.Sublist.refl _⟩
        · obtain ⟨δ3, ys, x15, rfl, rfl, hd3, hy⟩ := hi
          repeat' array_get_dec
          rotate_left 1
          · decide
          · decide
          intro t δ4 ht1 ht2 hd4
          repeat' array_get_dec
          refine ft_d (fun _ => ?_) (fun _ => ?_)
          · repeat' array_get_dec
            exact ⟨δ4, ys ++ [x], _, rfl, by rw [List.map_append]; rfl, hd4, List.Sublist.append hy (List.Sublist.refl _)⟩
          · exact ⟨δ4, ys, _, rfl, rfl, hd4, hy.trans (List.sublist_append_left _ _)⟩
        · obtain ⟨δ3, ys, x15', rfl, rfl, hd3, hy⟩ := hi
          have hyp : ys.Pairwise (· < ·) := List.Pairwise.sublist hy List.pairwise_lt_range
          have hyl : ys.length ≤ 1000 := by
            have := hy.length_le
            rw [List.length_range] at this
            omega
          have hys : ∀ y ∈ ys, y < sz := fun y h => List.mem_range.mp (hy.mem h)
          have hll : (ls.map encT).length < lineN := by
            rw [List.length_map, hl1]
            exact Nat.lt_trans (show k < 3 by omega) (by decide)
          repeat' array_get_dec
          refine wo_eqNilN ?_
          repeat' array_get_dec
          refine ft_d (fun he => ?_) (fun he => ?_)
          · repeat' array_get_dec
            refine wo_tupRg ?_ (le_line (by omega))
            rw [rangeD_int]
            repeat' array_get_dec
            refine ⟨_, rfl, hll, ?_⟩
            repeat' array_get_dec
            refine ⟨_, ls ++ [_], _, _, _, by rw [List.map_append]; rfl, h15, hd3, by rw [List.length_append, hl1]; rfl, fun xs hx => ?_⟩
            rcases List.mem_append.mp hx with hx | hx
            · exact hl2 xs hx
            · rw [List.mem_singleton] at hx
              rw [hx]
              exact okList_of (fun z => by have := congrArg List.length z; rw [List.length_range] at this; have : sz = 0 := this; omega) List.pairwise_lt_range (by rw [List.length_range]; omega) (fun y hy => List.mem_range.mp hy)
          · repeat' array_get_dec
            rw [map_nI]
            refine ⟨_, rfl, hll, ?_⟩
            repeat' array_get_dec
            refine ⟨_, ls ++ [_], _, _, _, by rw [List.map_append]; rfl, h15, hd3, by rw [List.length_append, hl1]; rfl, fun xs hx => ?_⟩
            rcases List.mem_append.mp hx with hx | hx
            · exact hl2 xs hx
            · rw [List.mem_singleton] at hx
              rw [hx]
              exact okList_of he hyp hyl hys
      · exact le_line (by omega)
    · rintro s ⟨δ2, ls, x4, x10, x15, rfl, h15, hd2, hl1, hl2⟩
      have hls : 0 < ls.length := by omega
      repeat' array_get_dec
      rotate_left 1
      · decide
      · decide
      intro i3 δ3 hm1 hm2 hd3
      obtain ⟨nl, hnl⟩ : ∃ nl : Nat, 1 + i3 = nl := ⟨(1 + i3).toNat, by omega⟩
      repeat' array_get_dec
      rw [hnl]
      repeat' array_get_dec
      · refine lp_rng nl (cutI2 b sz ls) ?_ (fun k s hk hi => ?_) ?_
        · exact ⟨δ3, [], _, _, _, _, _, _, _, _, rfl, hd3, rfl, fun i l z => by simp at z⟩
        · obtain ⟨δ4, lines, x4, x5, x10, x11, x12, x13, x14, x15, rfl, hd4, hn1, hn2⟩ := hi
          repeat' array_get_dec
          rotate_left 1
          · omega
          · omega
          intro op δ5 ho1 ho2 hd5
          obtain ⟨opn, rfl⟩ : ∃ opn : Nat, op = opn := ⟨op.toNat, by omega⟩
          have hoL : opn < b.2.length := by omega
          obtain ⟨o, ho⟩ : ∃ o, b.2[opn]? = some o := ⟨_, List.getElem?_eq_getElem hoL⟩
          have hok := hb.op o (List.mem_of_getElem? ho)
          obtain ⟨pl, hpl⟩ : ∃ pl : Nat, o.1 = pl := ⟨o.1.toNat, by have := hok.1; omega⟩
          have hpl3 : pl ≤ 3 := by have := hok.2.1; omega
          repeat' array_get_dec
          refine wo_ixTm (i := opn) o ?_ rfl ho
          repeat' array_get_dec
          rw [hpl]
          repeat' array_get_dec
          · refine lp_rng pl (cutI3 b sz ls lines k opn) ?_ (fun j s hj hi => ?_) ?_
            · exact ⟨δ5, [], _, _, _, _, _, rfl, hd5, rfl, fun r z => absurd z List.not_mem_nil⟩
            · obtain ⟨δ6, rs, x4, x10, x11, x14, x15, rfl, hd6, hr1, hr2⟩ := hi
              have hrl : (rs.map encR).length < lineN := by
                rw [List.length_map, hr1]
                exact Nat.lt_trans (show j < 4 by omega) (by decide)
              have hnext : ∀ (δ : D) (r : Rdg) (x4 x10 x11 x14 x15 : Option MD), IsDeal δ → okR b.1 ls.length (k : Nat) r → cutI3 b sz ls lines k opn (j + 1) [some (.o2, δ), some (.fz, encB b), some (.fz, .int 7), some (.fz, .bool false), x4, some (.fz, .int k), none, some (.fz, .int sz), some (.o1, .list (ls.map encT)), some (.o1, .list (lines.map encLn)), x10, x11, some (.fz, .int opn), some (.o1, .list (rs.map encR ++ [encR r])), x14, x15] := fun δ r x4 x10 x11 x14 x15 hd hr =>
                ⟨δ, rs ++ [r], x4, x10, x11, x14, x15, by rw [List.map_append]; rfl, hd, by rw [List.length_append, hr1]; rfl, fun r' hr' => by
                  rcases List.mem_append.mp hr' with h | h
                  · exact hr2 r' h
                  · rw [List.mem_singleton] at h
                    rw [h]; exact hr⟩
              repeat' array_get_dec
              rotate_left 1
              · decide
              · decide
              intro kind δ7 hk1 hk2 hd7
              repeat' array_get_dec
              refine ft_d (fun _ => ?_) (fun _ => ?_)
              · repeat' array_get_dec
                rotate_left 1
                · omega
                · omega
                intro v δ8 hv1 hv2 hd8
                repeat' array_get_dec
                refine ⟨_, rfl, hrl, ?_⟩
                repeat' array_get_dec
                exact hnext _ ("value", v) _ _ _ _ _ hd8 (.val v ⟨hv1, by rw [hsz]; exact hv2⟩)
              repeat' array_get_dec
              refine ft_d (fun _ => ?_) (fun hk3 => ?_)
              · repeat' array_get_dec
                rotate_left 1
                · omega
                · omega
                intro v δ8 hv1 hv2 hd8
                repeat' array_get_dec
                refine ⟨_, rfl, hrl, ?_⟩
                repeat' array_get_dec
                exact hnext _ ("in", v) _ _ _ _ _ hd8 (.inp v ⟨hv1, hv2⟩)
              repeat' array_get_dec
              refine ft_d (fun _ => ?_) (fun hk0 => ?_)
              · repeat' array_get_dec
                rotate_left 1
                · omega
                · omega
                intro v δ8 hv1 hv2 hd8
                repeat' array_get_dec
                refine ⟨_, rfl, hrl, ?_⟩
                repeat' array_get_dec
                exact hnext _ ("in", v) _ _ _ _ _ hd8 (.inp v ⟨hv1, hv2⟩)
              · repeat' array_get_dec
                rotate_left 1
                · omega
                · omega
                intro v δ8 hv1 hv2 hd8
                repeat' array_get_dec
                refine ⟨_, rfl, hrl, ?_⟩
                repeat' array_get_dec
                exact hnext _ ("line", v) _ _ _ _ _ hd8 (.line v ⟨hv1, hv2⟩)
            · rintro s ⟨δ6, rs, x4, x10, x11, x14, x15, rfl, hd6, hr1, hr2⟩
              repeat' array_get_dec
              refine ⟨_, rfl, ?_, ?_⟩
              · rw [List.length_map, hn1]
                exact Nat.lt_trans (show k < 8 by omega) (by decide)
              repeat' array_get_dec
              refine ⟨δ6, lines ++ [((opn : Int), rs)], _, _, _, _, _, _, _, _, by rw [List.map_append]; rfl, hd6, by rw [List.length_append, hn1]; rfl, fun i l hl => ?_⟩
              rcases Nat.lt_or_ge i lines.length with h | h
              · rw [List.getElem?_append_left h] at hl
                exact hn2 i l hl
              · rw [List.getElem?_append_right h] at hl
                obtain ⟨h1, h2⟩ := List.getElem?_eq_some_iff.mp hl
                have h3 : i = k := by
                  have : i - lines.length < 1 := h1
                  omega
                subst h3
                have h4 : ((opn : Int), rs) = l := by
                  rw [← h2]
                  simp [hn1]
                rw [← h4]
                exact ⟨⟨opn, o, rfl, ho, by show (rs.length : Int) = o.1; omega⟩, hr2⟩
          · exact le_line (by omega)
        · rintro s ⟨δ4, lines, x4, x5, x10, x11, x12, x13, x14, x15, rfl, hd4, hn1, hn2⟩
          repeat' array_get_dec
          rotate_left 1
          · omega
          · omega
          intro v δ5 hv1 hv2 hd5
          repeat' array_get_dec
          rotate_left 1
          · exact (show 0 < 3 by decide)
          · exact (show 3 < 1000000 by decide)
          intro d δ6 hdm hd6
          have hes : ∃ es : List Rdg, d = .tuple (es.map encR) ∧ es.length ≤ 1 ∧ ∀ r ∈ es, okR b.1 ls.length lines.length r := by
            rcases List.mem_cons.mp hdm with h | hdm
            · exact ⟨[], h, by decide, fun r hr => absurd hr List.not_mem_nil⟩
            rcases List.mem_cons.mp hdm with h | hdm
            · exact ⟨[("line", v)], h, Nat.le_refl 1, fun r hr => by rw [List.mem_singleton] at hr; rw [hr]; exact .line v ⟨hv1, hv2⟩⟩
            · rw [List.mem_singleton] at hdm
              exact ⟨[("in", 0)], hdm, Nat.le_refl 1, fun r hr => by rw [List.mem_singleton] at hr; rw [hr]; exact .inp 0 ⟨by decide, by omega⟩⟩
          obtain ⟨es, rfl, he1, he2⟩ := hes
          repeat' array_get_dec
          refine wo_catT ?_ ?_
          · repeat' array_get_dec
            refine ⟨⟨ls, lines, ("line", (lines.length : Int) - 1) :: es⟩, δ6, rfl, ⟨fun xs hx => by rw [hsz]; exact hl2 xs hx, hn2, fun r hr => ?_, ?_⟩, ?_, ?_, rfl, hd6⟩
            · rcases List.mem_cons.mp hr with rfl | hr
              · exact .line _ ⟨by show (0 : Int) ≤ (lines.length : Int) - 1; omega, by show (lines.length : Int) - 1 < lines.length; omega⟩
              · exact he2 r hr
            · show lines.length ≤ 1000
              omega
            · show 0 < lines.length
              omega
            · show lines.length ≤ 7
              omega
          · rw [List.length_map]
            exact Nat.le_trans (Nat.add_le_add_left he1 _) (show 1 + 1 ≤ lineN by decide)
      · exact le_line (by omega)
  · exact le_line (by omega)
end W74

set_option Elab.async false
set_option linter.all false
set_option maxRecDepth 100000
set_option maxHeartbeats 4000000
namespace W74
open PySem DV
/-! ### the mathematics -/
theorem live_mono {c : Cut} {i j at' : Nat} (h : j ≤ at') (hl : live c i at' = true) : live c i j = true := by
  unfold live at *
  rw [Bool.or_eq_true] at *
  rcases hl with hl | hl
  · left
    obtain ⟨l, h1, h2⟩ := List.any_eq_true.mp hl
    refine List.any_eq_true.mpr ⟨l, ?_, h2⟩
    have e : c.lines.drop (at' + 1) = (c.lines.drop (j + 1)).drop (at' - j) := by
      rw [List.drop_drop]; congr 1; omega
    rw [e] at h1
    exact List.mem_of_mem_drop h1
  · exact .inr hl
theorem cells_pre (c : Cut) {i k n : Nat} (h : i < k) (hn : k ≤ n) : (cellsL c n).getD i 0 = (cellsL c k).getD i 0 := by
  induction n with
  | zero => omega
  | succ n ih =>
    rcases Nat.lt_or_ge n k with h' | h'
    · obtain rfl : k = n + 1 := by omega
      rfl
    · rw [← ih h']
      show (cellsL c n ++ _).getD i 0 = _
      rw [List.getD_eq_getElem?_getD, List.getD_eq_getElem?_getD, List.getElem?_append_left (by rw [cellsL_len]; omega)]
theorem cells_at (c : Cut) {k n : Nat} (h : k < n) : (cellsL c n).getD k 0 = mex (rowP c k).length (takenL c (cellsL c k) k) := by
  rw [cells_pre c (k := k + 1) (Nat.lt_succ_self _) h]
  show (cellsL c k ++ _).getD k 0 = _
  rw [List.getD_eq_getElem?_getD, List.getElem?_append_right (by rw [cellsL_len]; exact Nat.le_refl _), cellsL_len, Nat.sub_self]
  rfl
def cellsI (c : Cut) : List Int := (cellsL c c.lines.length).map fun n => ((n : Nat) : Int)
def mom (c : Cut) : Nat := (moments c).headD 0
theorem cellsI_len (c : Cut) : (cellsI c).length = c.lines.length := by unfold cellsI; rw [List.length_map, cellsL_len]
theorem cellsI_at (c : Cut) {k : Nat} (h : k < c.lines.length) : (cellsI c).getD k 0 = (((cellsL c c.lines.length).getD k 0 : Nat) : Int) := by
  unfold cellsI
  rw [List.getD_eq_getElem?_getD, List.getD_eq_getElem?_getD, List.getElem?_map, List.getElem?_eq_getElem (by rw [cellsL_len]; exact h)]
  rfl
theorem mom_spec {c : Cut} (h : 0 < c.lines.length) : mom c < c.lines.length ∧ (((rowP c (mom c)).length : Nat) : Int) = manyI c := by
  have hm := moments_ne h
  unfold mom
  cases e : moments c with
  | nil => exact absurd e hm
  | cons k r =>
    have : k ∈ moments c := by rw [e]; exact List.mem_cons_self
    obtain ⟨h1, h2⟩ := List.mem_filter.mp this
    exact ⟨List.mem_range.mp h1, of_decide_eq_true h2⟩
theorem nodup_map_on {α β : Type} {f : α → β} : ∀ {l : List α}, (∀ a ∈ l, ∀ b ∈ l, f a = f b → a = b) → l.Nodup → (l.map f).Nodup
  | [], _, _ => List.nodup_nil
  | x :: l, h, hn => by
    rw [List.nodup_cons] at hn
    rw [List.map_cons, List.nodup_cons]
    refine ⟨fun hm => ?_, nodup_map_on (fun a ha b hb => h a (List.mem_cons_of_mem _ ha) b (List.mem_cons_of_mem _ hb)) hn.2⟩
    obtain ⟨y, hy, e⟩ := List.mem_map.mp hm
    have := h y (List.mem_cons_of_mem _ hy) x List.mem_cons_self e
    exact hn.1 (this ▸ hy)
theorem rowP_nodup (c : Cut) (k : Nat) : (rowP c k).Nodup := List.nodup_range.filter _
theorem told_fit (c : Cut) : Fit c (cellsI c) := by
  intro k hk
  refine nodup_map_on (fun a ha b hb e => ?_) (rowP_nodup c k)
  have key : ∀ i j, i ∈ rowP c k → j ∈ rowP c k → i < j → (cellsI c).getD i 0 ≠ (cellsI c).getD j 0 := by
    intro i j hi hj hij
    have hi1 := row_lt hi
    have hj1 := row_lt hj
    rw [cellsI_at c (by omega), cellsI_at c (by omega)]
    intro z
    have z : (cellsL c c.lines.length).getD i 0 = (cellsL c c.lines.length).getD j 0 := by omega
    rw [cells_at c (k := j) (by omega), cells_pre c (k := j) hij (by omega)] at z
    refine (mex_spec c (cellsL c j) j).2 ?_
    rw [← z, row_taken]
    refine List.mem_map.mpr ⟨i, List.mem_filter.mpr ⟨List.mem_range.mpr hij, ?_⟩, rfl⟩
    have h1 := (List.mem_filter.mp hi).2
    rw [Bool.or_eq_true, decide_eq_true_eq] at h1
    rcases h1 with h1 | h1
    · omega
    · exact live_mono (by omega) h1
  rcases Nat.lt_trichotomy a b with h | h | h
  · exact absurd e (key a b ha hb h)
  · exact h
  · exact absurd e.symm (key b a hb ha h)
theorem told_lt {c : Cut} {x : Int} (hx : x ∈ cellsI c) : 0 ≤ x ∧ x < manyI c := by
  obtain ⟨k, e⟩ := List.mem_iff_getElem?.mp hx
  obtain ⟨hk, e2⟩ := List.getElem?_eq_some_iff.mp e
  rw [cellsI_len] at hk
  have e3 : (cellsI c).getD k 0 = x := by rw [List.getD_eq_getElem?_getD, e]; rfl
  rw [cellsI_at c hk, cells_at c hk] at e3
  have h1 := (mex_spec c (cellsL c k) k).1
  have h2 := manyI_ge hk
  omega
theorem many_pos {c : Cut} (h : 0 < c.lines.length) : 0 < manyI c := by
  have h1 := manyI_ge h
  have : 0 < (rowP c 0).length := by rw [row_last, List.length_append]; exact Nat.succ_pos _
  omega
theorem many_le {c : Cut} (h : 0 < c.lines.length) : manyI c ≤ c.lines.length := by
  obtain ⟨k, hk, e⟩ := manyI_at h
  have := row_len c k
  omega
theorem told_holds {c : Cut} (h : 0 < c.lines.length) : holdB c (manyI c) (cellsI c) (.int (mom c)) = true := by
  obtain ⟨h1, h2⟩ := mom_spec h
  refine (holdB_iff _ _ _ _).mpr ⟨by have := many_pos h; omega, cellsI_len c, fun x hx => told_lt hx, told_fit c, by omega, by omega, ?_⟩
  rw [Int.toNat_natCast]
  exact h2
/-- fewer cells never do -/
theorem no_fewer {c : Cut} (h : 0 < c.lines.length) {ns : List Int} (hl : ns.length = c.lines.length) (hx : ∀ x ∈ ns, 0 ≤ x ∧ x < manyI c - 1) : fitB c ns = false := by
  refine Bool.eq_false_iff.mpr fun z => ?_
  obtain ⟨h1, h2⟩ := mom_spec h
  have hf := (fitB_iff c ns).mp z (mom c) h1
  have hg : ∀ one ∈ rowP c (mom c), 0 ≤ ns.getD one 0 ∧ ns.getD one 0 < manyI c - 1 := fun one ho => by
    have := row_lt ho
    rw [List.getD_eq_getElem?_getD, List.getElem?_eq_getElem (by omega)]
    exact hx _ (List.getElem_mem _)
  have hn : ((rowP c (mom c)).map fun one => (ns.getD one 0).toNat).Nodup := by
    have e : ((rowP c (mom c)).map fun one => (ns.getD one 0).toNat) = ((rowP c (mom c)).map fun one => ns.getD one 0).map Int.toNat := by rw [List.map_map]; rfl
    rw [e]
    refine nodup_map_on (fun a ha b hb e => ?_) hf
    obtain ⟨i, hi, rfl⟩ := List.mem_map.mp ha
    obtain ⟨j, hj, rfl⟩ := List.mem_map.mp hb
    have := hg i hi
    have := hg j hj
    omega
  have := nodup_len (manyI c - 1).toNat _ hn (fun x hx => by
    obtain ⟨i, hi, rfl⟩ := List.mem_map.mp hx
    have := hg i hi
    omega)
  rw [List.length_map] at this
  have := many_pos h
  omega
theorem first_at (f : Nat → Int) (v : Int) (n : Nat) (h : ((List.range n).filter fun k => decide (f k = v)) ≠ []) : ((List.range n).map f).idxOf? v = some (((List.range n).filter fun k => decide (f k = v)).headD 0) := by
  cases e : (List.range n).filter fun k => decide (f k = v) with
  | nil => exact absurd e h
  | cons k r =>
    have hk : k ∈ (List.range n).filter fun k => decide (f k = v) := by rw [e]; exact List.mem_cons_self
    obtain ⟨h1, h2⟩ := List.mem_filter.mp hk
    have h1 := List.mem_range.mp h1
    have h2 : f k = v := of_decide_eq_true h2
    have hmin : ∀ j, j < k → f j ≠ v := by
      intro j hj z
      have hjm : j ∈ (List.range n).filter fun k => decide (f k = v) := List.mem_filter.mpr ⟨List.mem_range.mpr (by omega), decide_eq_true z⟩
      have hp : ((List.range n).filter fun k => decide (f k = v)).Pairwise (· < ·) := List.Pairwise.filter _ List.pairwise_lt_range
      rw [e] at hjm hp
      rcases List.mem_cons.mp hjm with h | h
      · omega
      · have := (List.pairwise_cons.mp hp).1 j h
        omega
    show List.findIdx? (· == v) _ = _
    rw [List.findIdx?_eq_some_iff_getElem]
    refine ⟨by rw [List.length_map, List.length_range]; exact h1, ?_, fun j hj => ?_⟩
    · rw [List.getElem_map, List.getElem_range]
      simpa using h2
    · rw [List.getElem_map, List.getElem_range]
      simpa using hmin j hj
theorem mom_first {c : Cut} (h : 0 < c.lines.length) : (lens c).idxOf? (maxI (lens c)) = some (mom c) := by
  rw [← manyI_eq h]
  unfold mom
  exact first_at (fun k => (((rowP c k).length : Nat) : Int)) (manyI c) _ (moments_ne h)
/-! ### what a call of any values raises -/
section
variable {Q : Fl → En → Prop} {X : Xn → En → Prop} {s : En} {x : Xn} {h : Hd} {hs : List Hd}
theorem hd_ret (h1 : h.knw.contains x.cls = true) (h1' : okN s h.nm = true) (h2 : h.clss.contains x.cls = true) (hk : h.k = .ret) (hf : x.fld = h.fld) (q : Q (.rt (.fz, .tuple (h.parts.map fun p => p.getD x.val))) (offE s h.nm)) : Wp Q X (hdR x s (h :: hs)) := by
  unfold hdR
  rw [h1, h1', h2, hk, Bool.and_self, if_pos rfl, if_pos rfl]
  show Wp Q X (if x.fld = h.fld then _ else _)
  rw [if_pos hf]
  exact .ok q
theorem hd_next (h1 : h.knw.contains x.cls = true) (h1' : okN s h.nm = true) (h2 : h.clss.contains x.cls = false) (q : Wp Q X (hdR x s hs)) : Wp Q X (hdR x s (h :: hs)) := by
  unfold hdR
  rw [h1, h1', h2, Bool.and_self, if_pos rfl, if_neg Bool.false_ne_true]
  exact q
end
theorem k_book : (["InvalidBook", "InvalidCut"] : List Str).contains "InvalidBook" = true := by decide +kernel
theorem k_cut : (["InvalidBook", "InvalidCut"] : List Str).contains "InvalidCut" = true := by decide +kernel
theorem k_bb : (["InvalidBook"] : List Str).contains "InvalidBook" = true := by decide +kernel
theorem k_bc : (["InvalidBook"] : List Str).contains "InvalidCut" = false := by decide +kernel
theorem k_cc : (["InvalidCut"] : List Str).contains "InvalidCut" = true := by decide +kernel
theorem eq_ff : cmpD .Eq (.str "fewest") (.str "fewest") = some true := by decide +kernel
theorem eq_hf : cmpD .Eq (.str "hold") (.str "fewest") = some false := by decide +kernel
theorem t_fb {d e : D} (h : isPair d = false) : i__law_tried.sem [(.fz, .str "fewest"), (.fz, .tuple [d, e])] = .ret (.fz, .tuple [.str "book", .int (-1)]) [] := by
  refine wpc_ret (e__law_tried ?_)
  unfold b__law_tried
  repeat' array_get_dec
  refine wo_eq eq_ff ?_
  repeat' array_get_dec
  refine wp_rexc rfl rfl (s_cells_b h) ?_
  refine hd_ret k_book rfl k_bb rfl rfl ?_
  repeat' array_get_dec
  exact ⟨rfl, rfl⟩
theorem t_fc {b : Book} {d : D} (hb : okBook b) (h : tyD d .tuple = false) : i__law_tried.sem [(.fz, .str "fewest"), (.fz, .tuple [encB b, d])] = .ret (.fz, .tuple [.str "cut", .int (-1)]) [] := by
  refine wpc_ret (e__law_tried ?_)
  unfold b__law_tried
  repeat' array_get_dec
  refine wo_eq eq_ff ?_
  repeat' array_get_dec
  refine wp_rexc rfl rfl (s_cells_c hb h) ?_
  refine hd_next k_cut rfl k_bc ?_
  refine hd_ret k_cut rfl k_cc rfl rfl ?_
  repeat' array_get_dec
  exact ⟨rfl, rfl⟩
theorem t_fe {b : Book} {c : Cut} {d : D} (hb : okBook b) (h : okCut b c) (hd : tyD d .tuple = false) : i__law_tried.sem [(.fz, .str "fewest"), (.fz, .tuple [encB b, .tuple [.tuple (c.lists.map encT), .tuple (c.lines.map encLn), d]])] = .ret (.fz, .tuple [.str "cut", .int 2]) [] := by
  refine wpc_ret (e__law_tried ?_)
  unfold b__law_tried
  repeat' array_get_dec
  refine wo_eq eq_ff ?_
  repeat' array_get_dec
  refine wp_rexc rfl rfl (s_cells_e hb h hd) ?_
  refine hd_next k_cut rfl k_bc ?_
  refine hd_ret k_cut rfl k_cc rfl rfl ?_
  repeat' array_get_dec
  exact ⟨rfl, rfl⟩
theorem t_hb {d e : D} (h : isPair d = false) : i__law_tried.sem [(.fz, .str "hold"), (.fz, .tuple [d, e])] = .ret (.fz, .tuple [.str "book", .int (-1)]) [] := by
  refine wpc_ret (e__law_tried ?_)
  unfold b__law_tried
  repeat' array_get_dec
  refine wo_eq eq_hf ?_
  repeat' array_get_dec
  refine wp_rexc rfl rfl (s_hold_b h) ?_
  refine hd_ret k_book rfl k_bb rfl rfl ?_
  repeat' array_get_dec
  exact ⟨rfl, rfl⟩
theorem t_hc {b : Book} {d : D} (hb : okBook b) (h : tyD d .tuple = false) : i__law_tried.sem [(.fz, .str "hold"), (.fz, .tuple [encB b, d])] = .ret (.fz, .tuple [.str "cut", .int (-1)]) [] := by
  refine wpc_ret (e__law_tried ?_)
  unfold b__law_tried
  repeat' array_get_dec
  refine wo_eq eq_hf ?_
  repeat' array_get_dec
  refine wp_rexc rfl rfl (s_hold_c hb h) ?_
  refine hd_next k_cut rfl k_bc ?_
  refine hd_ret k_cut rfl k_cc rfl rfl ?_
  repeat' array_get_dec
  exact ⟨rfl, rfl⟩
def isTrueR : RC → Bool
  | .ret (.fz, .bool true) [] => true
  | _ => false
theorem isTrueR_eq {r : RC} (h : isTrueR r = true) : r = .ret (.fz, .bool true) [] := by
  unfold isTrueR at h
  split at h
  · rfl
  · cases h
theorem s_anchor : i__law_anchor.sem [] = .ret (.fz, .bool true) [] := isTrueR_eq (by decide +kernel)
end W74

set_option Elab.async false
set_option linter.all false
set_option maxRecDepth 100000
set_option maxHeartbeats 4000000
namespace W74
open PySem DV
section
variable {Q : MD → En → Prop} {X : Xn → En → Prop} {s : En} {m m1 m2 m3 : Md} {δ : D} {n : Int} {j : Nat}
theorem p_cut {b : Book} (hs : s[j]? = some (some (.o2, δ))) (hδ : IsDeal δ) (hb : okBook b) (hb0 : 0 < b.2.length) (h : ∀ c δ', okCut b c → 0 < c.lines.length → c.lines.length ≤ 7 → IsDeal δ' → Q (.fz, encC c) (s.set j (some (.o2, δ')))) : Cl i__law_cut [(m1, encB b), (m2, .int 7), (m3, .bool false)] [j] s Q X :=
  wp_call1 rfl rfl hs (by decide) ((s_cut hδ hb hb0).imp (fun v os ⟨c, δ', e1, e2, e3, e4, e5, e6⟩ => ⟨_, e5, by rw [e1]; rfl, rfl, by rw [e1]; exact h c δ' e2 e3 e4 e6⟩) (fun _ _ z => z.elim))
theorem p_anchor (h : Q (.fz, .bool true) s) : Cl i__law_anchor [] [] s Q X := wp_ret rfl rfl s_anchor rfl h
theorem p_cells {b : Book} {c : Cut} (h : Q (.fz, .tuple [.int (manyI c), encT (cellsI c), .int (mom c)]) s) (hb : okBook b) (hc : okCut b c) (h0 : 0 < c.lines.length) : Cl i_fewest_cells [(m1, encB b), (m2, encC c)] [] s Q X := by
  refine wp_ret rfl rfl (s_fewest_cells hb hc h0) rfl ?_
  rw [map_nI]
  exact h
end
/-- both judges say the same of it -/
def OkV (b : Book) (c : Cut) (d : D) : Prop := ∃ t : Bool, i_fewest_hold.sem [(.fz, encB b), (.fz, encC c), (.fz, d)] = .ret (.fz, .bool t) [] ∧ i__law_due.sem [(.fz, encC c), (.fz, d)] = .ret (.fz, .bool t) []
theorem okV_gen {b : Book} {c : Cut} (hb : okBook b) (hc : okCut b c) (h0 : 0 < c.lines.length) {k : Int} {ns : List Int} {mo : D} (hns : ns.length ≤ 100000) (hmo : (∃ z, mo = .int z) ∨ mo = .none) : OkV b c (.tuple [.int k, encT ns, mo]) :=
  ⟨_, s_hold hb hc h0, s_due hc h0 hns hmo⟩
theorem okV_form {b : Book} {c : Cut} (hb : okBook b) (hc : okCut b c) (h0 : 0 < c.lines.length) {d : D} (h : tyD d .tuple = false) : OkV b c d := ⟨_, s_hold_bad hb hc (.form h), s_due_bad hc h0 (.inl h)⟩
theorem okV_len {b : Book} {c : Cut} (hb : okBook b) (hc : okCut b c) (h0 : 0 < c.lines.length) {ds : List D} (h : ds.length ≠ 3) : OkV b c (.tuple ds) := ⟨_, s_hold_bad hb hc (.len h), s_due_bad hc h0 (.inr (.inl ⟨ds, rfl, h⟩))⟩
theorem okV_cells {b : Book} {c : Cut} (hb : okBook b) (hc : okCut b c) (h0 : 0 < c.lines.length) {k : Int} {d e : D} (h : tyD d .tuple = false) : OkV b c (.tuple [.int k, d, e]) := ⟨_, s_hold_bad hb hc (.cells h), s_due_bad hc h0 (.inr (.inr ⟨k, d, e, rfl, h⟩))⟩
theorem okV_true {b : Book} {c : Cut} (hb : okBook b) (hc : okCut b c) (h0 : 0 < c.lines.length) {ns : List Int} {mo : D} (hns : ns.length ≤ 100000) : OkV b c (.tuple [.bool true, encT ns, mo]) := ⟨_, s_hold_bad hb hc .many, s_due_true hc h0 hns⟩
theorem ne_book : cmpD .NotEq (.tuple [.str "book", .int (-1)]) (.tuple [.str "book", .int (-1)]) = some false := by decide +kernel
theorem ne_cut : cmpD .NotEq (.tuple [.str "cut", .int (-1)]) (.tuple [.str "cut", .int (-1)]) = some false := by decide +kernel
theorem eq_cut2 : cmpD .Eq (.tuple [.str "cut", .int 2]) (.tuple [.str "cut", .int 2]) = some true := by decide +kernel
local macro_rules
  | `(tactic| array_get_dec) => `(tactic| ((with_reducible apply g_call); first
    | ((with_reducible apply p_of); (· rfl); (· assumption))
    | ((with_reducible apply p_any); (· rfl); (· assumption))
    | ((with_reducible apply p_draw))
    | ((with_reducible apply p_book); (· rfl); (· assumption))
    | ((with_reducible apply p_cut); (· rfl); (· assumption); (· assumption); (· assumption))
    | ((with_reducible apply p_anchor))
    | ((with_reducible apply p_cells))
    | ((with_reducible apply p_stands))))
theorem law_true : i_law.ps.length = 1 ∧ i_law.io = 0 ∧ ∀ ns : List Int, ns.length ≤ 63 → i_law.sem [(.fz, .list (ns.map PyData.int))] = .ret (.fz, .bool true) [] := by
  refine ⟨rfl, rfl, fun ns _ => ?_⟩
  refine wpc_ret (e_law ?_)
  unfold b_law
  repeat' array_get_dec
  intro δ1 hd1
  repeat' array_get_dec
  intro b δ2 hb hb0 hd2
  repeat' array_get_dec
  intro c δ3 hc hc0 hc7 hd3
  have hmp := many_pos hc0
  have hml := many_le hc0
  repeat' array_get_dec
  rotate_left 1
  · exact le_line (by omega)
  · exact hb
  · exact hc
  · exact hc0
  refine cp_mapR c.lines.length (fun k => nI (rowP c k).length) (fun k hk => ?_) ?_
  · repeat' array_get_dec
    · rw [stands_len]
      exact ⟨rfl, rfl⟩
    · exact hc
    · omega
  have e1 : ((List.range c.lines.length).map fun k => nI (rowP c k).length) = (lens c).map PyData.int := by
    unfold lens
    rw [List.map_map]; rfl
  rw [e1]
  repeat' array_get_dec
  refine wp_ret rfl rfl (s_due hc hc0 (by rw [cellsI_len]; omega) (.inl ⟨_, rfl⟩)) rfl ?_
  rw [told_holds hc0]
  repeat' array_get_dec
  refine wo_maxL ?_ (List.length_pos_iff.mpr (lens_ne hc0))
  rw [← manyI_eq hc0]
  repeat' array_get_dec
  refine ft_d (fun z => absurd rfl z) (fun _ => ?_)
  repeat' array_get_dec
  refine wo_maxL ?_ (List.length_pos_iff.mpr (lens_ne hc0))
  repeat' array_get_dec
  refine wo_eq (r := (.fz, .int (mom c : Nat))) ?_ ?_
  · show (intsD ((lens c).map PyData.int)).bind _ = _
    rw [intsD_map]
    show ((lens c).idxOf? (maxI (lens c))).map _ = _
    rw [mom_first hc0]; rfl
  repeat' array_get_dec
  refine ft_d (fun z => absurd rfl z) (fun _ => ?_)
  repeat' array_get_dec
  refine ft_join (fun s => ∃ x11, s = [some (.fz, .list (ns.map PyData.int)), some (.o2, δ3), some (.fz, encB b), some (.fz, encC c), none, none, none, none, none, some (.fz, .tuple [.int (manyI c), encT (cellsI c), .int (mom c)]), some (.o1, .list ((lens c).map PyData.int)), x11, none, none, none, none, none, none]) (fun hlt => ?_) (fun hlt => ?_) ?_
  · have hlt := of_decide_eq_true hlt
    obtain ⟨mz, hmz⟩ : ∃ mz : Nat, manyI c - 1 = mz := ⟨(manyI c - 1).toNat, by omega⟩
    repeat' array_get_dec
    rw [hmz]
    refine p_ways (fun m rows hm hr => ?_) (by omega) (by omega)
    have hit : Wo (fun p : List D × Bool => p = (rows.map encT, false)) (itemsD .seq [(m, .list (rows.map encT))]) := by
      rcases hm with rfl | rfl
      · exact ⟨_, rfl, rfl⟩
      · exact ⟨_, rfl, rfl⟩
    obtain ⟨pp, hp1, hp2⟩ := hit
    subst hp2
    refine cq (by rcases hm with rfl | rfl <;> rfl) ?_
    repeat' array_get_dec
    refine wo_eq hp1 ?_
    repeat' array_get_dec
    refine lp_inv rows encT (fun pre s => ∃ x11, s = [some (.fz, .list (ns.map PyData.int)), some (.o2, δ3), some (.fz, encB b), some (.fz, encC c), none, none, none, none, none, some (.fz, .tuple [.int (manyI c), encT (cellsI c), .int (mom c)]), some (.o1, .list ((lens c).map PyData.int)), x11, none, none, none, none, none, none]) ⟨_, rfl⟩ (fun pre row post s hx hi => ?_) (fun s hi => ?_)
    · obtain ⟨x11, rfl⟩ := hi
      have hrow := hr.row row (by rw [hx]; simp)
      repeat' array_get_dec
      refine p_fit ?_ hc hrow.1
      rw [no_fewer hc0 hrow.1 (fun x hx => by have := hrow.2 x hx; omega)]
      repeat' array_get_dec
      exact ⟨_, rfl⟩
    · repeat' array_get_dec
      exact ⟨rfl, hi⟩
  · repeat' array_get_dec
    exact ⟨rfl, _, rfl⟩
  rintro s ⟨x11, rfl⟩
  repeat' array_get_dec
  rotate_left 1
  · omega
  · omega
  intro at' δ4 ha1 ha2 hd4
  repeat' array_get_dec
  rotate_left 1
  · omega
  · omega
  intro cell δ5 hce1 hce2 hd5
  repeat' array_get_dec
  refine cp_map (cellsI c) PyData.int (fun x => .int (manyI c - 1 - x)) (fun x hx => ?_) ?_
  · repeat' array_get_dec
    exact ⟨rfl, rfl⟩
  repeat' array_get_dec
  obtain ⟨an, rfl⟩ : ∃ an : Nat, at' = an := ⟨at'.toNat, by omega⟩
  have hcl := cellsI_len c
  refine wo_catT ?_ (show 3 + 1 ≤ lineN by decide)
  repeat' array_get_dec
  rw [cut_to, ← List.map_take]
  refine wo_catT ?_ (by rw [List.length_map, List.length_take]; exact Nat.le_trans (Nat.add_le_add_right (show min an (cellsI c).length ≤ 7 by omega) _) (show 7 + 1 ≤ lineN by decide))
  repeat' array_get_dec
  rw [show ((an : Int) + 1) = ((an + 1 : Nat) : Int) from rfl, cut_from, ← List.map_drop]
  refine wo_catT ?_ (by rw [List.length_append, List.length_map, List.length_take, List.length_map, List.length_drop]; exact Nat.le_trans (Nat.add_le_add (Nat.add_le_add_right (show min an (cellsI c).length ≤ 7 by omega) _) (show (cellsI c).length - (an + 1) ≤ 7 by omega)) (show 7 + 1 + 7 ≤ lineN by decide))
  repeat' array_get_dec
  refine wo_catL ?_ (show 8 + 3 ≤ lineN by decide)
  repeat' array_get_dec
  refine wo_catL ?_ (show 11 + 4 ≤ lineN by decide)
  repeat' array_get_dec
  refine lp_mem (OkV b c) (fun s => ∃ x5 x6 x16, s = [some (.fz, .list (ns.map PyData.int)), some (.o2, δ5), some (.fz, encB b), some (.fz, encC c), some (.fz, .tuple ((cellsI c).map fun x => .int (manyI c - 1 - x))), x5, x6, none, none, some (.fz, .tuple [.int (manyI c), encT (cellsI c), .int (mom c)]), some (.o1, .list ((lens c).map PyData.int)), some (.fz, encT (cellsI c)), some (.fz, .int an), some (.fz, .int cell), some (.fz, .int (manyI c)), some (.fz, .int (mom c)), x16, none]) ?_ ?_ (fun d s hd hi => ?_) (fun s hi => ?_)
  · have hg : ∀ (k z : Int) (xs : List Int), xs.length ≤ 100 → OkV b c (.tuple [.int k, encT xs, .int z]) := fun k z xs hx => okV_gen hb hc hc0 (by omega) (.inl ⟨z, rfl⟩)
    refine List.forall_mem_append.mpr ⟨List.forall_mem_append.mpr ⟨?_, ?_⟩, ?_⟩
    · refine List.forall_mem_cons.mpr ⟨hg _ _ _ (by omega), List.forall_mem_cons.mpr ⟨okV_form hb hc hc0 rfl, List.forall_mem_cons.mpr ⟨?_, List.forall_mem_cons.mpr ⟨hg _ _ _ (by omega), List.forall_mem_cons.mpr ⟨okV_len hb hc hc0 (show (2 : Nat) ≠ 3 by decide), List.forall_mem_cons.mpr ⟨okV_len hb hc hc0 (show (4 : Nat) ≠ 3 by decide), List.forall_mem_cons.mpr ⟨okV_form hb hc hc0 rfl, List.forall_mem_cons.mpr ⟨okV_len hb hc hc0 (show (0 : Nat) ≠ 3 by decide), fun d hd => absurd hd List.not_mem_nil⟩⟩⟩⟩⟩⟩⟩⟩
      have e : ((cellsI c).map fun x => PyData.int (manyI c - 1 - x)) = ((cellsI c).map fun x => manyI c - 1 - x).map PyData.int := by rw [List.map_map]; rfl
      rw [e]
      exact hg _ _ _ (by rw [List.length_map]; omega)
    · refine List.forall_mem_cons.mpr ⟨?_, List.forall_mem_cons.mpr ⟨hg _ _ _ (by omega), List.forall_mem_cons.mpr ⟨okV_cells hb hc hc0 rfl, fun d hd => absurd hd List.not_mem_nil⟩⟩⟩
      have e : (cellsI c |>.take an).map PyData.int ++ [PyData.int cell] ++ ((cellsI c).drop (an + 1)).map PyData.int = ((cellsI c).take an ++ [cell] ++ (cellsI c).drop (an + 1)).map PyData.int := by rw [List.map_append, List.map_append]; rfl
      rw [e]
      refine hg _ _ _ ?_
      rw [List.length_append, List.length_append, List.length_take, List.length_drop]
      have : [cell].length = 1 := rfl
      omega
    · refine List.forall_mem_cons.mpr ⟨okV_gen hb hc hc0 (by omega) (.inr rfl), List.forall_mem_cons.mpr ⟨?_, List.forall_mem_cons.mpr ⟨okV_true hb hc hc0 (by omega), List.forall_mem_cons.mpr ⟨hg _ _ _ (by omega), fun d hd => absurd hd List.not_mem_nil⟩⟩⟩⟩
      rw [show (1 : Int) = ((1 : Nat) : Int) from rfl, cut_from, ← List.map_drop]
      exact hg _ _ _ (by rw [List.length_drop]; omega)
  · exact ⟨_, _, _, rfl⟩
  · obtain ⟨x5, x6, x16, rfl⟩ := hi
    obtain ⟨t, ht1, ht2⟩ := hd
    repeat' array_get_dec
    refine wp_ret rfl rfl ht1 rfl ?_
    repeat' array_get_dec
    refine wp_ret rfl rfl ht2 rfl ?_
    repeat' array_get_dec
    refine wo_neB ?_
    repeat' array_get_dec
    refine ft_is_t (by simp) ?_
    repeat' array_get_dec
    exact ⟨_, _, _, rfl⟩
  obtain ⟨x5, x6, x16, rfl⟩ := hi
  repeat' array_get_dec
  rotate_left 1
  · exact (show 0 < 4 by decide)
  · exact (show 4 < 1000000 by decide)
  intro odd δ6 ho hd6
  have hodd : isPair odd = false ∧ tyD odd .tuple = false := by
    rcases List.mem_cons.mp ho with h | ho
    · rw [h]; exact ⟨rfl, rfl⟩
    rcases List.mem_cons.mp ho with h | ho
    · rw [h]; exact ⟨rfl, rfl⟩
    rcases List.mem_cons.mp ho with h | ho
    · rw [h]; exact ⟨rfl, rfl⟩
    · rw [List.mem_singleton] at ho
      rw [ho]; exact ⟨rfl, rfl⟩
  repeat' array_get_dec
  refine lp_mem (fun d => d = .str "fewest" ∨ d = .str "hold") (fun s => ∃ x8, s = [some (.fz, .list (ns.map PyData.int)), some (.o2, δ6), some (.fz, encB b), some (.fz, encC c), some (.fz, .tuple ((cellsI c).map fun x => .int (manyI c - 1 - x))), _, x6, some (.fz, odd), x8, some (.fz, .tuple [.int (manyI c), encT (cellsI c), .int (mom c)]), some (.o1, .list ((lens c).map PyData.int)), some (.fz, encT (cellsI c)), some (.fz, .int an), some (.fz, .int cell), some (.fz, .int (manyI c)), some (.fz, .int (mom c)), x16, none]) ?_ ⟨_, rfl⟩ (fun d s hd hi => ?_) (fun s hi => ?_)
  · exact List.forall_mem_cons.mpr ⟨.inl rfl, List.forall_mem_cons.mpr ⟨.inr rfl, fun d hd => absurd hd List.not_mem_nil⟩⟩
  · obtain ⟨x8, rfl⟩ := hi
    rcases hd with rfl | rfl
    · repeat' array_get_dec
      refine wp_ret rfl rfl (t_fb hodd.1) rfl ?_
      repeat' array_get_dec
      refine wo_eq ne_book ?_
      repeat' array_get_dec
      refine wp_ret rfl rfl (t_fc hb hodd.2) rfl ?_
      repeat' array_get_dec
      refine wo_eq ne_cut ?_
      repeat' array_get_dec
      exact ⟨_, rfl⟩
    · repeat' array_get_dec
      refine wp_ret rfl rfl (t_hb hodd.1) rfl ?_
      repeat' array_get_dec
      refine wo_eq ne_book ?_
      repeat' array_get_dec
      refine wp_ret rfl rfl (t_hc hb hodd.2) rfl ?_
      repeat' array_get_dec
      refine wo_eq ne_cut ?_
      repeat' array_get_dec
      exact ⟨_, rfl⟩
  · obtain ⟨x8, rfl⟩ := hi
    repeat' array_get_dec
    refine wo_catT ?_ (show 2 + 1 ≤ lineN by decide)
    repeat' array_get_dec
    refine wp_ret rfl rfl (t_fe hb hc hodd.2) rfl ?_
    repeat' array_get_dec
    refine wo_eq eq_cut2 ?_
    repeat' array_get_dec
    exact ⟨rfl, rfl⟩
end W74

set_option Elab.async false
set_option linter.all false
set_option maxRecDepth 100000
set_option maxHeartbeats 0
namespace W74
open PySem L2 DV PyProof.Rows
def top (i : Nat) : Stmt := PySem.Challenge.pw_foldsall_k74_whole_fewest_cells_of_lines.main.body.getD i (.Pass ⟨0, 0, 0, 0⟩)
/-- what the top has written -/
structure Tx (P : Program) (K : PySem.W.Frag) (mg : Str → Option Value) (C_InvalidBook f_InvalidBook : Addr) (C_InvalidCut f_InvalidCut : Addr) : Prop where
  n_abs : mg "abs" = none
  n_all : mg "all" = none
  n_bool : mg "bool" = none
  n_enumerate : mg "enumerate" = none
  n_int : mg "int" = none
  n_isinstance : mg "isinstance" = none
  n_len : mg "len" = none
  n_list : mg "list" = none
  n_max : mg "max" = none
  n_min : mg "min" = none
  n_range : mg "range" = none
  n_set : mg "set" = none
  n_str : mg "str" = none
  n_tuple : mg "tuple" = none
  g_MOST_OPERATIONS : ∃ t, mg "MOST_OPERATIONS" = some (.int 8 t)
  g_MOST_PLACES : ∃ t, mg "MOST_PLACES" = some (.int 3 t)
  g_MOST_SIZE : ∃ t, mg "MOST_SIZE" = some (.int 8 t)
  e_InvalidBook : PySem.DVE.ErrTxt P K mg "InvalidBook" "at" C_InvalidBook f_InvalidBook
  e_InvalidCut : PySem.DVE.ErrTxt P K mg "InvalidCut" "at" C_InvalidCut f_InvalidCut
  x_InvalidBook_InvalidBook : PySem.W.exmOne K (.ref C_InvalidBook) (.ref C_InvalidBook) = some true
  x_InvalidBook_InvalidCut : PySem.W.exmOne K (.ref C_InvalidBook) (.ref C_InvalidCut) = some false
  x_InvalidCut_InvalidBook : PySem.W.exmOne K (.ref C_InvalidCut) (.ref C_InvalidBook) = some false
  x_InvalidCut_InvalidCut : PySem.W.exmOne K (.ref C_InvalidCut) (.ref C_InvalidCut) = some true
section
variable {P : Program} {w : World} {K : PySem.W.Frag} {mg : Str → Option Value} {base : Heap} {C_InvalidBook f_InvalidBook : Addr} {C_InvalidCut f_InvalidCut : Addr}
abbrev st__law_draw : Stmt := top 32
theorem sc__law_draw : FnScope N__law_draw ["_law_script", "_law_salt"] (defScope st__law_draw) := ⟨rfl, rfl, rfl, by decide +kernel, rfl, by decide +kernel, by decide +kernel⟩
theorem w__law_draw (T : Tx P K mg C_InvalidBook f_InvalidBook C_InvalidCut f_InvalidCut)   {a : Addr} {d : FuncData} (F : L2.Fun K "_law_draw" "_law_draw" st__law_draw a d) (gl : mg "_law_draw" = some (.ref a)) (bi : Binds K d i__law_draw.ps []) : FnAt P w K mg base 1 i__law_draw a d :=
  def_at (k := 0) F sc__law_draw rfl (by decide) (by decide) gl bi fun cdv A outer s H E hr =>
    (ss_cons (by first | exact s_set sc__law_draw.nd rfl (by first | exact .inl rfl | exact .inr rfl) (r_lc (own := [("_law_cell", 4)]) rfl sc__law_draw.nd (i_seq (r_sl (r_var rfl (by first | exact .inl rfl | exact .inr (.inl rfl) | exact .inr (.inr rfl))) ro_none (ro_some r_int))) (blkOk_by rfl) (fun _ _ _ _ _ => (rG_nm sc__law_draw.nd rfl (by first | exact .inl rfl | exact .inr rfl))) (fun _ _ _ _ _ => rI_nil) (fun _ _ _ _ _ => (r_biB (b := .abs) rfl rfl T.n_abs (rA_cons (r_biT (b := .int) rfl rfl T.n_int (rA_cons (r_var rfl (by first | exact .inl rfl | exact .inr (.inl rfl) | exact .inr (.inr rfl))) rA_nil)) rA_nil)))) | exact s_setLc (own := [("_law_cell", 4)]) rfl sc__law_draw.nd rfl rfl rfl (i_seq (r_sl (r_var rfl (by first | exact .inl rfl | exact .inr (.inl rfl) | exact .inr (.inr rfl))) ro_none (ro_some r_int))) (blkOk_by rfl) (fun _ _ _ _ _ => (rG_nm sc__law_draw.nd rfl (by first | exact .inl rfl | exact .inr rfl))) (fun _ _ _ _ _ => rI_nil) (fun _ _ _ _ _ => (r_biB (b := .abs) rfl rfl T.n_abs (rA_cons (r_biT (b := .int) rfl rfl T.n_int (rA_cons (r_var rfl (by first | exact .inl rfl | exact .inr (.inl rfl) | exact .inr (.inr rfl))) rA_nil)) rA_nil))))
      (ss_cons (s_set sc__law_draw.nd rfl (by first | exact .inl rfl | exact .inr rfl) (r_bin r_int (r_bin r_int (r_var rfl (by first | exact .inl rfl | exact .inr (.inl rfl) | exact .inr (.inr rfl))))))
      (ss_cons (s_for (passes_of rfl) rfl (i_seq (r_frz rfl (by first | exact .inl rfl | exact .inr (.inl rfl) | exact .inr (.inr rfl)))) (rG_nm sc__law_draw.nd rfl (by first | exact .inl rfl | exact .inr rfl)) (ss_cons (s_set sc__law_draw.nd rfl (by first | exact .inl rfl | exact .inr rfl) (r_bin (r_biT (b := .int) rfl rfl T.n_int (rA_cons (r_bin (r_bin (r_bin (r_var rfl (by first | exact .inl rfl | exact .inr (.inl rfl) | exact .inr (.inr rfl))) r_int) (r_bin (r_var rfl (by first | exact .inl rfl | exact .inr (.inl rfl) | exact .inr (.inr rfl))) r_int)) r_int) rA_nil)) r_int))
      ss_nil))
      (ss_cons (s_ret (r_lst2 (rA_cons (r_rev (r_lc (own := [("_law_cell", 4)]) rfl sc__law_draw.nd (i_seq (r_var rfl (by first | exact .inl rfl | exact .inr (.inl rfl) | exact .inr (.inr rfl)))) (blkOk_by rfl) (fun _ _ _ _ _ => (rG_nm sc__law_draw.nd rfl (by first | exact .inl rfl | exact .inr rfl))) (fun _ _ _ _ _ => (rI_one (rt_cmp hr (r_var rfl (by first | exact .inl rfl | exact .inr (.inl rfl) | exact .inr (.inr rfl))) (r_bin r_int r_int)))) (fun _ _ _ _ _ => (r_frz rfl (by first | exact .inl rfl | exact .inr (.inl rfl) | exact .inr (.inr rfl)))))) (rA_cons (r_frz rfl (by first | exact .inl rfl | exact .inr (.inl rfl) | exact .inr (.inr rfl))) rA_nil))))
      ss_nil))))
abbrev st__law_any : Stmt := top 33
theorem sc__law_any : FnScope N__law_any ["_law_deal", "_law_bound"] (defScope st__law_any) := ⟨rfl, rfl, rfl, by decide +kernel, rfl, by decide +kernel, by decide +kernel⟩
theorem w__law_any (T : Tx P K mg C_InvalidBook f_InvalidBook C_InvalidCut f_InvalidCut)   {a : Addr} {d : FuncData} (F : L2.Fun K "_law_any" "_law_any" st__law_any a d) (gl : mg "_law_any" = some (.ref a)) (bi : Binds K d i__law_any.ps []) : FnAt P w K mg base 1 i__law_any a d :=
  def_at (k := 0) F sc__law_any rfl (by decide) (by decide) gl bi fun cdv A outer s H E hr =>
    (ss_cons (s_while (passes_of rfl) (rt_and (rw_and (rt_cmp hr (r_ix hr (r_var rfl (by first | exact .inl rfl | exact .inr (.inl rfl) | exact .inr (.inr rfl))) r_int) (r_lst rA_nil)) (rw_and1 (rt_cmp hr (r_ix hr (r_ix hr (r_var rfl (by first | exact .inl rfl | exact .inr (.inl rfl) | exact .inr (.inr rfl))) r_int) (r_neg r_int)) r_int)))) (ss_cons (s_expr (r_pop2 (pv_at rfl (by first | exact .inl rfl | exact .inr (.inl rfl) | exact .inr (.inr rfl))) r_int))
      ss_nil))
      (ss_cons (s_if (rt_cmp hr (r_ix hr (r_var rfl (by first | exact .inl rfl | exact .inr (.inl rfl) | exact .inr (.inr rfl))) r_int) (r_lst rA_nil)) (ss_cons (s_set sc__law_any.nd rfl (by first | exact .inl rfl | exact .inr rfl) (r_biT (b := .int) rfl rfl T.n_int (rA_cons (r_pop2 (pv_at rfl (by first | exact .inl rfl | exact .inr (.inl rfl) | exact .inr (.inr rfl))) r_int) rA_nil)))
      (ss_cons (s_app2 (pv_at rfl (by first | exact .inl rfl | exact .inr (.inl rfl) | exact .inr (.inr rfl))) r_int (rA_cons (r_bin (r_var rfl (by first | exact .inl rfl | exact .inr (.inl rfl) | exact .inr (.inr rfl))) (r_var rfl (by first | exact .inl rfl | exact .inr (.inl rfl) | exact .inr (.inr rfl)))) rA_nil))
      (ss_cons (s_ret (r_bin (r_var rfl (by first | exact .inl rfl | exact .inr (.inl rfl) | exact .inr (.inr rfl))) (r_var rfl (by first | exact .inl rfl | exact .inr (.inl rfl) | exact .inr (.inr rfl)))))
      ss_nil))) ss_nil)
      (ss_cons (s_setix hr (pv_at rfl (by first | exact .inl rfl | exact .inr (.inl rfl) | exact .inr (.inr rfl))) r_int (r_bin (r_biT (b := .int) rfl rfl T.n_int (rA_cons (r_bin (r_bin (r_ix hr (r_var rfl (by first | exact .inl rfl | exact .inr (.inl rfl) | exact .inr (.inr rfl))) r_int) r_int) r_int) rA_nil)) r_int))
      (ss_cons (s_ret (r_bin (r_biT (b := .int) rfl rfl T.n_int (rA_cons (r_bin (r_ix hr (r_var rfl (by first | exact .inl rfl | exact .inr (.inl rfl) | exact .inr (.inr rfl))) r_int) r_int) rA_nil)) (r_var rfl (by first | exact .inl rfl | exact .inr (.inl rfl) | exact .inr (.inr rfl)))))
      ss_nil))))
abbrev st__law_rows : Stmt := top 35
theorem sc__law_rows : FnScope N__law_rows ["_law_size", "_law_many"] (defScope st__law_rows) := ⟨rfl, rfl, rfl, by decide +kernel, rfl, by decide +kernel, by decide +kernel⟩
theorem w__law_rows (T : Tx P K mg C_InvalidBook f_InvalidBook C_InvalidCut f_InvalidCut)   {a : Addr} {d : FuncData} (F : L2.Fun K "_law_rows" "_law_rows" st__law_rows a d) (gl : mg "_law_rows" = some (.ref a)) (bi : Binds K d i__law_rows.ps []) : FnAt P w K mg base 1 i__law_rows a d :=
  def_at (k := 0) F sc__law_rows rfl (by decide) (by decide) gl bi fun cdv A outer s H E hr =>
    (ss_cons (s_set sc__law_rows.nd rfl (by first | exact .inl rfl | exact .inr rfl) (r_lst (rA_cons (r_tup rA_nil) rA_nil)))
      (ss_cons (s_for (passes_of rfl) rfl (i_rng1 rfl T.n_range (rA_cons (r_var rfl (by first | exact .inl rfl | exact .inr (.inl rfl) | exact .inr (.inr rfl))) rA_nil)) (rG_nm sc__law_rows.nd rfl (by first | exact .inl rfl | exact .inr rfl)) (ss_cons (s_set sc__law_rows.nd rfl (by first | exact .inl rfl | exact .inr rfl) (r_lst rA_nil))
      (ss_cons (s_for (passes_of rfl) rfl (i_seq (r_frz rfl (by first | exact .inl rfl | exact .inr (.inl rfl) | exact .inr (.inr rfl)))) (rG_nm sc__law_rows.nd rfl (by first | exact .inl rfl | exact .inr rfl)) (ss_cons (s_set sc__law_rows.nd rfl (by first | exact .inl rfl | exact .inr rfl) (r_bin (r_var rfl (by first | exact .inl rfl | exact .inr (.inl rfl) | exact .inr (.inr rfl))) (r_lc (own := [("_law_value", 6)]) rfl sc__law_rows.nd (i_rng1 rfl T.n_range (rA_cons (r_var rfl (by first | exact .inl rfl | exact .inr (.inl rfl) | exact .inr (.inr rfl))) rA_nil)) (blkOk_by rfl) (fun _ _ _ _ _ => (rG_nm sc__law_rows.nd rfl (by first | exact .inl rfl | exact .inr rfl))) (fun _ _ _ _ _ => rI_nil) (fun _ _ _ _ _ => (r_bin (r_var rfl (by first | exact .inl rfl | exact .inr (.inl rfl) | exact .inr (.inr rfl))) (r_tup (rA_cons (r_frz rfl (by first | exact .inl rfl | exact .inr (.inl rfl) | exact .inr (.inr rfl))) rA_nil)))))))
      ss_nil))
      (ss_cons (s_set sc__law_rows.nd rfl (by first | exact .inl rfl | exact .inr rfl) (r_frz rfl (by first | exact .inl rfl | exact .inr (.inl rfl) | exact .inr (.inr rfl))))
      ss_nil))))
      (ss_cons (s_ret (r_mv rfl (by first | exact .inl rfl | exact .inr (.inl rfl) | exact .inr (.inr rfl))))
      ss_nil)))
abbrev st__law_operation : Stmt := top 36
theorem sc__law_operation : FnScope N__law_operation ["_law_deal", "_law_size"] (defScope st__law_operation) := ⟨rfl, rfl, rfl, by decide +kernel, rfl, by decide +kernel, by decide +kernel⟩
theorem w__law_operation (T : Tx P K mg C_InvalidBook f_InvalidBook C_InvalidCut f_InvalidCut) {a__law_rows : Addr} {d__law_rows : FuncData} (F__law_rows : FnAt P w K mg base 1 i__law_rows a__law_rows d__law_rows) {a__law_any : Addr} {d__law_any : FuncData} (F__law_any : FnAt P w K mg base 1 i__law_any a__law_any d__law_any)  {a : Addr} {d : FuncData} (F : L2.Fun K "_law_operation" "_law_operation" st__law_operation a d) (gl : mg "_law_operation" = some (.ref a)) (bi : Binds K d i__law_operation.ps []) : FnAt P w K mg base 2 i__law_operation a d :=
  def_at (k := 1) F sc__law_operation rfl (by decide) (by decide) gl bi fun cdv A outer s H E hr =>
    (ss_cons (by first | exact s_par rfl sc__law_operation.nd rfl rfl (by decide) rfl rfl (rA_cons (r_bin r_int (r_call F__law_any (hr.mono (by decide)) (takes_of rfl rfl rfl rfl) rfl (pa_cons (pv_at rfl (by first | exact .inl rfl | exact .inr (.inl rfl) | exact .inr (.inr rfl))) (rA_cons r_int rA_nil)))) (rA_cons (r_call F__law_any (hr.mono (by decide)) (takes_of rfl rfl rfl rfl) rfl (pa_cons (pv_at rfl (by first | exact .inl rfl | exact .inr (.inl rfl) | exact .inr (.inr rfl))) (rA_cons r_int rA_nil))) rA_nil)) rfl | exact s_parT rfl (rA_cons (r_bin r_int (r_call F__law_any (hr.mono (by decide)) (takes_of rfl rfl rfl rfl) rfl (pa_cons (pv_at rfl (by first | exact .inl rfl | exact .inr (.inl rfl) | exact .inr (.inr rfl))) (rA_cons r_int rA_nil)))) (rA_cons (r_call F__law_any (hr.mono (by decide)) (takes_of rfl rfl rfl rfl) rfl (pa_cons (pv_at rfl (by first | exact .inl rfl | exact .inr (.inl rfl) | exact .inr (.inr rfl))) (rA_cons r_int rA_nil))) rA_nil)) (rN_cons sc__law_operation.nd rfl (by first | exact .inl rfl | exact .inr rfl) (rN_cons sc__law_operation.nd rfl (by first | exact .inl rfl | exact .inr rfl) rN_nil)))
      (ss_cons (s_set sc__law_operation.nd rfl (by first | exact .inl rfl | exact .inr rfl) (r_lst rA_nil))
      (ss_cons (s_for (passes_of rfl) rfl (i_seq (r_call F__law_rows (hr.mono (by decide)) (takes_of rfl rfl rfl rfl) rfl (rA_cons (r_frz rfl (by first | exact .inl rfl | exact .inr (.inl rfl) | exact .inr (.inr rfl))) (rA_cons (r_frz rfl (by first | exact .inl rfl | exact .inr (.inl rfl) | exact .inr (.inr rfl))) rA_nil)))) (rG_nm sc__law_operation.nd rfl (by first | exact .inl rfl | exact .inr rfl)) (ss_cons (s_if (rt_cmp hr (r_var rfl (by first | exact .inl rfl | exact .inr (.inl rfl) | exact .inr (.inr rfl))) r_int) (ss_cons (s_app (pv_at rfl (by first | exact .inl rfl | exact .inr (.inl rfl) | exact .inr (.inr rfl))) (rA_cons (r_call F__law_any (hr.mono (by decide)) (takes_of rfl rfl rfl rfl) rfl (pa_cons (pv_at rfl (by first | exact .inl rfl | exact .inr (.inl rfl) | exact .inr (.inr rfl))) (rA_cons (r_frz rfl (by first | exact .inl rfl | exact .inr (.inl rfl) | exact .inr (.inr rfl))) rA_nil))) rA_nil))
      ss_nil) (ss_cons (s_if (rt_cmp hr (r_var rfl (by first | exact .inl rfl | exact .inr (.inl rfl) | exact .inr (.inr rfl))) r_int) (ss_cons (s_app (pv_at rfl (by first | exact .inl rfl | exact .inr (.inl rfl) | exact .inr (.inr rfl))) (rA_cons (r_biB (b := .max) rfl rfl T.n_max (rA_cons (r_var rfl (by first | exact .inl rfl | exact .inr (.inl rfl) | exact .inr (.inr rfl))) rA_nil)) rA_nil))
      ss_nil) (ss_cons (s_if (rt_cmp hr (r_var rfl (by first | exact .inl rfl | exact .inr (.inl rfl) | exact .inr (.inr rfl))) r_int) (ss_cons (s_app (pv_at rfl (by first | exact .inl rfl | exact .inr (.inl rfl) | exact .inr (.inr rfl))) (rA_cons (r_ite (rt_cmp hr (r_call F__law_any (hr.mono (by decide)) (takes_of rfl rfl rfl rfl) rfl (pa_cons (pv_at rfl (by first | exact .inl rfl | exact .inr (.inl rfl) | exact .inr (.inr rfl))) (rA_cons r_int rA_nil))) r_int) (r_ix hr (r_var rfl (by first | exact .inl rfl | exact .inr (.inl rfl) | exact .inr (.inr rfl))) r_int) (r_biB (b := .min) rfl rfl T.n_min (rA_cons (r_var rfl (by first | exact .inl rfl | exact .inr (.inl rfl) | exact .inr (.inr rfl))) rA_nil))) rA_nil))
      ss_nil) (ss_cons (s_if (rt_cmp hr (r_var rfl (by first | exact .inl rfl | exact .inr (.inl rfl) | exact .inr (.inr rfl))) r_int) (ss_cons (s_app (pv_at rfl (by first | exact .inl rfl | exact .inr (.inl rfl) | exact .inr (.inr rfl))) (rA_cons (r_bin (r_bin (r_ix hr (r_var rfl (by first | exact .inl rfl | exact .inr (.inl rfl) | exact .inr (.inr rfl))) r_int) r_int) (r_var rfl (by first | exact .inl rfl | exact .inr (.inl rfl) | exact .inr (.inr rfl)))) rA_nil))
      ss_nil) (ss_cons (s_app (pv_at rfl (by first | exact .inl rfl | exact .inr (.inl rfl) | exact .inr (.inr rfl))) (rA_cons (r_biB (b := .min) rfl rfl T.n_min (rA_cons (r_var rfl (by first | exact .inl rfl | exact .inr (.inl rfl) | exact .inr (.inr rfl))) rA_nil)) rA_nil))
      ss_nil))
      ss_nil))
      ss_nil))
      ss_nil))
      ss_nil))
      (ss_cons (s_ret (r_tup (rA_cons (r_frz rfl (by first | exact .inl rfl | exact .inr (.inl rfl) | exact .inr (.inr rfl))) (rA_cons (r_biT (b := .tuple) rfl rfl T.n_tuple (rA_cons (r_var rfl (by first | exact .inl rfl | exact .inr (.inl rfl) | exact .inr (.inr rfl))) rA_nil)) rA_nil))))
      ss_nil))))
abbrev st__law_book : Stmt := top 37
theorem sc__law_book : FnScope N__law_book ["_law_deal", "_law_most"] (defScope st__law_book) := ⟨rfl, rfl, rfl, by decide +kernel, rfl, by decide +kernel, by decide +kernel⟩
theorem w__law_book (T : Tx P K mg C_InvalidBook f_InvalidBook C_InvalidCut f_InvalidCut) {a__law_any : Addr} {d__law_any : FuncData} (F__law_any : FnAt P w K mg base 1 i__law_any a__law_any d__law_any) {a__law_operation : Addr} {d__law_operation : FuncData} (F__law_operation : FnAt P w K mg base 2 i__law_operation a__law_operation d__law_operation)  {a : Addr} {d : FuncData} (F : L2.Fun K "_law_book" "_law_book" st__law_book a d) (gl : mg "_law_book" = some (.ref a)) (bi : Binds K d i__law_book.ps []) : FnAt P w K mg base 3 i__law_book a d :=
  def_at (k := 2) F sc__law_book rfl (by decide) (by decide) gl bi fun cdv A outer s H E hr =>
    (ss_cons (s_set sc__law_book.nd rfl (by first | exact .inl rfl | exact .inr rfl) (r_bin r_int (r_call F__law_any (hr.mono (by decide)) (takes_of rfl rfl rfl rfl) rfl (pa_cons (pv_at rfl (by first | exact .inl rfl | exact .inr (.inl rfl) | exact .inr (.inr rfl))) (rA_cons (r_bin (r_var rfl (by first | exact .inl rfl | exact .inr (.inl rfl) | exact .inr (.inr rfl))) r_int) rA_nil)))))
      (ss_cons (s_ret (r_tup (rA_cons (r_frz rfl (by first | exact .inl rfl | exact .inr (.inl rfl) | exact .inr (.inr rfl))) (rA_cons (r_biT (b := .tuple) rfl rfl T.n_tuple (rA_cons (r_lc (own := [("_law_turn", 3)]) rfl sc__law_book.nd (i_rng1 rfl T.n_range (rA_cons (r_bin r_int (r_call F__law_any (hr.mono (by decide)) (takes_of rfl rfl rfl rfl) rfl (pa_cons (pv_at rfl (by first | exact .inl rfl | exact .inr (.inl rfl) | exact .inr (.inr rfl))) (rA_cons r_int rA_nil)))) rA_nil)) (blkOk_by rfl) (fun _ _ _ _ _ => (rG_nm sc__law_book.nd rfl (by first | exact .inl rfl | exact .inr rfl))) (fun _ _ _ _ _ => rI_nil) (fun _ _ _ _ _ => (r_call F__law_operation (hr.mono (by decide)) takes_none5 rfl (pa_cons (pv_at rfl (by first | exact .inl rfl | exact .inr (.inl rfl) | exact .inr (.inr rfl))) (rA_cons (r_frz rfl (by first | exact .inl rfl | exact .inr (.inl rfl) | exact .inr (.inr rfl))) rA_nil))))) rA_nil)) rA_nil))))
      ss_nil))
abbrev st__law_of : Stmt := top 34
theorem sc__law_of : FnScope N__law_of ["_law_deal", "_law_some"] (defScope st__law_of) := ⟨rfl, rfl, rfl, by decide +kernel, rfl, by decide +kernel, by decide +kernel⟩
theorem w__law_of (T : Tx P K mg C_InvalidBook f_InvalidBook C_InvalidCut f_InvalidCut) {a__law_any : Addr} {d__law_any : FuncData} (F__law_any : FnAt P w K mg base 1 i__law_any a__law_any d__law_any)  {a : Addr} {d : FuncData} (F : L2.Fun K "_law_of" "_law_of" st__law_of a d) (gl : mg "_law_of" = some (.ref a)) (bi : Binds K d i__law_of.ps []) : FnAt P w K mg base 2 i__law_of a d :=
  def_at (k := 1) F sc__law_of rfl (by decide) (by decide) gl bi fun cdv A outer s H E hr =>
    (ss_cons (s_ret (r_ix hr (r_var rfl (by first | exact .inl rfl | exact .inr (.inl rfl) | exact .inr (.inr rfl))) (r_call F__law_any (hr.mono (by decide)) (takes_of rfl rfl rfl rfl) rfl (pa_cons (pv_at rfl (by first | exact .inl rfl | exact .inr (.inl rfl) | exact .inr (.inr rfl))) (rA_cons (r_biB (b := .len) rfl rfl T.n_len (rA_cons (r_var rfl (by first | exact .inl rfl | exact .inr (.inl rfl) | exact .inr (.inr rfl))) rA_nil)) rA_nil)))))
      ss_nil)
abbrev st__law_cut : Stmt := top 38
theorem sc__law_cut : FnScope N__law_cut ["_law_deal", "_law_book_here", "_law_most", "_law_whole"] (defScope st__law_cut) := ⟨rfl, rfl, rfl, by decide +kernel, rfl, by decide +kernel, by decide +kernel⟩
theorem w__law_cut (T : Tx P K mg C_InvalidBook f_InvalidBook C_InvalidCut f_InvalidCut) {a__law_of : Addr} {d__law_of : FuncData} (F__law_of : FnAt P w K mg base 2 i__law_of a__law_of d__law_of) {a__law_any : Addr} {d__law_any : FuncData} (F__law_any : FnAt P w K mg base 1 i__law_any a__law_any d__law_any)  {a : Addr} {d : FuncData} (F : L2.Fun K "_law_cut" "_law_cut" st__law_cut a d) (gl : mg "_law_cut" = some (.ref a)) (bi : Binds K d i__law_cut.ps []) : FnAt P w K mg base 3 i__law_cut a d :=
  def_at (k := 2) F sc__law_cut rfl (by decide) (by decide) gl bi fun cdv A outer s H E hr =>
    (ss_cons (by first | exact s_par3 rfl sc__law_cut.nd rfl rfl rfl (by decide) (by decide) (by decide) rfl rfl rfl (rA_cons (r_ix hr (r_var rfl (by first | exact .inl rfl | exact .inr (.inl rfl) | exact .inr (.inr rfl))) r_int) (rA_cons (r_lst rA_nil) (rA_cons (r_lst rA_nil) rA_nil))) rfl | exact s_parT rfl (rA_cons (r_ix hr (r_var rfl (by first | exact .inl rfl | exact .inr (.inl rfl) | exact .inr (.inr rfl))) r_int) (rA_cons (r_lst rA_nil) (rA_cons (r_lst rA_nil) rA_nil))) (rN_cons sc__law_cut.nd rfl (by first | exact .inl rfl | exact .inr rfl) (rN_cons sc__law_cut.nd rfl (by first | exact .inl rfl | exact .inr rfl) (rN_cons sc__law_cut.nd rfl (by first | exact .inl rfl | exact .inr rfl) rN_nil))))
      (ss_cons (s_for (passes_of rfl) rfl (i_rng1 rfl T.n_range (rA_cons (r_bin r_int (r_call F__law_any (hr.mono (by decide)) (takes_of rfl rfl rfl rfl) rfl (pa_cons (pv_at rfl (by first | exact .inl rfl | exact .inr (.inl rfl) | exact .inr (.inr rfl))) (rA_cons r_int rA_nil)))) rA_nil)) (rG_nm sc__law_cut.nd rfl (by first | exact .inl rfl | exact .inr rfl)) (ss_cons (by first | exact s_set sc__law_cut.nd rfl (by first | exact .inl rfl | exact .inr rfl) (r_lc (own := [("_law_value", 15)]) rfl sc__law_cut.nd (i_rng1 rfl T.n_range (rA_cons (r_var rfl (by first | exact .inl rfl | exact .inr (.inl rfl) | exact .inr (.inr rfl))) rA_nil)) (blkOk_by rfl) (fun _ _ _ _ _ => (rG_nm sc__law_cut.nd rfl (by first | exact .inl rfl | exact .inr rfl))) (fun _ _ _ _ _ => (rI_one (rt_cmp hr (r_call F__law_any (hr.mono (by decide)) takes_none5 rfl (pa_cons (pv_at rfl (by first | exact .inl rfl | exact .inr (.inl rfl) | exact .inr (.inr rfl))) (rA_cons r_int rA_nil))) r_int))) (fun _ _ _ _ _ => (r_frz rfl (by first | exact .inl rfl | exact .inr (.inl rfl) | exact .inr (.inr rfl))))) | exact s_setLc (own := [("_law_value", 15)]) rfl sc__law_cut.nd rfl rfl rfl (i_rng1 rfl T.n_range (rA_cons (r_var rfl (by first | exact .inl rfl | exact .inr (.inl rfl) | exact .inr (.inr rfl))) rA_nil)) (blkOk_by rfl) (fun _ _ _ _ _ => (rG_nm sc__law_cut.nd rfl (by first | exact .inl rfl | exact .inr rfl))) (fun _ _ _ _ _ => (rI_one (rt_cmp hr (r_call F__law_any (hr.mono (by decide)) takes_none5 rfl (pa_cons (pv_at rfl (by first | exact .inl rfl | exact .inr (.inl rfl) | exact .inr (.inr rfl))) (rA_cons r_int rA_nil))) r_int))) (fun _ _ _ _ _ => (r_frz rfl (by first | exact .inl rfl | exact .inr (.inl rfl) | exact .inr (.inr rfl)))))
      (ss_cons (s_app (pv_at rfl (by first | exact .inl rfl | exact .inr (.inl rfl) | exact .inr (.inr rfl))) (rA_cons (r_ite (rt_or (rw_or (rt_val (r_var rfl (by first | exact .inl rfl | exact .inr (.inl rfl) | exact .inr (.inr rfl)))) (rw_or1 (rt_cmp hr (r_var rfl (by first | exact .inl rfl | exact .inr (.inl rfl) | exact .inr (.inr rfl))) (r_lst rA_nil))))) (r_tupRg rfl rfl T.n_tuple rfl T.n_range (r_var rfl (by first | exact .inl rfl | exact .inr (.inl rfl) | exact .inr (.inr rfl)))) (r_biT (b := .tuple) rfl rfl T.n_tuple (rA_cons (r_var rfl (by first | exact .inl rfl | exact .inr (.inl rfl) | exact .inr (.inr rfl))) rA_nil))) rA_nil))
      ss_nil)))
      (ss_cons (s_for (passes_of rfl) rfl (i_rng1 rfl T.n_range (rA_cons (r_bin r_int (r_call F__law_any (hr.mono (by decide)) (takes_of rfl rfl rfl rfl) rfl (pa_cons (pv_at rfl (by first | exact .inl rfl | exact .inr (.inl rfl) | exact .inr (.inr rfl))) (rA_cons (r_frz rfl (by first | exact .inl rfl | exact .inr (.inl rfl) | exact .inr (.inr rfl))) rA_nil)))) rA_nil)) (rG_nm sc__law_cut.nd rfl (by first | exact .inl rfl | exact .inr rfl)) (ss_cons (by first | exact s_par rfl sc__law_cut.nd rfl rfl (by decide) rfl rfl (rA_cons (r_call F__law_any (hr.mono (by decide)) (takes_of rfl rfl rfl rfl) rfl (pa_cons (pv_at rfl (by first | exact .inl rfl | exact .inr (.inl rfl) | exact .inr (.inr rfl))) (rA_cons (r_biB (b := .len) rfl rfl T.n_len (rA_cons (r_ix hr (r_var rfl (by first | exact .inl rfl | exact .inr (.inl rfl) | exact .inr (.inr rfl))) r_int) rA_nil)) rA_nil))) (rA_cons (r_lst rA_nil) rA_nil)) rfl | exact s_parT rfl (rA_cons (r_call F__law_any (hr.mono (by decide)) (takes_of rfl rfl rfl rfl) rfl (pa_cons (pv_at rfl (by first | exact .inl rfl | exact .inr (.inl rfl) | exact .inr (.inr rfl))) (rA_cons (r_biB (b := .len) rfl rfl T.n_len (rA_cons (r_ix hr (r_var rfl (by first | exact .inl rfl | exact .inr (.inl rfl) | exact .inr (.inr rfl))) r_int) rA_nil)) rA_nil))) (rA_cons (r_lst rA_nil) rA_nil)) (rN_cons sc__law_cut.nd rfl (by first | exact .inl rfl | exact .inr rfl) (rN_cons sc__law_cut.nd rfl (by first | exact .inl rfl | exact .inr rfl) rN_nil)))
      (ss_cons (s_for (passes_of rfl) rfl (i_rng1 rfl T.n_range (rA_cons (r_ix hr (r_ix hr (r_ix hr (r_var rfl (by first | exact .inl rfl | exact .inr (.inl rfl) | exact .inr (.inr rfl))) r_int) (r_var rfl (by first | exact .inl rfl | exact .inr (.inl rfl) | exact .inr (.inr rfl)))) r_int) rA_nil)) (rG_nm sc__law_cut.nd rfl (by first | exact .inl rfl | exact .inr rfl)) (ss_cons (s_set sc__law_cut.nd rfl (by first | exact .inl rfl | exact .inr rfl) (r_call F__law_any (hr.mono (by decide)) (takes_of rfl rfl rfl rfl) rfl (pa_cons (pv_at rfl (by first | exact .inl rfl | exact .inr (.inl rfl) | exact .inr (.inr rfl))) (rA_cons r_int rA_nil))))
      (ss_cons (s_if (rt_cmp hr (r_var rfl (by first | exact .inl rfl | exact .inr (.inl rfl) | exact .inr (.inr rfl))) r_int) (ss_cons (s_app (pv_at rfl (by first | exact .inl rfl | exact .inr (.inl rfl) | exact .inr (.inr rfl))) (rA_cons (r_tup (rA_cons r_str (rA_cons (r_call F__law_any (hr.mono (by decide)) (takes_of rfl rfl rfl rfl) rfl (pa_cons (pv_at rfl (by first | exact .inl rfl | exact .inr (.inl rfl) | exact .inr (.inr rfl))) (rA_cons (r_frz rfl (by first | exact .inl rfl | exact .inr (.inl rfl) | exact .inr (.inr rfl))) rA_nil))) rA_nil))) rA_nil))
      ss_nil) (ss_cons (s_if (rt_or (rw_or (rt_cmp hr (r_var rfl (by first | exact .inl rfl | exact .inr (.inl rfl) | exact .inr (.inr rfl))) r_int) (rw_or1 (rt_cmp hr (r_var rfl (by first | exact .inl rfl | exact .inr (.inl rfl) | exact .inr (.inr rfl))) r_int)))) (ss_cons (s_app (pv_at rfl (by first | exact .inl rfl | exact .inr (.inl rfl) | exact .inr (.inr rfl))) (rA_cons (r_tup (rA_cons r_str (rA_cons (r_call F__law_any (hr.mono (by decide)) (takes_of rfl rfl rfl rfl) rfl (pa_cons (pv_at rfl (by first | exact .inl rfl | exact .inr (.inl rfl) | exact .inr (.inr rfl))) (rA_cons (r_biB (b := .len) rfl rfl T.n_len (rA_cons (r_var rfl (by first | exact .inl rfl | exact .inr (.inl rfl) | exact .inr (.inr rfl))) rA_nil)) rA_nil))) rA_nil))) rA_nil))
      ss_nil) (ss_cons (s_app (pv_at rfl (by first | exact .inl rfl | exact .inr (.inl rfl) | exact .inr (.inr rfl))) (rA_cons (r_tup (rA_cons r_str (rA_cons (r_call F__law_any (hr.mono (by decide)) (takes_of rfl rfl rfl rfl) rfl (pa_cons (pv_at rfl (by first | exact .inl rfl | exact .inr (.inl rfl) | exact .inr (.inr rfl))) (rA_cons (r_frz rfl (by first | exact .inl rfl | exact .inr (.inl rfl) | exact .inr (.inr rfl))) rA_nil))) rA_nil))) rA_nil))
      ss_nil))
      ss_nil))
      ss_nil)))
      (ss_cons (s_app (pv_at rfl (by first | exact .inl rfl | exact .inr (.inl rfl) | exact .inr (.inr rfl))) (rA_cons (r_tup (rA_cons (r_frz rfl (by first | exact .inl rfl | exact .inr (.inl rfl) | exact .inr (.inr rfl))) (rA_cons (r_biT (b := .tuple) rfl rfl T.n_tuple (rA_cons (r_var rfl (by first | exact .inl rfl | exact .inr (.inl rfl) | exact .inr (.inr rfl))) rA_nil)) rA_nil))) rA_nil))
      ss_nil))))
      (ss_cons (s_set sc__law_cut.nd rfl (by first | exact .inl rfl | exact .inr rfl) (r_bin (r_tup (rA_cons (r_tup (rA_cons r_str (rA_cons (r_bin (r_biB (b := .len) rfl rfl T.n_len (rA_cons (r_var rfl (by first | exact .inl rfl | exact .inr (.inl rfl) | exact .inr (.inr rfl))) rA_nil)) r_int) rA_nil))) rA_nil)) (r_call F__law_of (hr.mono (by decide)) (takes_of rfl rfl rfl rfl) rfl (pa_cons (pv_at rfl (by first | exact .inl rfl | exact .inr (.inl rfl) | exact .inr (.inr rfl))) (rA_cons (r_lst (rA_cons (r_tup rA_nil) (rA_cons (r_tup (rA_cons (r_tup (rA_cons r_str (rA_cons (r_call F__law_any (hr.mono (by decide)) (takes_of rfl rfl rfl rfl) rfl (pa_cons (pv_at rfl (by first | exact .inl rfl | exact .inr (.inl rfl) | exact .inr (.inr rfl))) (rA_cons (r_biB (b := .len) rfl rfl T.n_len (rA_cons (r_var rfl (by first | exact .inl rfl | exact .inr (.inl rfl) | exact .inr (.inr rfl))) rA_nil)) rA_nil))) rA_nil))) rA_nil)) (rA_cons (r_tup (rA_cons (r_tup (rA_cons r_str (rA_cons r_int rA_nil))) rA_nil)) rA_nil)))) rA_nil)))))
      (ss_cons (s_ret (r_tup (rA_cons (r_biT (b := .tuple) rfl rfl T.n_tuple (rA_cons (r_var rfl (by first | exact .inl rfl | exact .inr (.inl rfl) | exact .inr (.inr rfl))) rA_nil)) (rA_cons (r_biT (b := .tuple) rfl rfl T.n_tuple (rA_cons (r_var rfl (by first | exact .inl rfl | exact .inr (.inl rfl) | exact .inr (.inr rfl))) rA_nil)) (rA_cons (r_frz rfl (by first | exact .inl rfl | exact .inr (.inl rfl) | exact .inr (.inr rfl))) rA_nil)))))
      ss_nil)))))
abbrev st_is_sequence : Stmt := top 9
theorem sc_is_sequence : FnScope N_is_sequence ["value"] (defScope st_is_sequence) := ⟨rfl, rfl, rfl, by decide +kernel, rfl, by decide +kernel, by decide +kernel⟩
theorem w_is_sequence (T : Tx P K mg C_InvalidBook f_InvalidBook C_InvalidCut f_InvalidCut)   {a : Addr} {d : FuncData} (F : L2.Fun K "is_sequence" "is_sequence" st_is_sequence a d) (gl : mg "is_sequence" = some (.ref a)) (bi : Binds K d i_is_sequence.ps []) : FnAt P w K mg base 1 i_is_sequence a d :=
  def_at (k := 0) F sc_is_sequence rfl (by decide) (by decide) gl bi fun cdv A outer s H E hr =>
    (ss_cons (s_ret (r_isiT rfl T.n_isinstance (r_var rfl (by first | exact .inl rfl | exact .inr (.inl rfl) | exact .inr (.inr rfl))) (rTy_cons (t := .list) (r_ty rfl T.n_list) (rTy_cons (t := .tuple) (r_ty rfl T.n_tuple) rTy_nil))))
      ss_nil)
abbrev st_is_pair : Stmt := top 10
theorem sc_is_pair : FnScope N_is_pair ["value"] (defScope st_is_pair) := ⟨rfl, rfl, rfl, by decide +kernel, rfl, by decide +kernel, by decide +kernel⟩
theorem w_is_pair (T : Tx P K mg C_InvalidBook f_InvalidBook C_InvalidCut f_InvalidCut) {a_is_sequence : Addr} {d_is_sequence : FuncData} (F_is_sequence : FnAt P w K mg base 1 i_is_sequence a_is_sequence d_is_sequence)  {a : Addr} {d : FuncData} (F : L2.Fun K "is_pair" "is_pair" st_is_pair a d) (gl : mg "is_pair" = some (.ref a)) (bi : Binds K d i_is_pair.ps []) : FnAt P w K mg base 2 i_is_pair a d :=
  def_at (k := 1) F sc_is_pair rfl (by decide) (by decide) gl bi fun cdv A outer s H E hr =>
    (ss_cons (s_ret (r_and (r_call F_is_sequence (hr.mono (by decide)) (takes_of rfl rfl rfl rfl) rfl (rA_cons (r_frz rfl (by first | exact .inl rfl | exact .inr (.inl rfl) | exact .inr (.inr rfl))) rA_nil)) (r_and1 (r_cmp hr (r_biB (b := .len) rfl rfl T.n_len (rA_cons (r_var rfl (by first | exact .inl rfl | exact .inr (.inl rfl) | exact .inr (.inr rfl))) rA_nil)) r_int))))
      ss_nil)
abbrev st_is_integer : Stmt := top 5
theorem sc_is_integer : FnScope N_is_integer ["value"] (defScope st_is_integer) := ⟨rfl, rfl, rfl, by decide +kernel, rfl, by decide +kernel, by decide +kernel⟩
theorem w_is_integer (T : Tx P K mg C_InvalidBook f_InvalidBook C_InvalidCut f_InvalidCut)   {a : Addr} {d : FuncData} (F : L2.Fun K "is_integer" "is_integer" st_is_integer a d) (gl : mg "is_integer" = some (.ref a)) (bi : Binds K d i_is_integer.ps []) : FnAt P w K mg base 1 i_is_integer a d :=
  def_at (k := 0) F sc_is_integer rfl (by decide) (by decide) gl bi fun cdv A outer s H E hr =>
    (ss_cons (s_ret (r_and (r_isi (t := .int) rfl T.n_isinstance (r_var rfl (by first | exact .inl rfl | exact .inr (.inl rfl) | exact .inr (.inr rfl))) (r_ty rfl T.n_int)) (r_and1 (r_not (r_isi (t := .bool) rfl T.n_isinstance (r_var rfl (by first | exact .inl rfl | exact .inr (.inl rfl) | exact .inr (.inr rfl))) (r_ty rfl T.n_bool))))))
      ss_nil)
abbrev st_is_number : Stmt := top 6
theorem sc_is_number : FnScope N_is_number ["value"] (defScope st_is_number) := ⟨rfl, rfl, rfl, by decide +kernel, rfl, by decide +kernel, by decide +kernel⟩
theorem w_is_number (T : Tx P K mg C_InvalidBook f_InvalidBook C_InvalidCut f_InvalidCut) {a_is_integer : Addr} {d_is_integer : FuncData} (F_is_integer : FnAt P w K mg base 1 i_is_integer a_is_integer d_is_integer)  {a : Addr} {d : FuncData} (F : L2.Fun K "is_number" "is_number" st_is_number a d) (gl : mg "is_number" = some (.ref a)) (bi : Binds K d i_is_number.ps []) : FnAt P w K mg base 2 i_is_number a d :=
  def_at (k := 1) F sc_is_number rfl (by decide) (by decide) gl bi fun cdv A outer s H E hr =>
    (ss_cons (s_ret (r_and (r_call F_is_integer (hr.mono (by decide)) (takes_of rfl rfl rfl rfl) rfl (rA_cons (r_frz rfl (by first | exact .inl rfl | exact .inr (.inl rfl) | exact .inr (.inr rfl))) rA_nil)) (r_and1 (r_cmp hr (r_var rfl (by first | exact .inl rfl | exact .inr (.inl rfl) | exact .inr (.inr rfl))) r_int))))
      ss_nil)
abbrev st_is_below : Stmt := top 7
theorem sc_is_below : FnScope N_is_below ["value", "many"] (defScope st_is_below) := ⟨rfl, rfl, rfl, by decide +kernel, rfl, by decide +kernel, by decide +kernel⟩
theorem w_is_below (T : Tx P K mg C_InvalidBook f_InvalidBook C_InvalidCut f_InvalidCut) {a_is_number : Addr} {d_is_number : FuncData} (F_is_number : FnAt P w K mg base 2 i_is_number a_is_number d_is_number)  {a : Addr} {d : FuncData} (F : L2.Fun K "is_below" "is_below" st_is_below a d) (gl : mg "is_below" = some (.ref a)) (bi : Binds K d i_is_below.ps []) : FnAt P w K mg base 3 i_is_below a d :=
  def_at (k := 2) F sc_is_below rfl (by decide) (by decide) gl bi fun cdv A outer s H E hr =>
    (ss_cons (s_ret (r_and (r_call F_is_number (hr.mono (by decide)) (takes_of rfl rfl rfl rfl) rfl (rA_cons (r_frz rfl (by first | exact .inl rfl | exact .inr (.inl rfl) | exact .inr (.inr rfl))) rA_nil)) (r_and1 (r_cmp hr (r_var rfl (by first | exact .inl rfl | exact .inr (.inl rfl) | exact .inr (.inr rfl))) (r_var rfl (by first | exact .inl rfl | exact .inr (.inl rfl) | exact .inr (.inr rfl)))))))
      ss_nil)
abbrev st_power_of : Stmt := top 11
theorem sc_power_of : FnScope N_power_of ["base", "many"] (defScope st_power_of) := ⟨rfl, rfl, rfl, by decide +kernel, rfl, by decide +kernel, by decide +kernel⟩
theorem w_power_of (T : Tx P K mg C_InvalidBook f_InvalidBook C_InvalidCut f_InvalidCut)   {a : Addr} {d : FuncData} (F : L2.Fun K "power_of" "power_of" st_power_of a d) (gl : mg "power_of" = some (.ref a)) (bi : Binds K d i_power_of.ps []) : FnAt P w K mg base 1 i_power_of a d :=
  def_at (k := 0) F sc_power_of rfl (by decide) (by decide) gl bi fun cdv A outer s H E hr =>
    (ss_cons (s_set sc_power_of.nd rfl (by first | exact .inl rfl | exact .inr rfl) r_int)
      (ss_cons (s_for (passes_of rfl) rfl (i_rng1 rfl T.n_range (rA_cons (r_var rfl (by first | exact .inl rfl | exact .inr (.inl rfl) | exact .inr (.inr rfl))) rA_nil)) (rG_nm sc_power_of.nd rfl (by first | exact .inl rfl | exact .inr rfl)) (ss_cons (s_aug sc_power_of.nd rfl (by first | exact .inl rfl | exact .inr rfl) (r_var rfl (by first | exact .inl rfl | exact .inr (.inl rfl) | exact .inr (.inr rfl))))
      ss_nil))
      (ss_cons (s_ret (r_mv rfl (by first | exact .inl rfl | exact .inr (.inl rfl) | exact .inr (.inr rfl))))
      ss_nil)))
abbrev st_is_table : Stmt := top 16
theorem sc_is_table : FnScope N_is_table ["size", "value", "most"] (defScope st_is_table) := ⟨rfl, rfl, rfl, by decide +kernel, rfl, by decide +kernel, by decide +kernel⟩
theorem w_is_table (T : Tx P K mg C_InvalidBook f_InvalidBook C_InvalidCut f_InvalidCut) {a_is_pair : Addr} {d_is_pair : FuncData} (F_is_pair : FnAt P w K mg base 2 i_is_pair a_is_pair d_is_pair) {a_is_below : Addr} {d_is_below : FuncData} (F_is_below : FnAt P w K mg base 3 i_is_below a_is_below d_is_below) {a_is_sequence : Addr} {d_is_sequence : FuncData} (F_is_sequence : FnAt P w K mg base 1 i_is_sequence a_is_sequence d_is_sequence) {a_power_of : Addr} {d_power_of : FuncData} (F_power_of : FnAt P w K mg base 1 i_power_of a_power_of d_power_of)  {a : Addr} {d : FuncData} (F : L2.Fun K "is_table" "is_table" st_is_table a d) (gl : mg "is_table" = some (.ref a)) (bi : Binds K d i_is_table.ps []) : FnAt P w K mg base 4 i_is_table a d :=
  def_at (k := 3) F sc_is_table rfl (by decide) (by decide) gl bi fun cdv A outer s H E hr =>
    (ss_cons (s_if (rt_or (rw_or (rt_not (rt_val (r_call F_is_pair (hr.mono (by decide)) (takes_of rfl rfl rfl rfl) rfl (rA_cons (r_frz rfl (by first | exact .inl rfl | exact .inr (.inl rfl) | exact .inr (.inr rfl))) rA_nil)))) (rw_or (rt_not (rt_val (r_call F_is_below (hr.mono (by decide)) (takes_of rfl rfl rfl rfl) rfl (rA_cons (r_ix hr (r_var rfl (by first | exact .inl rfl | exact .inr (.inl rfl) | exact .inr (.inr rfl))) r_int) (rA_cons (r_bin (r_var rfl (by first | exact .inl rfl | exact .inr (.inl rfl) | exact .inr (.inr rfl))) r_int) rA_nil))))) (rw_or1 (rt_not (rt_val (r_call F_is_sequence (hr.mono (by decide)) (takes_of rfl rfl rfl rfl) rfl (rA_cons (r_ix hr (r_var rfl (by first | exact .inl rfl | exact .inr (.inl rfl) | exact .inr (.inr rfl))) r_int) rA_nil)))))))) (ss_cons (s_ret r_bl)
      ss_nil) ss_nil)
      (ss_cons (s_ret (r_and (r_cmp hr (r_biB (b := .len) rfl rfl T.n_len (rA_cons (r_ix hr (r_var rfl (by first | exact .inl rfl | exact .inr (.inl rfl) | exact .inr (.inr rfl))) r_int) rA_nil)) (r_call F_power_of (hr.mono (by decide)) (takes_of rfl rfl rfl rfl) rfl (rA_cons (r_frz rfl (by first | exact .inl rfl | exact .inr (.inl rfl) | exact .inr (.inr rfl))) (rA_cons (r_ix hr (r_var rfl (by first | exact .inl rfl | exact .inr (.inl rfl) | exact .inr (.inr rfl))) r_int) rA_nil)))) (r_and1 (r_biB (b := .all) rfl rfl T.n_all (rA_cons (r_lc (own := [("one", 3)]) rfl sc_is_table.nd (i_seq (r_ix hr (r_var rfl (by first | exact .inl rfl | exact .inr (.inl rfl) | exact .inr (.inr rfl))) r_int)) (blkOk_by rfl) (fun _ _ _ _ _ => (rG_nm sc_is_table.nd rfl (by first | exact .inl rfl | exact .inr rfl))) (fun _ _ _ _ _ => rI_nil) (fun _ _ _ _ _ => (r_call F_is_below (hr.mono (by decide)) takes_none5 rfl (rA_cons (r_frz rfl (by first | exact .inl rfl | exact .inr (.inl rfl) | exact .inr (.inr rfl))) (rA_cons (r_frz rfl (by first | exact .inl rfl | exact .inr (.inl rfl) | exact .inr (.inr rfl))) rA_nil))))) rA_nil)))))
      ss_nil))
abbrev st_is_operation : Stmt := top 17
theorem sc_is_operation : FnScope N_is_operation ["size", "value"] (defScope st_is_operation) := ⟨rfl, rfl, rfl, by decide +kernel, rfl, by decide +kernel, by decide +kernel⟩
theorem w_is_operation (T : Tx P K mg C_InvalidBook f_InvalidBook C_InvalidCut f_InvalidCut) {a_is_table : Addr} {d_is_table : FuncData} (F_is_table : FnAt P w K mg base 4 i_is_table a_is_table d_is_table)  {a : Addr} {d : FuncData} (F : L2.Fun K "is_operation" "is_operation" st_is_operation a d) (gl : mg "is_operation" = some (.ref a)) (bi : Binds K d i_is_operation.ps []) : FnAt P w K mg base 5 i_is_operation a d :=
  def_at (k := 4) F sc_is_operation rfl (by decide) (by decide) gl bi fun cdv A outer s H E hr =>
    (ss_cons (s_ret (r_and (r_call F_is_table (hr.mono (by decide)) (takes_of rfl rfl rfl rfl) rfl (rA_cons (r_frz rfl (by first | exact .inl rfl | exact .inr (.inl rfl) | exact .inr (.inr rfl))) (rA_cons (r_frz rfl (by first | exact .inl rfl | exact .inr (.inl rfl) | exact .inr (.inr rfl))) (rA_cons (r_glo rfl T.g_MOST_PLACES.choose_spec) rA_nil)))) (r_and1 (r_cmp hr (r_ix hr (r_var rfl (by first | exact .inl rfl | exact .inr (.inl rfl) | exact .inr (.inr rfl))) r_int) r_int))))
      ss_nil)
abbrev st_in_tuples : Stmt := top 18
theorem sc_in_tuples : FnScope N_in_tuples ["table"] (defScope st_in_tuples) := ⟨rfl, rfl, rfl, by decide +kernel, rfl, by decide +kernel, by decide +kernel⟩
theorem w_in_tuples (T : Tx P K mg C_InvalidBook f_InvalidBook C_InvalidCut f_InvalidCut)   {a : Addr} {d : FuncData} (F : L2.Fun K "in_tuples" "in_tuples" st_in_tuples a d) (gl : mg "in_tuples" = some (.ref a)) (bi : Binds K d i_in_tuples.ps []) : FnAt P w K mg base 1 i_in_tuples a d :=
  def_at (k := 0) F sc_in_tuples rfl (by decide) (by decide) gl bi fun cdv A outer s H E hr =>
    (ss_cons (s_ret (r_tup (rA_cons (r_ix hr (r_var rfl (by first | exact .inl rfl | exact .inr (.inl rfl) | exact .inr (.inr rfl))) r_int) (rA_cons (r_biT (b := .tuple) rfl rfl T.n_tuple (rA_cons (r_ix hr (r_var rfl (by first | exact .inl rfl | exact .inr (.inl rfl) | exact .inr (.inr rfl))) r_int) rA_nil)) rA_nil))))
      ss_nil)
abbrev st_need_book : Stmt := top 19
theorem sc_need_book : FnScope N_need_book ["value"] (defScope st_need_book) := ⟨rfl, rfl, rfl, by decide +kernel, rfl, by decide +kernel, by decide +kernel⟩
theorem w_need_book (T : Tx P K mg C_InvalidBook f_InvalidBook C_InvalidCut f_InvalidCut) {a_is_pair : Addr} {d_is_pair : FuncData} (F_is_pair : FnAt P w K mg base 2 i_is_pair a_is_pair d_is_pair) {a_is_integer : Addr} {d_is_integer : FuncData} (F_is_integer : FnAt P w K mg base 1 i_is_integer a_is_integer d_is_integer) {a_is_sequence : Addr} {d_is_sequence : FuncData} (F_is_sequence : FnAt P w K mg base 1 i_is_sequence a_is_sequence d_is_sequence) {a_is_operation : Addr} {d_is_operation : FuncData} (F_is_operation : FnAt P w K mg base 5 i_is_operation a_is_operation d_is_operation) {a_in_tuples : Addr} {d_in_tuples : FuncData} (F_in_tuples : FnAt P w K mg base 1 i_in_tuples a_in_tuples d_in_tuples)  {a : Addr} {d : FuncData} (F : L2.Fun K "need_book" "need_book" st_need_book a d) (gl : mg "need_book" = some (.ref a)) (bi : Binds K d i_need_book.ps []) : FnAt P w K mg base 6 i_need_book a d :=
  def_at (k := 5) F sc_need_book rfl (by decide) (by decide) gl bi fun cdv A outer s H E hr =>
    (ss_cons (s_if (rt_or (rw_or (rt_not (rt_val (r_call F_is_pair (hr.mono (by decide)) (takes_of rfl rfl rfl rfl) rfl (rA_cons (r_frz rfl (by first | exact .inl rfl | exact .inr (.inl rfl) | exact .inr (.inr rfl))) rA_nil)))) (rw_or (rt_not (rt_val (r_call F_is_integer (hr.mono (by decide)) (takes_of rfl rfl rfl rfl) rfl (rA_cons (r_ix hr (r_var rfl (by first | exact .inl rfl | exact .inr (.inl rfl) | exact .inr (.inr rfl))) r_int) rA_nil)))) (rw_or1 (rt_not (rt_chn hr r_int (r_ix hr (r_var rfl (by first | exact .inl rfl | exact .inr (.inl rfl) | exact .inr (.inr rfl))) r_int) (r_glo rfl T.g_MOST_SIZE.choose_spec))))))) (ss_cons (s_rais rfl T.e_InvalidBook hr (takes_of rfl rfl rfl rfl) (rA_cons (r_neg r_int) rA_nil) rfl)
      ss_nil) ss_nil)
      (ss_cons (s_if (rt_or (rw_or (rt_not (rt_val (r_call F_is_sequence (hr.mono (by decide)) (takes_of rfl rfl rfl rfl) rfl (rA_cons (r_ix hr (r_var rfl (by first | exact .inl rfl | exact .inr (.inl rfl) | exact .inr (.inr rfl))) r_int) rA_nil)))) (rw_or1 (rt_cmp hr (r_biB (b := .len) rfl rfl T.n_len (rA_cons (r_ix hr (r_var rfl (by first | exact .inl rfl | exact .inr (.inl rfl) | exact .inr (.inr rfl))) r_int) rA_nil)) (r_glo rfl T.g_MOST_OPERATIONS.choose_spec))))) (ss_cons (s_rais rfl T.e_InvalidBook hr (takes_of rfl rfl rfl rfl) (rA_cons (r_neg r_int) rA_nil) rfl)
      ss_nil) ss_nil)
      (ss_cons (s_for (passes_of rfl) rfl (i_enm rfl T.n_enumerate (rA_cons (r_ix hr (r_var rfl (by first | exact .inl rfl | exact .inr (.inl rfl) | exact .inr (.inr rfl))) r_int) rA_nil)) (rG_tp rfl (rGs_cons (rG_nm sc_need_book.nd rfl (by first | exact .inl rfl | exact .inr rfl)) (rGs_cons (rG_nm sc_need_book.nd rfl (by first | exact .inl rfl | exact .inr rfl)) rGs_nil))) (ss_cons (s_if (rt_not (rt_val (r_call F_is_operation (hr.mono (by decide)) (takes_of rfl rfl rfl rfl) rfl (rA_cons (r_ix hr (r_var rfl (by first | exact .inl rfl | exact .inr (.inl rfl) | exact .inr (.inr rfl))) r_int) (rA_cons (r_frz rfl (by first | exact .inl rfl | exact .inr (.inl rfl) | exact .inr (.inr rfl))) rA_nil))))) (ss_cons (s_rais rfl T.e_InvalidBook hr (takes_of rfl rfl rfl rfl) (rA_cons (r_frz rfl (by first | exact .inl rfl | exact .inr (.inl rfl) | exact .inr (.inr rfl))) rA_nil) rfl)
      ss_nil) ss_nil)
      ss_nil))
      (ss_cons (s_ret (r_tup (rA_cons (r_ix hr (r_var rfl (by first | exact .inl rfl | exact .inr (.inl rfl) | exact .inr (.inr rfl))) r_int) (rA_cons (r_biT (b := .tuple) rfl rfl T.n_tuple (rA_cons (r_lc (own := [("operation", 2)]) rfl sc_need_book.nd (i_seq (r_ix hr (r_var rfl (by first | exact .inl rfl | exact .inr (.inl rfl) | exact .inr (.inr rfl))) r_int)) (blkOk_by rfl) (fun _ _ _ _ _ => (rG_nm sc_need_book.nd rfl (by first | exact .inl rfl | exact .inr rfl))) (fun _ _ _ _ _ => rI_nil) (fun _ _ _ _ _ => (r_call F_in_tuples (hr.mono (by decide)) takes_none5 rfl (rA_cons (r_frz rfl (by first | exact .inl rfl | exact .inr (.inl rfl) | exact .inr (.inr rfl))) rA_nil)))) rA_nil)) rA_nil))))
      ss_nil))))
abbrev st_is_list : Stmt := top 21
theorem sc_is_list : FnScope N_is_list ["size", "value"] (defScope st_is_list) := ⟨rfl, rfl, rfl, by decide +kernel, rfl, by decide +kernel, by decide +kernel⟩
theorem w_is_list (T : Tx P K mg C_InvalidBook f_InvalidBook C_InvalidCut f_InvalidCut) {a_is_below : Addr} {d_is_below : FuncData} (F_is_below : FnAt P w K mg base 3 i_is_below a_is_below d_is_below)  {a : Addr} {d : FuncData} (F : L2.Fun K "is_list" "is_list" st_is_list a d) (gl : mg "is_list" = some (.ref a)) (bi : Binds K d i_is_list.ps []) : FnAt P w K mg base 4 i_is_list a d :=
  def_at (k := 3) F sc_is_list rfl (by decide) (by decide) gl bi fun cdv A outer s H E hr =>
    (ss_cons (s_if (rt_or (rw_or (rt_not (rt_val (r_isi (t := .tuple) rfl T.n_isinstance (r_var rfl (by first | exact .inl rfl | exact .inr (.inl rfl) | exact .inr (.inr rfl))) (r_ty rfl T.n_tuple)))) (rw_or (rt_cmp hr (r_biB (b := .len) rfl rfl T.n_len (rA_cons (r_var rfl (by first | exact .inl rfl | exact .inr (.inl rfl) | exact .inr (.inr rfl))) rA_nil)) r_int) (rw_or1 (rt_not (rt_val (r_biB (b := .all) rfl rfl T.n_all (rA_cons (r_lc (own := [("one", 3)]) rfl sc_is_list.nd (i_seq (r_var rfl (by first | exact .inl rfl | exact .inr (.inl rfl) | exact .inr (.inr rfl)))) (blkOk_by rfl) (fun _ _ _ _ _ => (rG_nm sc_is_list.nd rfl (by first | exact .inl rfl | exact .inr rfl))) (fun _ _ _ _ _ => rI_nil) (fun _ _ _ _ _ => (r_call F_is_below (hr.mono (by decide)) takes_none5 rfl (rA_cons (r_frz rfl (by first | exact .inl rfl | exact .inr (.inl rfl) | exact .inr (.inr rfl))) (rA_cons (r_frz rfl (by first | exact .inl rfl | exact .inr (.inl rfl) | exact .inr (.inr rfl))) rA_nil))))) rA_nil)))))))) (ss_cons (s_ret r_bl)
      ss_nil) ss_nil)
      (ss_cons (s_ret (r_biB (b := .all) rfl rfl T.n_all (rA_cons (r_lc (own := [("at", 2)]) rfl sc_is_list.nd (i_rng1 rfl T.n_range (rA_cons (r_bin (r_biB (b := .len) rfl rfl T.n_len (rA_cons (r_var rfl (by first | exact .inl rfl | exact .inr (.inl rfl) | exact .inr (.inr rfl))) rA_nil)) r_int) rA_nil)) (blkOk_by rfl) (fun _ _ _ _ _ => (rG_nm sc_is_list.nd rfl (by first | exact .inl rfl | exact .inr rfl))) (fun _ _ _ _ _ => rI_nil) (fun _ _ _ _ _ => (r_cmp hr (r_ix hr (r_var rfl (by first | exact .inl rfl | exact .inr (.inl rfl) | exact .inr (.inr rfl))) (r_var rfl (by first | exact .inl rfl | exact .inr (.inl rfl) | exact .inr (.inr rfl)))) (r_ix hr (r_var rfl (by first | exact .inl rfl | exact .inr (.inl rfl) | exact .inr (.inr rfl))) (r_bin (r_var rfl (by first | exact .inl rfl | exact .inr (.inl rfl) | exact .inr (.inr rfl))) r_int))))) rA_nil)))
      ss_nil))
abbrev st_is_string : Stmt := top 8
theorem sc_is_string : FnScope N_is_string ["value"] (defScope st_is_string) := ⟨rfl, rfl, rfl, by decide +kernel, rfl, by decide +kernel, by decide +kernel⟩
theorem w_is_string (T : Tx P K mg C_InvalidBook f_InvalidBook C_InvalidCut f_InvalidCut)   {a : Addr} {d : FuncData} (F : L2.Fun K "is_string" "is_string" st_is_string a d) (gl : mg "is_string" = some (.ref a)) (bi : Binds K d i_is_string.ps []) : FnAt P w K mg base 1 i_is_string a d :=
  def_at (k := 0) F sc_is_string rfl (by decide) (by decide) gl bi fun cdv A outer s H E hr =>
    (ss_cons (s_ret (r_isi (t := .str) rfl T.n_isinstance (r_var rfl (by first | exact .inl rfl | exact .inr (.inl rfl) | exact .inr (.inr rfl))) (r_ty rfl T.n_str)))
      ss_nil)
abbrev st_is_reading : Stmt := top 23
theorem sc_is_reading : FnScope N_is_reading ["size", "inputs", "lines", "value"] (defScope st_is_reading) := ⟨rfl, rfl, rfl, by decide +kernel, rfl, by decide +kernel, by decide +kernel⟩
theorem w_is_reading (T : Tx P K mg C_InvalidBook f_InvalidBook C_InvalidCut f_InvalidCut) {a_is_below : Addr} {d_is_below : FuncData} (F_is_below : FnAt P w K mg base 3 i_is_below a_is_below d_is_below) {a_is_string : Addr} {d_is_string : FuncData} (F_is_string : FnAt P w K mg base 1 i_is_string a_is_string d_is_string)  {a : Addr} {d : FuncData} (F : L2.Fun K "is_reading" "is_reading" st_is_reading a d) (gl : mg "is_reading" = some (.ref a)) (bi : Binds K d i_is_reading.ps []) : FnAt P w K mg base 4 i_is_reading a d :=
  def_at (k := 3) F sc_is_reading rfl (by decide) (by decide) gl bi fun cdv A outer s H E hr =>
    (ss_cons (s_if (rt_or (rw_or (rt_not (rt_val (r_isi (t := .tuple) rfl T.n_isinstance (r_var rfl (by first | exact .inl rfl | exact .inr (.inl rfl) | exact .inr (.inr rfl))) (r_ty rfl T.n_tuple)))) (rw_or (rt_cmp hr (r_biB (b := .len) rfl rfl T.n_len (rA_cons (r_var rfl (by first | exact .inl rfl | exact .inr (.inl rfl) | exact .inr (.inr rfl))) rA_nil)) r_int) (rw_or1 (rt_not (rt_val (r_call F_is_string (hr.mono (by decide)) (takes_of rfl rfl rfl rfl) rfl (rA_cons (r_ix hr (r_var rfl (by first | exact .inl rfl | exact .inr (.inl rfl) | exact .inr (.inr rfl))) r_int) rA_nil)))))))) (ss_cons (s_ret r_bl)
      ss_nil) ss_nil)
      (ss_cons (s_set sc_is_reading.nd rfl (by first | exact .inl rfl | exact .inr rfl) (r_dct (rD_cons (r_frz rfl (by first | exact .inl rfl | exact .inr (.inl rfl) | exact .inr (.inr rfl))) (rD_cons (r_frz rfl (by first | exact .inl rfl | exact .inr (.inl rfl) | exact .inr (.inr rfl))) (rD_cons (r_frz rfl (by first | exact .inl rfl | exact .inr (.inl rfl) | exact .inr (.inr rfl))) rD_nil)))))
      (ss_cons (s_ret (r_and (r_cmp hr (r_ix hr (r_var rfl (by first | exact .inl rfl | exact .inr (.inl rfl) | exact .inr (.inr rfl))) r_int) (r_var rfl (by first | exact .inl rfl | exact .inr (.inl rfl) | exact .inr (.inr rfl)))) (r_and1 (r_call F_is_below (hr.mono (by decide)) (takes_of rfl rfl rfl rfl) rfl (rA_cons (r_ix hr (r_var rfl (by first | exact .inl rfl | exact .inr (.inl rfl) | exact .inr (.inr rfl))) r_int) (rA_cons (r_ix hr (r_var rfl (by first | exact .inl rfl | exact .inr (.inl rfl) | exact .inr (.inr rfl))) (r_ix hr (r_var rfl (by first | exact .inl rfl | exact .inr (.inl rfl) | exact .inr (.inr rfl))) r_int)) rA_nil))))))
      ss_nil)))
abbrev st_is_line : Stmt := top 24
theorem sc_is_line : FnScope N_is_line ["book", "inputs", "at", "value"] (defScope st_is_line) := ⟨rfl, rfl, rfl, by decide +kernel, rfl, by decide +kernel, by decide +kernel⟩
theorem w_is_line (T : Tx P K mg C_InvalidBook f_InvalidBook C_InvalidCut f_InvalidCut) {a_is_below : Addr} {d_is_below : FuncData} (F_is_below : FnAt P w K mg base 3 i_is_below a_is_below d_is_below) {a_is_reading : Addr} {d_is_reading : FuncData} (F_is_reading : FnAt P w K mg base 4 i_is_reading a_is_reading d_is_reading)  {a : Addr} {d : FuncData} (F : L2.Fun K "is_line" "is_line" st_is_line a d) (gl : mg "is_line" = some (.ref a)) (bi : Binds K d i_is_line.ps []) : FnAt P w K mg base 5 i_is_line a d :=
  def_at (k := 4) F sc_is_line rfl (by decide) (by decide) gl bi fun cdv A outer s H E hr =>
    (ss_cons (s_if (rt_or (rw_or (rt_not (rt_val (r_isi (t := .tuple) rfl T.n_isinstance (r_var rfl (by first | exact .inl rfl | exact .inr (.inl rfl) | exact .inr (.inr rfl))) (r_ty rfl T.n_tuple)))) (rw_or (rt_cmp hr (r_biB (b := .len) rfl rfl T.n_len (rA_cons (r_var rfl (by first | exact .inl rfl | exact .inr (.inl rfl) | exact .inr (.inr rfl))) rA_nil)) r_int) (rw_or1 (rt_not (rt_val (r_call F_is_below (hr.mono (by decide)) (takes_of rfl rfl rfl rfl) rfl (rA_cons (r_ix hr (r_var rfl (by first | exact .inl rfl | exact .inr (.inl rfl) | exact .inr (.inr rfl))) r_int) (rA_cons (r_biB (b := .len) rfl rfl T.n_len (rA_cons (r_ix hr (r_var rfl (by first | exact .inl rfl | exact .inr (.inl rfl) | exact .inr (.inr rfl))) r_int) rA_nil)) rA_nil))))))))) (ss_cons (s_ret r_bl)
      ss_nil) ss_nil)
      (ss_cons (s_if (rt_or (rw_or (rt_not (rt_val (r_isi (t := .tuple) rfl T.n_isinstance (r_ix hr (r_var rfl (by first | exact .inl rfl | exact .inr (.inl rfl) | exact .inr (.inr rfl))) r_int) (r_ty rfl T.n_tuple)))) (rw_or1 (rt_cmp hr (r_biB (b := .len) rfl rfl T.n_len (rA_cons (r_ix hr (r_var rfl (by first | exact .inl rfl | exact .inr (.inl rfl) | exact .inr (.inr rfl))) r_int) rA_nil)) (r_ix hr (r_ix hr (r_ix hr (r_var rfl (by first | exact .inl rfl | exact .inr (.inl rfl) | exact .inr (.inr rfl))) r_int) (r_ix hr (r_var rfl (by first | exact .inl rfl | exact .inr (.inl rfl) | exact .inr (.inr rfl))) r_int)) r_int))))) (ss_cons (s_ret r_bl)
      ss_nil) ss_nil)
      (ss_cons (s_ret (r_biB (b := .all) rfl rfl T.n_all (rA_cons (r_lc (own := [("reading", 4)]) rfl sc_is_line.nd (i_seq (r_ix hr (r_var rfl (by first | exact .inl rfl | exact .inr (.inl rfl) | exact .inr (.inr rfl))) r_int)) (blkOk_by rfl) (fun _ _ _ _ _ => (rG_nm sc_is_line.nd rfl (by first | exact .inl rfl | exact .inr rfl))) (fun _ _ _ _ _ => rI_nil) (fun _ _ _ _ _ => (r_call F_is_reading (hr.mono (by decide)) takes_none5 rfl (rA_cons (r_ix hr (r_var rfl (by first | exact .inl rfl | exact .inr (.inl rfl) | exact .inr (.inr rfl))) r_int) (rA_cons (r_frz rfl (by first | exact .inl rfl | exact .inr (.inl rfl) | exact .inr (.inr rfl))) (rA_cons (r_frz rfl (by first | exact .inl rfl | exact .inr (.inl rfl) | exact .inr (.inr rfl))) (rA_cons (r_frz rfl (by first | exact .inl rfl | exact .inr (.inl rfl) | exact .inr (.inr rfl))) rA_nil))))))) rA_nil)))
      ss_nil)))
abbrev st_need_cut : Stmt := top 25
theorem sc_need_cut : FnScope N_need_cut ["book", "value"] (defScope st_need_cut) := ⟨rfl, rfl, rfl, by decide +kernel, rfl, by decide +kernel, by decide +kernel⟩
theorem w_need_cut (T : Tx P K mg C_InvalidBook f_InvalidBook C_InvalidCut f_InvalidCut) {a_is_list : Addr} {d_is_list : FuncData} (F_is_list : FnAt P w K mg base 4 i_is_list a_is_list d_is_list) {a_is_line : Addr} {d_is_line : FuncData} (F_is_line : FnAt P w K mg base 5 i_is_line a_is_line d_is_line) {a_is_reading : Addr} {d_is_reading : FuncData} (F_is_reading : FnAt P w K mg base 4 i_is_reading a_is_reading d_is_reading)  {a : Addr} {d : FuncData} (F : L2.Fun K "need_cut" "need_cut" st_need_cut a d) (gl : mg "need_cut" = some (.ref a)) (bi : Binds K d i_need_cut.ps []) : FnAt P w K mg base 6 i_need_cut a d :=
  def_at (k := 5) F sc_need_cut rfl (by decide) (by decide) gl bi fun cdv A outer s H E hr =>
    (ss_cons (s_if (rt_or (rw_or (rt_not (rt_val (r_isi (t := .tuple) rfl T.n_isinstance (r_var rfl (by first | exact .inl rfl | exact .inr (.inl rfl) | exact .inr (.inr rfl))) (r_ty rfl T.n_tuple)))) (rw_or1 (rt_cmp hr (r_biB (b := .len) rfl rfl T.n_len (rA_cons (r_var rfl (by first | exact .inl rfl | exact .inr (.inl rfl) | exact .inr (.inr rfl))) rA_nil)) r_int)))) (ss_cons (s_rais rfl T.e_InvalidCut hr (takes_of rfl rfl rfl rfl) (rA_cons (r_neg r_int) rA_nil) rfl)
      ss_nil) ss_nil)
      (ss_cons (s_setT (r_frz rfl (by first | exact .inl rfl | exact .inr (.inl rfl) | exact .inr (.inr rfl))) (rG_tp rfl (rGs_cons (rG_nm sc_need_cut.nd rfl (by first | exact .inl rfl | exact .inr rfl)) (rGs_cons (rG_nm sc_need_cut.nd rfl (by first | exact .inl rfl | exact .inr rfl)) (rGs_cons (rG_nm sc_need_cut.nd rfl (by first | exact .inl rfl | exact .inr rfl)) rGs_nil)))))
      (ss_cons (s_if (rt_or (rw_or (rt_not (rt_val (r_isi (t := .tuple) rfl T.n_isinstance (r_var rfl (by first | exact .inl rfl | exact .inr (.inl rfl) | exact .inr (.inr rfl))) (r_ty rfl T.n_tuple)))) (rw_or1 (rt_not (rt_val (r_biB (b := .all) rfl rfl T.n_all (rA_cons (r_lc (own := [("one", 5)]) rfl sc_need_cut.nd (i_seq (r_var rfl (by first | exact .inl rfl | exact .inr (.inl rfl) | exact .inr (.inr rfl)))) (blkOk_by rfl) (fun _ _ _ _ _ => (rG_nm sc_need_cut.nd rfl (by first | exact .inl rfl | exact .inr rfl))) (fun _ _ _ _ _ => rI_nil) (fun _ _ _ _ _ => (r_call F_is_list (hr.mono (by decide)) takes_none5 rfl (rA_cons (r_ix hr (r_var rfl (by first | exact .inl rfl | exact .inr (.inl rfl) | exact .inr (.inr rfl))) r_int) (rA_cons (r_frz rfl (by first | exact .inl rfl | exact .inr (.inl rfl) | exact .inr (.inr rfl))) rA_nil))))) rA_nil))))))) (ss_cons (s_rais rfl T.e_InvalidCut hr (takes_of rfl rfl rfl rfl) (rA_cons r_int rA_nil) rfl)
      ss_nil) ss_nil)
      (ss_cons (s_if (rt_or (rw_or (rt_not (rt_val (r_isi (t := .tuple) rfl T.n_isinstance (r_var rfl (by first | exact .inl rfl | exact .inr (.inl rfl) | exact .inr (.inr rfl))) (r_ty rfl T.n_tuple)))) (rw_or1 (rt_not (rt_val (r_biB (b := .all) rfl rfl T.n_all (rA_cons (r_lc (own := [("at", 7), ("line", 8)]) rfl sc_need_cut.nd (i_enm rfl T.n_enumerate (rA_cons (r_var rfl (by first | exact .inl rfl | exact .inr (.inl rfl) | exact .inr (.inr rfl))) rA_nil)) (blkOk_by rfl) (fun _ _ _ _ _ => (rG_tp rfl (rGs_cons (rG_nm sc_need_cut.nd rfl (by first | exact .inl rfl | exact .inr rfl)) (rGs_cons (rG_nm sc_need_cut.nd rfl (by first | exact .inl rfl | exact .inr rfl)) rGs_nil)))) (fun _ _ _ _ _ => rI_nil) (fun _ _ _ _ _ => (r_call F_is_line (hr.mono (by decide)) takes_none5 rfl (rA_cons (r_frz rfl (by first | exact .inl rfl | exact .inr (.inl rfl) | exact .inr (.inr rfl))) (rA_cons (r_biB (b := .len) rfl rfl T.n_len (rA_cons (r_var rfl (by first | exact .inl rfl | exact .inr (.inl rfl) | exact .inr (.inr rfl))) rA_nil)) (rA_cons (r_frz rfl (by first | exact .inl rfl | exact .inr (.inl rfl) | exact .inr (.inr rfl))) (rA_cons (r_frz rfl (by first | exact .inl rfl | exact .inr (.inl rfl) | exact .inr (.inr rfl))) rA_nil))))))) rA_nil))))))) (ss_cons (s_rais rfl T.e_InvalidCut hr (takes_of rfl rfl rfl rfl) (rA_cons r_int rA_nil) rfl)
      ss_nil) ss_nil)
      (ss_cons (s_if (rt_or (rw_or (rt_not (rt_val (r_isi (t := .tuple) rfl T.n_isinstance (r_var rfl (by first | exact .inl rfl | exact .inr (.inl rfl) | exact .inr (.inr rfl))) (r_ty rfl T.n_tuple)))) (rw_or1 (rt_not (rt_val (r_biB (b := .all) rfl rfl T.n_all (rA_cons (r_lc (own := [("end", 6)]) rfl sc_need_cut.nd (i_seq (r_var rfl (by first | exact .inl rfl | exact .inr (.inl rfl) | exact .inr (.inr rfl)))) (blkOk_by rfl) (fun _ _ _ _ _ => (rG_nm sc_need_cut.nd rfl (by first | exact .inl rfl | exact .inr rfl))) (fun _ _ _ _ _ => rI_nil) (fun _ _ _ _ _ => (r_call F_is_reading (hr.mono (by decide)) takes_none5 rfl (rA_cons (r_ix hr (r_var rfl (by first | exact .inl rfl | exact .inr (.inl rfl) | exact .inr (.inr rfl))) r_int) (rA_cons (r_biB (b := .len) rfl rfl T.n_len (rA_cons (r_var rfl (by first | exact .inl rfl | exact .inr (.inl rfl) | exact .inr (.inr rfl))) rA_nil)) (rA_cons (r_biB (b := .len) rfl rfl T.n_len (rA_cons (r_var rfl (by first | exact .inl rfl | exact .inr (.inl rfl) | exact .inr (.inr rfl))) rA_nil)) (rA_cons (r_frz rfl (by first | exact .inl rfl | exact .inr (.inl rfl) | exact .inr (.inr rfl))) rA_nil))))))) rA_nil))))))) (ss_cons (s_rais rfl T.e_InvalidCut hr (takes_of rfl rfl rfl rfl) (rA_cons r_int rA_nil) rfl)
      ss_nil) ss_nil)
      (ss_cons (s_ret (r_mv rfl (by first | exact .inl rfl | exact .inr (.inl rfl) | exact .inr (.inr rfl))))
      ss_nil))))))
abbrev st_need_both : Stmt := top 26
theorem sc_need_both : FnScope N_need_both ["book", "cut"] (defScope st_need_both) := ⟨rfl, rfl, rfl, by decide +kernel, rfl, by decide +kernel, by decide +kernel⟩
theorem w_need_both (T : Tx P K mg C_InvalidBook f_InvalidBook C_InvalidCut f_InvalidCut) {a_need_book : Addr} {d_need_book : FuncData} (F_need_book : FnAt P w K mg base 6 i_need_book a_need_book d_need_book) {a_need_cut : Addr} {d_need_cut : FuncData} (F_need_cut : FnAt P w K mg base 6 i_need_cut a_need_cut d_need_cut)  {a : Addr} {d : FuncData} (F : L2.Fun K "need_both" "need_both" st_need_both a d) (gl : mg "need_both" = some (.ref a)) (bi : Binds K d i_need_both.ps []) : FnAt P w K mg base 7 i_need_both a d :=
  def_at (k := 6) F sc_need_both rfl (by decide) (by decide) gl bi fun cdv A outer s H E hr =>
    (ss_cons (s_set sc_need_both.nd rfl (by first | exact .inl rfl | exact .inr rfl) (r_call F_need_book (hr.mono (by decide)) (takes_of rfl rfl rfl rfl) rfl (rA_cons (r_frz rfl (by first | exact .inl rfl | exact .inr (.inl rfl) | exact .inr (.inr rfl))) rA_nil)))
      (ss_cons (s_ret (r_tup (rA_cons (r_frz rfl (by first | exact .inl rfl | exact .inr (.inl rfl) | exact .inr (.inr rfl))) (rA_cons (r_call F_need_cut (hr.mono (by decide)) (takes_of rfl rfl rfl rfl) rfl (rA_cons (r_frz rfl (by first | exact .inl rfl | exact .inr (.inl rfl) | exact .inr (.inr rfl))) (rA_cons (r_frz rfl (by first | exact .inl rfl | exact .inr (.inl rfl) | exact .inr (.inr rfl))) rA_nil))) rA_nil))))
      ss_nil))
abbrev st_standing_rows : Stmt := top 28
theorem sc_standing_rows : FnScope N_standing_rows ["cut"] (defScope st_standing_rows) := ⟨rfl, rfl, rfl, by decide +kernel, rfl, by decide +kernel, by decide +kernel⟩
theorem w_standing_rows (T : Tx P K mg C_InvalidBook f_InvalidBook C_InvalidCut f_InvalidCut)   {a : Addr} {d : FuncData} (F : L2.Fun K "standing_rows" "standing_rows" st_standing_rows a d) (gl : mg "standing_rows" = some (.ref a)) (bi : Binds K d i_standing_rows.ps []) : FnAt P w K mg base 1 i_standing_rows a d :=
  def_at (k := 0) F sc_standing_rows rfl (by decide) (by decide) gl bi fun cdv A outer s H E hr =>
    (ss_cons (s_set sc_standing_rows.nd rfl (by first | exact .inl rfl | exact .inr rfl) (r_listRg rfl rfl T.n_list rfl T.n_range (r_biB (b := .len) rfl rfl T.n_len (rA_cons (r_ix hr (r_var rfl (by first | exact .inl rfl | exact .inr (.inl rfl) | exact .inr (.inr rfl))) r_int) rA_nil))))
      (ss_cons (s_for (passes_of rfl) rfl (i_enm rfl T.n_enumerate (rA_cons (r_ix hr (r_var rfl (by first | exact .inl rfl | exact .inr (.inl rfl) | exact .inr (.inr rfl))) r_int) rA_nil)) (rG_tp rfl (rGs_cons (rG_nm sc_standing_rows.nd rfl (by first | exact .inl rfl | exact .inr rfl)) (rGs_cons (rG_tp rfl (rGs_cons (rG_nm sc_standing_rows.nd rfl (by first | exact .inl rfl | exact .inr rfl)) (rGs_cons (rG_nm sc_standing_rows.nd rfl (by first | exact .inl rfl | exact .inr rfl)) rGs_nil))) rGs_nil))) (ss_cons (s_for (passes_of rfl) rfl (i_seq (r_frz rfl (by first | exact .inl rfl | exact .inr (.inl rfl) | exact .inr (.inr rfl)))) (rG_nm sc_standing_rows.nd rfl (by first | exact .inl rfl | exact .inr rfl)) (ss_cons (s_if (rt_cmp hr (r_ix hr (r_var rfl (by first | exact .inl rfl | exact .inr (.inl rfl) | exact .inr (.inr rfl))) r_int) r_str) (ss_cons (s_setix hr (pv_at rfl (by first | exact .inl rfl | exact .inr (.inl rfl) | exact .inr (.inr rfl))) (r_ix hr (r_var rfl (by first | exact .inl rfl | exact .inr (.inl rfl) | exact .inr (.inr rfl))) r_int) (r_frz rfl (by first | exact .inl rfl | exact .inr (.inl rfl) | exact .inr (.inr rfl))))
      ss_nil) ss_nil)
      ss_nil))
      ss_nil))
      (ss_cons (s_for (passes_of rfl) rfl (i_seq (r_ix hr (r_var rfl (by first | exact .inl rfl | exact .inr (.inl rfl) | exact .inr (.inr rfl))) r_int)) (rG_nm sc_standing_rows.nd rfl (by first | exact .inl rfl | exact .inr rfl)) (ss_cons (s_if (rt_cmp hr (r_ix hr (r_var rfl (by first | exact .inl rfl | exact .inr (.inl rfl) | exact .inr (.inr rfl))) r_int) r_str) (ss_cons (s_setix hr (pv_at rfl (by first | exact .inl rfl | exact .inr (.inl rfl) | exact .inr (.inr rfl))) (r_ix hr (r_var rfl (by first | exact .inl rfl | exact .inr (.inl rfl) | exact .inr (.inr rfl))) r_int) (r_biB (b := .len) rfl rfl T.n_len (rA_cons (r_ix hr (r_var rfl (by first | exact .inl rfl | exact .inr (.inl rfl) | exact .inr (.inr rfl))) r_int) rA_nil)))
      ss_nil) ss_nil)
      ss_nil))
      (ss_cons (s_ret (r_lc (own := [("at", 3)]) rfl sc_standing_rows.nd (i_rng1 rfl T.n_range (rA_cons (r_biB (b := .len) rfl rfl T.n_len (rA_cons (r_ix hr (r_var rfl (by first | exact .inl rfl | exact .inr (.inl rfl) | exact .inr (.inr rfl))) r_int) rA_nil)) rA_nil)) (blkOk_by rfl) (fun _ _ _ _ _ => (rG_nm sc_standing_rows.nd rfl (by first | exact .inl rfl | exact .inr rfl))) (fun _ _ _ _ _ => rI_nil) (fun _ _ _ _ _ => (r_lc (own := [("one", 7)]) rfl sc_standing_rows.nd (i_rng1 rfl T.n_range (rA_cons (r_bin (r_var rfl (by first | exact .inl rfl | exact .inr (.inl rfl) | exact .inr (.inr rfl))) r_int) rA_nil)) (blkOk_by rfl) (fun _ _ _ _ _ => (rG_nm sc_standing_rows.nd rfl (by first | exact .inl rfl | exact .inr rfl))) (fun _ _ _ _ _ => (rI_one (rt_or (rw_or (rt_cmp hr (r_var rfl (by first | exact .inl rfl | exact .inr (.inl rfl) | exact .inr (.inr rfl))) (r_var rfl (by first | exact .inl rfl | exact .inr (.inl rfl) | exact .inr (.inr rfl)))) (rw_or1 (rt_cmp hr (r_ix hr (r_var rfl (by first | exact .inl rfl | exact .inr (.inl rfl) | exact .inr (.inr rfl))) (r_var rfl (by first | exact .inl rfl | exact .inr (.inl rfl) | exact .inr (.inr rfl)))) (r_var rfl (by first | exact .inl rfl | exact .inr (.inl rfl) | exact .inr (.inr rfl))))))))) (fun _ _ _ _ _ => (r_frz rfl (by first | exact .inl rfl | exact .inr (.inl rfl) | exact .inr (.inr rfl))))))))
      ss_nil))))
abbrev st_fewest_cells : Stmt := top 29
theorem sc_fewest_cells : FnScope N_fewest_cells ["book", "cut"] (defScope st_fewest_cells) := ⟨rfl, rfl, rfl, by decide +kernel, rfl, by decide +kernel, by decide +kernel⟩
theorem w_fewest_cells (T : Tx P K mg C_InvalidBook f_InvalidBook C_InvalidCut f_InvalidCut) {a_need_both : Addr} {d_need_both : FuncData} (F_need_both : FnAt P w K mg base 7 i_need_both a_need_both d_need_both) {a_standing_rows : Addr} {d_standing_rows : FuncData} (F_standing_rows : FnAt P w K mg base 1 i_standing_rows a_standing_rows d_standing_rows)  {a : Addr} {d : FuncData} (F : L2.Fun K "fewest_cells" "fewest_cells" st_fewest_cells a d) (gl : mg "fewest_cells" = some (.ref a)) (bi : Binds K d i_fewest_cells.ps []) : FnAt P w K mg base 8 i_fewest_cells a d :=
  def_at (k := 7) F sc_fewest_cells rfl (by decide) (by decide) gl bi fun cdv A outer s H E hr =>
    (ss_cons (s_set sc_fewest_cells.nd rfl (by first | exact .inl rfl | exact .inr rfl) (r_ix hr (r_call F_need_both (hr.mono (by decide)) (takes_of rfl rfl rfl rfl) rfl (rA_cons (r_frz rfl (by first | exact .inl rfl | exact .inr (.inl rfl) | exact .inr (.inr rfl))) (rA_cons (r_frz rfl (by first | exact .inl rfl | exact .inr (.inl rfl) | exact .inr (.inr rfl))) rA_nil))) r_int))
      (ss_cons (s_parT rfl (rA_cons (r_call F_standing_rows (hr.mono (by decide)) (takes_of rfl rfl rfl rfl) rfl (rA_cons (r_frz rfl (by first | exact .inl rfl | exact .inr (.inl rfl) | exact .inr (.inr rfl))) rA_nil)) (rA_cons (r_lst rA_nil) rA_nil)) (rN_cons sc_fewest_cells.nd rfl (by first | exact .inl rfl | exact .inr rfl) (rN_cons sc_fewest_cells.nd rfl (by first | exact .inl rfl | exact .inr rfl) rN_nil)))
      (ss_cons (s_for (passes_of rfl) rfl (i_enm rfl T.n_enumerate (rA_cons (r_frz rfl (by first | exact .inl rfl | exact .inr (.inl rfl) | exact .inr (.inr rfl))) rA_nil)) (rG_tp rfl (rGs_cons (rG_nm sc_fewest_cells.nd rfl (by first | exact .inl rfl | exact .inr rfl)) (rGs_cons (rG_nm sc_fewest_cells.nd rfl (by first | exact .inl rfl | exact .inr rfl)) rGs_nil))) (ss_cons (by first | exact s_set sc_fewest_cells.nd rfl (by first | exact .inl rfl | exact .inr rfl) (r_lc (own := [("one", 9)]) rfl sc_fewest_cells.nd (i_seq (r_var rfl (by first | exact .inl rfl | exact .inr (.inl rfl) | exact .inr (.inr rfl)))) (blkOk_by rfl) (fun _ _ _ _ _ => (rG_nm sc_fewest_cells.nd rfl (by first | exact .inl rfl | exact .inr rfl))) (fun _ _ _ _ _ => (rI_one (rt_cmp hr (r_var rfl (by first | exact .inl rfl | exact .inr (.inl rfl) | exact .inr (.inr rfl))) (r_var rfl (by first | exact .inl rfl | exact .inr (.inl rfl) | exact .inr (.inr rfl)))))) (fun _ _ _ _ _ => (r_ix hr (r_var rfl (by first | exact .inl rfl | exact .inr (.inl rfl) | exact .inr (.inr rfl))) (r_var rfl (by first | exact .inl rfl | exact .inr (.inl rfl) | exact .inr (.inr rfl)))))) | exact s_setLc (own := [("one", 9)]) rfl sc_fewest_cells.nd rfl rfl rfl (i_seq (r_var rfl (by first | exact .inl rfl | exact .inr (.inl rfl) | exact .inr (.inr rfl)))) (blkOk_by rfl) (fun _ _ _ _ _ => (rG_nm sc_fewest_cells.nd rfl (by first | exact .inl rfl | exact .inr rfl))) (fun _ _ _ _ _ => (rI_one (rt_cmp hr (r_var rfl (by first | exact .inl rfl | exact .inr (.inl rfl) | exact .inr (.inr rfl))) (r_var rfl (by first | exact .inl rfl | exact .inr (.inl rfl) | exact .inr (.inr rfl)))))) (fun _ _ _ _ _ => (r_ix hr (r_var rfl (by first | exact .inl rfl | exact .inr (.inl rfl) | exact .inr (.inr rfl))) (r_var rfl (by first | exact .inl rfl | exact .inr (.inl rfl) | exact .inr (.inr rfl))))))
      (ss_cons (s_app (pv_at rfl (by first | exact .inl rfl | exact .inr (.inl rfl) | exact .inr (.inr rfl))) (rA_cons (r_biB (b := .min) rfl rfl T.n_min (rA_cons (r_lc (own := [("cell", 10)]) rfl sc_fewest_cells.nd (i_rng1 rfl T.n_range (rA_cons (r_biB (b := .len) rfl rfl T.n_len (rA_cons (r_var rfl (by first | exact .inl rfl | exact .inr (.inl rfl) | exact .inr (.inr rfl))) rA_nil)) rA_nil)) (blkOk_by rfl) (fun _ _ _ _ _ => (rG_nm sc_fewest_cells.nd rfl (by first | exact .inl rfl | exact .inr rfl))) (fun _ _ _ _ _ => (rI_one (rt_cmp hr (r_var rfl (by first | exact .inl rfl | exact .inr (.inl rfl) | exact .inr (.inr rfl))) (r_var rfl (by first | exact .inl rfl | exact .inr (.inl rfl) | exact .inr (.inr rfl)))))) (fun _ _ _ _ _ => (r_frz rfl (by first | exact .inl rfl | exact .inr (.inl rfl) | exact .inr (.inr rfl))))) rA_nil)) rA_nil))
      ss_nil)))
      (ss_cons (s_set sc_fewest_cells.nd rfl (by first | exact .inl rfl | exact .inr rfl) (r_biB (b := .max) rfl rfl T.n_max (rA_cons (r_bin (r_lst (rA_cons r_int rA_nil)) (r_lc (own := [("row", 7)]) rfl sc_fewest_cells.nd (i_seq (r_var rfl (by first | exact .inl rfl | exact .inr (.inl rfl) | exact .inr (.inr rfl)))) (blkOk_by rfl) (fun _ _ _ _ _ => (rG_nm sc_fewest_cells.nd rfl (by first | exact .inl rfl | exact .inr rfl))) (fun _ _ _ _ _ => rI_nil) (fun _ _ _ _ _ => (r_biB (b := .len) rfl rfl T.n_len (rA_cons (r_var rfl (by first | exact .inl rfl | exact .inr (.inl rfl) | exact .inr (.inr rfl))) rA_nil))))) rA_nil)))
      (ss_cons (by first | exact s_set sc_fewest_cells.nd rfl (by first | exact .inl rfl | exact .inr rfl) (r_lc (own := [("at", 6), ("row", 7)]) rfl sc_fewest_cells.nd (i_enm rfl T.n_enumerate (rA_cons (r_var rfl (by first | exact .inl rfl | exact .inr (.inl rfl) | exact .inr (.inr rfl))) rA_nil)) (blkOk_by rfl) (fun _ _ _ _ _ => (rG_tp rfl (rGs_cons (rG_nm sc_fewest_cells.nd rfl (by first | exact .inl rfl | exact .inr rfl)) (rGs_cons (rG_nm sc_fewest_cells.nd rfl (by first | exact .inl rfl | exact .inr rfl)) rGs_nil)))) (fun _ _ _ _ _ => (rI_one (rt_cmp hr (r_biB (b := .len) rfl rfl T.n_len (rA_cons (r_var rfl (by first | exact .inl rfl | exact .inr (.inl rfl) | exact .inr (.inr rfl))) rA_nil)) (r_var rfl (by first | exact .inl rfl | exact .inr (.inl rfl) | exact .inr (.inr rfl)))))) (fun _ _ _ _ _ => (r_frz rfl (by first | exact .inl rfl | exact .inr (.inl rfl) | exact .inr (.inr rfl))))) | exact s_setLc (own := [("at", 6), ("row", 7)]) rfl sc_fewest_cells.nd rfl rfl rfl (i_enm rfl T.n_enumerate (rA_cons (r_var rfl (by first | exact .inl rfl | exact .inr (.inl rfl) | exact .inr (.inr rfl))) rA_nil)) (blkOk_by rfl) (fun _ _ _ _ _ => (rG_tp rfl (rGs_cons (rG_nm sc_fewest_cells.nd rfl (by first | exact .inl rfl | exact .inr rfl)) (rGs_cons (rG_nm sc_fewest_cells.nd rfl (by first | exact .inl rfl | exact .inr rfl)) rGs_nil)))) (fun _ _ _ _ _ => (rI_one (rt_cmp hr (r_biB (b := .len) rfl rfl T.n_len (rA_cons (r_var rfl (by first | exact .inl rfl | exact .inr (.inl rfl) | exact .inr (.inr rfl))) rA_nil)) (r_var rfl (by first | exact .inl rfl | exact .inr (.inl rfl) | exact .inr (.inr rfl)))))) (fun _ _ _ _ _ => (r_frz rfl (by first | exact .inl rfl | exact .inr (.inl rfl) | exact .inr (.inr rfl)))))
      (ss_cons (s_ret (r_tup (rA_cons (r_frz rfl (by first | exact .inl rfl | exact .inr (.inl rfl) | exact .inr (.inr rfl))) (rA_cons (r_biT (b := .tuple) rfl rfl T.n_tuple (rA_cons (r_var rfl (by first | exact .inl rfl | exact .inr (.inl rfl) | exact .inr (.inr rfl))) rA_nil)) (rA_cons (r_ite (rt_cmp hr (r_biB (b := .len) rfl rfl T.n_len (rA_cons (r_var rfl (by first | exact .inl rfl | exact .inr (.inl rfl) | exact .inr (.inr rfl))) rA_nil)) r_int) (r_ix hr (r_var rfl (by first | exact .inl rfl | exact .inr (.inl rfl) | exact .inr (.inr rfl))) r_int) r_non) rA_nil)))))
      ss_nil))))))
abbrev st_fewest_hold : Stmt := top 30
theorem sc_fewest_hold : FnScope N_fewest_hold ["book", "cut", "value"] (defScope st_fewest_hold) := ⟨rfl, rfl, rfl, by decide +kernel, rfl, by decide +kernel, by decide +kernel⟩
theorem w_fewest_hold (T : Tx P K mg C_InvalidBook f_InvalidBook C_InvalidCut f_InvalidCut) {a_standing_rows : Addr} {d_standing_rows : FuncData} (F_standing_rows : FnAt P w K mg base 1 i_standing_rows a_standing_rows d_standing_rows) {a_need_both : Addr} {d_need_both : FuncData} (F_need_both : FnAt P w K mg base 7 i_need_both a_need_both d_need_both) {a_is_below : Addr} {d_is_below : FuncData} (F_is_below : FnAt P w K mg base 3 i_is_below a_is_below d_is_below) {a_is_number : Addr} {d_is_number : FuncData} (F_is_number : FnAt P w K mg base 2 i_is_number a_is_number d_is_number)  {a : Addr} {d : FuncData} (F : L2.Fun K "fewest_hold" "fewest_hold" st_fewest_hold a d) (gl : mg "fewest_hold" = some (.ref a)) (bi : Binds K d i_fewest_hold.ps []) : FnAt P w K mg base 8 i_fewest_hold a d :=
  def_at (k := 7) F sc_fewest_hold rfl (by decide) (by decide) gl bi fun cdv A outer s H E hr =>
    (ss_cons (s_set sc_fewest_hold.nd rfl (by first | exact .inl rfl | exact .inr rfl) (r_ix hr (r_call F_need_both (hr.mono (by decide)) (takes_of rfl rfl rfl rfl) rfl (rA_cons (r_frz rfl (by first | exact .inl rfl | exact .inr (.inl rfl) | exact .inr (.inr rfl))) (rA_cons (r_frz rfl (by first | exact .inl rfl | exact .inr (.inl rfl) | exact .inr (.inr rfl))) rA_nil))) r_int))
      (ss_cons (s_if (rt_or (rw_or (rt_not (rt_val (r_isi (t := .tuple) rfl T.n_isinstance (r_var rfl (by first | exact .inl rfl | exact .inr (.inl rfl) | exact .inr (.inr rfl))) (r_ty rfl T.n_tuple)))) (rw_or (rt_cmp hr (r_biB (b := .len) rfl rfl T.n_len (rA_cons (r_var rfl (by first | exact .inl rfl | exact .inr (.inl rfl) | exact .inr (.inr rfl))) rA_nil)) r_int) (rw_or (rt_not (rt_val (r_call F_is_number (hr.mono (by decide)) (takes_of rfl rfl rfl rfl) rfl (rA_cons (r_ix hr (r_var rfl (by first | exact .inl rfl | exact .inr (.inl rfl) | exact .inr (.inr rfl))) r_int) rA_nil)))) (rw_or1 (rt_not (rt_val (r_isi (t := .tuple) rfl T.n_isinstance (r_ix hr (r_var rfl (by first | exact .inl rfl | exact .inr (.inl rfl) | exact .inr (.inr rfl))) r_int) (r_ty rfl T.n_tuple))))))))) (ss_cons (s_ret r_bl)
      ss_nil) ss_nil)
      (ss_cons (s_setT (r_frz rfl (by first | exact .inl rfl | exact .inr (.inl rfl) | exact .inr (.inr rfl))) (rG_tp rfl (rGs_cons (rG_nm sc_fewest_hold.nd rfl (by first | exact .inl rfl | exact .inr rfl)) (rGs_cons (rG_nm sc_fewest_hold.nd rfl (by first | exact .inl rfl | exact .inr rfl)) (rGs_cons (rG_nm sc_fewest_hold.nd rfl (by first | exact .inl rfl | exact .inr rfl)) rGs_nil)))))
      (ss_cons (s_if (rt_or (rw_or (rt_cmp hr (r_biB (b := .len) rfl rfl T.n_len (rA_cons (r_var rfl (by first | exact .inl rfl | exact .inr (.inl rfl) | exact .inr (.inr rfl))) rA_nil)) (r_biB (b := .len) rfl rfl T.n_len (rA_cons (r_ix hr (r_var rfl (by first | exact .inl rfl | exact .inr (.inl rfl) | exact .inr (.inr rfl))) r_int) rA_nil))) (rw_or1 (rt_not (rt_val (r_biB (b := .all) rfl rfl T.n_all (rA_cons (r_lc (own := [("cell", 8)]) rfl sc_fewest_hold.nd (i_seq (r_var rfl (by first | exact .inl rfl | exact .inr (.inl rfl) | exact .inr (.inr rfl)))) (blkOk_by rfl) (fun _ _ _ _ _ => (rG_nm sc_fewest_hold.nd rfl (by first | exact .inl rfl | exact .inr rfl))) (fun _ _ _ _ _ => rI_nil) (fun _ _ _ _ _ => (r_call F_is_below (hr.mono (by decide)) takes_none5 rfl (rA_cons (r_frz rfl (by first | exact .inl rfl | exact .inr (.inl rfl) | exact .inr (.inr rfl))) (rA_cons (r_frz rfl (by first | exact .inl rfl | exact .inr (.inl rfl) | exact .inr (.inr rfl))) rA_nil))))) rA_nil))))))) (ss_cons (s_ret r_bl)
      ss_nil) ss_nil)
      (ss_cons (s_set sc_fewest_hold.nd rfl (by first | exact .inl rfl | exact .inr rfl) (r_call F_standing_rows (hr.mono (by decide)) (takes_of rfl rfl rfl rfl) rfl (rA_cons (r_frz rfl (by first | exact .inl rfl | exact .inr (.inl rfl) | exact .inr (.inr rfl))) rA_nil)))
      (ss_cons (s_if (rt_not (rt_val (r_biB (b := .all) rfl rfl T.n_all (rA_cons (r_lc (own := [("row", 7)]) rfl sc_fewest_hold.nd (i_seq (r_var rfl (by first | exact .inl rfl | exact .inr (.inl rfl) | exact .inr (.inr rfl)))) (blkOk_by rfl) (fun _ _ _ _ _ => (rG_nm sc_fewest_hold.nd rfl (by first | exact .inl rfl | exact .inr rfl))) (fun _ _ _ _ _ => rI_nil) (fun _ _ _ _ _ => (r_cmp hr (r_lenSet rfl T.n_len rfl T.n_set (r_lc (own := [("one", 9)]) rfl sc_fewest_hold.nd (i_seq (r_var rfl (by first | exact .inl rfl | exact .inr (.inl rfl) | exact .inr (.inr rfl)))) (blkOk_by rfl) (fun _ _ _ _ _ => (rG_nm sc_fewest_hold.nd rfl (by first | exact .inl rfl | exact .inr rfl))) (fun _ _ _ _ _ => rI_nil) (fun _ _ _ _ _ => (r_ix hr (r_var rfl (by first | exact .inl rfl | exact .inr (.inl rfl) | exact .inr (.inr rfl))) (r_var rfl (by first | exact .inl rfl | exact .inr (.inl rfl) | exact .inr (.inr rfl)))))) rfl) (r_biB (b := .len) rfl rfl T.n_len (rA_cons (r_var rfl (by first | exact .inl rfl | exact .inr (.inl rfl) | exact .inr (.inr rfl))) rA_nil))))) rA_nil)))) (ss_cons (s_ret r_bl)
      ss_nil) ss_nil)
      (ss_cons (s_if (rt_cmp hr (r_biB (b := .len) rfl rfl T.n_len (rA_cons (r_var rfl (by first | exact .inl rfl | exact .inr (.inl rfl) | exact .inr (.inr rfl))) rA_nil)) r_int) (ss_cons (s_ret (r_and (r_cmp hr (r_var rfl (by first | exact .inl rfl | exact .inr (.inl rfl) | exact .inr (.inr rfl))) r_int) (r_and1 (r_cmp hr (r_var rfl (by first | exact .inl rfl | exact .inr (.inl rfl) | exact .inr (.inr rfl))) r_non))))
      ss_nil) ss_nil)
      (ss_cons (s_ret (r_and (r_call F_is_below (hr.mono (by decide)) (takes_of rfl rfl rfl rfl) rfl (rA_cons (r_frz rfl (by first | exact .inl rfl | exact .inr (.inl rfl) | exact .inr (.inr rfl))) (rA_cons (r_biB (b := .len) rfl rfl T.n_len (rA_cons (r_var rfl (by first | exact .inl rfl | exact .inr (.inl rfl) | exact .inr (.inr rfl))) rA_nil)) rA_nil))) (r_and1 (r_cmp hr (r_biB (b := .len) rfl rfl T.n_len (rA_cons (r_ix hr (r_var rfl (by first | exact .inl rfl | exact .inr (.inl rfl) | exact .inr (.inr rfl))) (r_var rfl (by first | exact .inl rfl | exact .inr (.inl rfl) | exact .inr (.inr rfl)))) rA_nil)) (r_var rfl (by first | exact .inl rfl | exact .inr (.inl rfl) | exact .inr (.inr rfl)))))))
      ss_nil))))))))
abbrev st__law_anchor : Stmt := top 44
theorem sc__law_anchor : FnScope N__law_anchor [] (defScope st__law_anchor) := ⟨rfl, rfl, rfl, by decide +kernel, rfl, by decide +kernel, by decide +kernel⟩
theorem w__law_anchor (T : Tx P K mg C_InvalidBook f_InvalidBook C_InvalidCut f_InvalidCut) {a_fewest_cells : Addr} {d_fewest_cells : FuncData} (F_fewest_cells : FnAt P w K mg base 8 i_fewest_cells a_fewest_cells d_fewest_cells) {a_fewest_hold : Addr} {d_fewest_hold : FuncData} (F_fewest_hold : FnAt P w K mg base 8 i_fewest_hold a_fewest_hold d_fewest_hold) (kb_fewest_cells_book_cut : ∀ (s : Shared) (ws xs : List Value), K.In s.heap → kwO i_fewest_cells.ps ["book", "cut"] ws = some xs → BindsTo s d_fewest_cells ⟨[], (["book", "cut"] : List Str).zip ws⟩ (i_fewest_cells.ps.zip xs)) (kb_fewest_hold_book_cut_value : ∀ (s : Shared) (ws xs : List Value), K.In s.heap → kwO i_fewest_hold.ps ["book", "cut", "value"] ws = some xs → BindsTo s d_fewest_hold ⟨[], (["book", "cut", "value"] : List Str).zip ws⟩ (i_fewest_hold.ps.zip xs)) {a : Addr} {d : FuncData} (F : L2.Fun K "_law_anchor" "_law_anchor" st__law_anchor a d) (gl : mg "_law_anchor" = some (.ref a)) (bi : Binds K d i__law_anchor.ps []) : FnAt P w K mg base 9 i__law_anchor a d :=
  def_at (k := 8) F sc__law_anchor rfl (by decide) (by decide) gl bi fun cdv A outer s H E hr =>
    (ss_cons (s_set sc__law_anchor.nd rfl (by first | exact .inl rfl | exact .inr rfl) (r_tup (rA_cons r_int (rA_cons (r_tup (rA_cons (r_tup (rA_cons r_int (rA_cons (r_tup (rA_cons r_int (rA_cons r_int (rA_cons r_int (rA_cons r_int rA_nil))))) rA_nil))) rA_nil)) rA_nil))))
      (ss_cons (by first | exact s_par rfl sc__law_anchor.nd rfl rfl (by decide) rfl rfl (rA_cons (r_tup (rA_cons (r_tup (rA_cons r_int (rA_cons r_int rA_nil))) (rA_cons (r_tup (rA_cons r_int (rA_cons r_int rA_nil))) rA_nil))) (rA_cons (r_tup (rA_cons r_int (rA_cons (r_tup (rA_cons (r_tup (rA_cons r_str (rA_cons r_int rA_nil))) (rA_cons (r_tup (rA_cons r_str (rA_cons r_int rA_nil))) rA_nil))) rA_nil))) rA_nil)) rfl | exact s_parT rfl (rA_cons (r_tup (rA_cons (r_tup (rA_cons r_int (rA_cons r_int rA_nil))) (rA_cons (r_tup (rA_cons r_int (rA_cons r_int rA_nil))) rA_nil))) (rA_cons (r_tup (rA_cons r_int (rA_cons (r_tup (rA_cons (r_tup (rA_cons r_str (rA_cons r_int rA_nil))) (rA_cons (r_tup (rA_cons r_str (rA_cons r_int rA_nil))) rA_nil))) rA_nil))) rA_nil)) (rN_cons sc__law_anchor.nd rfl (by first | exact .inl rfl | exact .inr rfl) (rN_cons sc__law_anchor.nd rfl (by first | exact .inl rfl | exact .inr rfl) rN_nil)))
      (ss_cons (s_set sc__law_anchor.nd rfl (by first | exact .inl rfl | exact .inr rfl) (r_tup (rA_cons (r_frz rfl (by first | exact .inl rfl | exact .inr (.inl rfl) | exact .inr (.inr rfl))) (rA_cons (r_tup (rA_cons (r_frz rfl (by first | exact .inl rfl | exact .inr (.inl rfl) | exact .inr (.inr rfl))) (rA_cons (r_tup (rA_cons r_int (rA_cons (r_tup (rA_cons (r_tup (rA_cons r_str (rA_cons r_int rA_nil))) (rA_cons (r_tup (rA_cons r_str (rA_cons r_int rA_nil))) rA_nil))) rA_nil))) (rA_cons (r_tup (rA_cons r_int (rA_cons (r_tup (rA_cons (r_tup (rA_cons r_str (rA_cons r_int rA_nil))) (rA_cons (r_tup (rA_cons r_str (rA_cons r_int rA_nil))) rA_nil))) rA_nil))) rA_nil)))) (rA_cons (r_tup (rA_cons (r_tup (rA_cons r_str (rA_cons r_int rA_nil))) rA_nil)) rA_nil)))))
      (ss_cons (s_if (rt_cmp hr (r_callk F_fewest_hold (hr.mono (by decide)) (takes_of rfl rfl rfl rfl) rfl kb_fewest_hold_book_cut_value (rK_cons (r_frz rfl (by first | exact .inl rfl | exact .inr (.inl rfl) | exact .inr (.inr rfl))) (rK_cons (r_frz rfl (by first | exact .inl rfl | exact .inr (.inl rfl) | exact .inr (.inr rfl))) (rK_cons (r_tup (rA_cons r_int (rA_cons (r_tup (rA_cons r_int (rA_cons r_int (rA_cons r_int rA_nil)))) (rA_cons r_int rA_nil)))) rK_nil)))) r_bl) (ss_cons (s_ret r_bl)
      ss_nil) ss_nil)
      (ss_cons (s_set sc__law_anchor.nd rfl (by first | exact .inl rfl | exact .inr rfl) (r_callk F_fewest_cells (hr.mono (by decide)) (takes_of rfl rfl rfl rfl) rfl kb_fewest_cells_book_cut (rK_cons (r_frz rfl (by first | exact .inl rfl | exact .inr (.inl rfl) | exact .inr (.inr rfl))) (rK_cons (r_frz rfl (by first | exact .inl rfl | exact .inr (.inl rfl) | exact .inr (.inr rfl))) rK_nil))))
      (ss_cons (s_ret (r_and (r_cmp hr (r_ix hr (r_var rfl (by first | exact .inl rfl | exact .inr (.inl rfl) | exact .inr (.inr rfl))) r_int) r_int) (r_and (r_cmp hr (r_ix hr (r_var rfl (by first | exact .inl rfl | exact .inr (.inl rfl) | exact .inr (.inr rfl))) r_int) r_int) (r_and1 (r_cmp hr (r_call F_fewest_cells (hr.mono (by decide)) (takes_of rfl rfl rfl rfl) rfl (rA_cons (r_frz rfl (by first | exact .inl rfl | exact .inr (.inl rfl) | exact .inr (.inr rfl))) (rA_cons (r_tup (rA_cons (r_frz rfl (by first | exact .inl rfl | exact .inr (.inl rfl) | exact .inr (.inr rfl))) (rA_cons (r_tup rA_nil) (rA_cons (r_tup (rA_cons (r_tup (rA_cons r_str (rA_cons r_int rA_nil))) rA_nil)) rA_nil)))) rA_nil))) (r_tup (rA_cons r_int (rA_cons (r_tup rA_nil) (rA_cons r_non rA_nil)))))))))
      ss_nil))))))
abbrev st__law_ways : Stmt := top 42
theorem sc__law_ways : FnScope N__law_ways ["_law_many", "_law_cells"] (defScope st__law_ways) := ⟨rfl, rfl, rfl, by decide +kernel, rfl, by decide +kernel, by decide +kernel⟩
theorem w__law_ways (T : Tx P K mg C_InvalidBook f_InvalidBook C_InvalidCut f_InvalidCut)   {a : Addr} {d : FuncData} (F : L2.Fun K "_law_ways" "_law_ways" st__law_ways a d) (gl : mg "_law_ways" = some (.ref a)) (bi : Binds K d i__law_ways.ps []) : FnAt P w K mg base 1 i__law_ways a d :=
  def_at (k := 0) F sc__law_ways rfl (by decide) (by decide) gl bi fun cdv A outer s H E hr =>
    (ss_cons (s_set sc__law_ways.nd rfl (by first | exact .inl rfl | exact .inr rfl) (r_lst (rA_cons (r_tup rA_nil) rA_nil)))
      (ss_cons (s_for (passes_of rfl) rfl (i_rng1 rfl T.n_range (rA_cons (r_var rfl (by first | exact .inl rfl | exact .inr (.inl rfl) | exact .inr (.inr rfl))) rA_nil)) (rG_nm sc__law_ways.nd rfl (by first | exact .inl rfl | exact .inr rfl)) (ss_cons (s_set sc__law_ways.nd rfl (by first | exact .inl rfl | exact .inr rfl) (r_lst rA_nil))
      (ss_cons (s_for (passes_of rfl) rfl (i_seq (r_frz rfl (by first | exact .inl rfl | exact .inr (.inl rfl) | exact .inr (.inr rfl)))) (rG_nm sc__law_ways.nd rfl (by first | exact .inl rfl | exact .inr rfl)) (ss_cons (s_set sc__law_ways.nd rfl (by first | exact .inl rfl | exact .inr rfl) (r_bin (r_var rfl (by first | exact .inl rfl | exact .inr (.inl rfl) | exact .inr (.inr rfl))) (r_lc (own := [("_law_cell", 6)]) rfl sc__law_ways.nd (i_rng1 rfl T.n_range (rA_cons (r_var rfl (by first | exact .inl rfl | exact .inr (.inl rfl) | exact .inr (.inr rfl))) rA_nil)) (blkOk_by rfl) (fun _ _ _ _ _ => (rG_nm sc__law_ways.nd rfl (by first | exact .inl rfl | exact .inr rfl))) (fun _ _ _ _ _ => rI_nil) (fun _ _ _ _ _ => (r_bin (r_var rfl (by first | exact .inl rfl | exact .inr (.inl rfl) | exact .inr (.inr rfl))) (r_tup (rA_cons (r_frz rfl (by first | exact .inl rfl | exact .inr (.inl rfl) | exact .inr (.inr rfl))) rA_nil)))))))
      ss_nil))
      (ss_cons (s_set sc__law_ways.nd rfl (by first | exact .inl rfl | exact .inr rfl) (r_frz rfl (by first | exact .inl rfl | exact .inr (.inl rfl) | exact .inr (.inr rfl))))
      ss_nil))))
      (ss_cons (s_ret (r_mv rfl (by first | exact .inl rfl | exact .inr (.inl rfl) | exact .inr (.inr rfl))))
      ss_nil)))
abbrev st__law_tried : Stmt := top 43
theorem sc__law_tried : FnScope N__law_tried ["_law_word", "_law_values"] (defScope st__law_tried) := ⟨rfl, rfl, rfl, by decide +kernel, rfl, by decide +kernel, by decide +kernel⟩
theorem w__law_tried (T : Tx P K mg C_InvalidBook f_InvalidBook C_InvalidCut f_InvalidCut) {a_fewest_cells : Addr} {d_fewest_cells : FuncData} (F_fewest_cells : FnAt P w K mg base 8 i_fewest_cells a_fewest_cells d_fewest_cells) {a_fewest_hold : Addr} {d_fewest_hold : FuncData} (F_fewest_hold : FnAt P w K mg base 8 i_fewest_hold a_fewest_hold d_fewest_hold)  {a : Addr} {d : FuncData} (F : L2.Fun K "_law_tried" "_law_tried" st__law_tried a d) (gl : mg "_law_tried" = some (.ref a)) (bi : Binds K d i__law_tried.ps []) : FnAt P w K mg base 9 i__law_tried a d :=
  def_at (k := 8) F sc__law_tried rfl (by decide) (by decide) gl bi fun cdv A outer s H E hr =>
    (ss_cons (s_try rfl rfl sc__law_tried.nd (takes_of rfl rfl rfl rfl) (fun W pn xe tk hp => (ss_cons (s_if (rt_cmp hr (r_var rfl (by first | exact .inl rfl | exact .inr (.inl rfl) | exact .inr (.inr rfl))) r_str) (ss_cons (s_expr (r_call F_fewest_cells (hr.mono (by decide)) tk rfl (rA_cons (r_ix hr (r_var rfl (by first | exact .inl rfl | exact .inr (.inl rfl) | exact .inr (.inr rfl))) r_int) (rA_cons (r_ix hr (r_var rfl (by first | exact .inl rfl | exact .inr (.inl rfl) | exact .inr (.inr rfl))) r_int) rA_nil))))
      ss_nil) (ss_cons (s_expr (r_call F_fewest_hold (hr.mono (by decide)) tk rfl (rA_cons (r_ix hr (r_var rfl (by first | exact .inl rfl | exact .inr (.inl rfl) | exact .inr (.inr rfl))) r_int) (rA_cons (r_ix hr (r_var rfl (by first | exact .inl rfl | exact .inr (.inl rfl) | exact .inr (.inr rfl))) r_int) (rA_cons r_non rA_nil)))))
      ss_nil))
      ss_nil)) (.consA ⟨rfl, by decide, Or.inl T.e_InvalidBook.gC⟩ rfl rfl rfl { su := hs_ret rfl (hp_str (hp_fld rfl (by first | exact .inl rfl | exact .inr (.inl rfl) | exact .inr (.inr rfl)) hp_nil)), exm := (by intro cn hcn C hC; rcases List.mem_cons.mp hcn with rfl | hcn; (· have e := T.e_InvalidBook.gC.symm.trans hC; cases e; exact T.x_InvalidBook_InvalidBook); rcases List.mem_cons.mp hcn with rfl | hcn; (· have e := T.e_InvalidCut.gC.symm.trans hC; cases e; exact T.x_InvalidCut_InvalidBook); all_goals cases hcn), err := (fun _ => ⟨fun z => (nomatch z), by intro cn hcn C hC; rcases List.mem_cons.mp hcn with rfl | hcn; (· have e := T.e_InvalidBook.gC.symm.trans hC; cases e; exact ⟨_, T.e_InvalidBook⟩); all_goals cases hcn⟩), sc := ⟨rfl, rfl, by decide⟩, io1 := (by intro n e; first | (cases e; done) | (cases e; decide)), io2 := (by intro i e; first | (cases e; done) | (cases e; decide)) } (.consA ⟨rfl, by decide, Or.inl T.e_InvalidCut.gC⟩ rfl rfl rfl { su := hs_ret rfl (hp_str (hp_fld rfl (by first | exact .inl rfl | exact .inr (.inl rfl) | exact .inr (.inr rfl)) hp_nil)), exm := (by intro cn hcn C hC; rcases List.mem_cons.mp hcn with rfl | hcn; (· have e := T.e_InvalidBook.gC.symm.trans hC; cases e; exact T.x_InvalidBook_InvalidCut); rcases List.mem_cons.mp hcn with rfl | hcn; (· have e := T.e_InvalidCut.gC.symm.trans hC; cases e; exact T.x_InvalidCut_InvalidCut); all_goals cases hcn), err := (fun _ => ⟨fun z => (nomatch z), by intro cn hcn C hC; rcases List.mem_cons.mp hcn with rfl | hcn; (· have e := T.e_InvalidCut.gC.symm.trans hC; cases e; exact ⟨_, T.e_InvalidCut⟩); all_goals cases hcn⟩), sc := ⟨rfl, rfl, by decide⟩, io1 := (by intro n e; first | (cases e; done) | (cases e; decide)), io2 := (by intro i e; first | (cases e; done) | (cases e; decide)) } .nil)))
      (ss_cons (s_ret (r_tup (rA_cons r_str (rA_cons r_int rA_nil))))
      ss_nil))
abbrev st__law_stands : Stmt := top 39
theorem sc__law_stands : FnScope N__law_stands ["_law_cut_here", "_law_at"] (defScope st__law_stands) := ⟨rfl, rfl, rfl, by decide +kernel, rfl, by decide +kernel, by decide +kernel⟩
theorem w__law_stands (T : Tx P K mg C_InvalidBook f_InvalidBook C_InvalidCut f_InvalidCut)   {a : Addr} {d : FuncData} (F : L2.Fun K "_law_stands" "_law_stands" st__law_stands a d) (gl : mg "_law_stands" = some (.ref a)) (bi : Binds K d i__law_stands.ps []) : FnAt P w K mg base 1 i__law_stands a d :=
  def_at (k := 0) F sc__law_stands rfl (by decide) (by decide) gl bi fun cdv A outer s H E hr =>
    (ss_cons (s_set sc__law_stands.nd rfl (by first | exact .inl rfl | exact .inr rfl) (r_lst (rA_cons (r_frz rfl (by first | exact .inl rfl | exact .inr (.inl rfl) | exact .inr (.inr rfl))) rA_nil)))
      (ss_cons (s_for (passes_of rfl) rfl (i_rng1 rfl T.n_range (rA_cons (r_var rfl (by first | exact .inl rfl | exact .inr (.inl rfl) | exact .inr (.inr rfl))) rA_nil)) (rG_nm sc__law_stands.nd rfl (by first | exact .inl rfl | exact .inr rfl)) (ss_cons (by first | exact s_set sc__law_stands.nd rfl (by first | exact .inl rfl | exact .inr rfl) (r_lc (own := [("_law_operation_here", 5), ("_law_readings", 6)]) rfl sc__law_stands.nd (i_seq (r_sl (r_ix hr (r_var rfl (by first | exact .inl rfl | exact .inr (.inl rfl) | exact .inr (.inr rfl))) r_int) (ro_some (r_bin (r_var rfl (by first | exact .inl rfl | exact .inr (.inl rfl) | exact .inr (.inr rfl))) r_int)) ro_none)) (blkOk_by rfl) (fun _ _ _ _ _ => (rG_tp rfl (rGs_cons (rG_nm sc__law_stands.nd rfl (by first | exact .inl rfl | exact .inr rfl)) (rGs_cons (rG_nm sc__law_stands.nd rfl (by first | exact .inl rfl | exact .inr rfl)) rGs_nil)))) (fun _ _ _ _ _ => (rI_one (rt_cmp hr (r_tup (rA_cons r_str (rA_cons (r_frz rfl (by first | exact .inl rfl | exact .inr (.inl rfl) | exact .inr (.inr rfl))) rA_nil))) (r_var rfl (by first | exact .inl rfl | exact .inr (.inl rfl) | exact .inr (.inr rfl)))))) (fun _ _ _ _ _ => (r_frz rfl (by first | exact .inl rfl | exact .inr (.inl rfl) | exact .inr (.inr rfl))))) | exact s_setLc (own := [("_law_operation_here", 5), ("_law_readings", 6)]) rfl sc__law_stands.nd rfl rfl rfl (i_seq (r_sl (r_ix hr (r_var rfl (by first | exact .inl rfl | exact .inr (.inl rfl) | exact .inr (.inr rfl))) r_int) (ro_some (r_bin (r_var rfl (by first | exact .inl rfl | exact .inr (.inl rfl) | exact .inr (.inr rfl))) r_int)) ro_none)) (blkOk_by rfl) (fun _ _ _ _ _ => (rG_tp rfl (rGs_cons (rG_nm sc__law_stands.nd rfl (by first | exact .inl rfl | exact .inr rfl)) (rGs_cons (rG_nm sc__law_stands.nd rfl (by first | exact .inl rfl | exact .inr rfl)) rGs_nil)))) (fun _ _ _ _ _ => (rI_one (rt_cmp hr (r_tup (rA_cons r_str (rA_cons (r_frz rfl (by first | exact .inl rfl | exact .inr (.inl rfl) | exact .inr (.inr rfl))) rA_nil))) (r_var rfl (by first | exact .inl rfl | exact .inr (.inl rfl) | exact .inr (.inr rfl)))))) (fun _ _ _ _ _ => (r_frz rfl (by first | exact .inl rfl | exact .inr (.inl rfl) | exact .inr (.inr rfl)))))
      (ss_cons (s_if (rt_or (rw_or (rt_cmp hr (r_var rfl (by first | exact .inl rfl | exact .inr (.inl rfl) | exact .inr (.inr rfl))) (r_lst rA_nil)) (rw_or1 (rt_cmp hr (r_tup (rA_cons r_str (rA_cons (r_frz rfl (by first | exact .inl rfl | exact .inr (.inl rfl) | exact .inr (.inr rfl))) rA_nil))) (r_ix hr (r_var rfl (by first | exact .inl rfl | exact .inr (.inl rfl) | exact .inr (.inr rfl))) r_int))))) (ss_cons (s_app (pv_at rfl (by first | exact .inl rfl | exact .inr (.inl rfl) | exact .inr (.inr rfl))) (rA_cons (r_frz rfl (by first | exact .inl rfl | exact .inr (.inl rfl) | exact .inr (.inr rfl))) rA_nil))
      ss_nil) ss_nil)
      ss_nil)))
      (ss_cons (s_ret (r_mv rfl (by first | exact .inl rfl | exact .inr (.inl rfl) | exact .inr (.inr rfl))))
      ss_nil)))
abbrev st__law_fit : Stmt := top 40
theorem sc__law_fit : FnScope N__law_fit ["_law_cut_here", "_law_cells"] (defScope st__law_fit) := ⟨rfl, rfl, rfl, by decide +kernel, rfl, by decide +kernel, by decide +kernel⟩
theorem w__law_fit (T : Tx P K mg C_InvalidBook f_InvalidBook C_InvalidCut f_InvalidCut) {a__law_stands : Addr} {d__law_stands : FuncData} (F__law_stands : FnAt P w K mg base 1 i__law_stands a__law_stands d__law_stands)  {a : Addr} {d : FuncData} (F : L2.Fun K "_law_fit" "_law_fit" st__law_fit a d) (gl : mg "_law_fit" = some (.ref a)) (bi : Binds K d i__law_fit.ps []) : FnAt P w K mg base 2 i__law_fit a d :=
  def_at (k := 1) F sc__law_fit rfl (by decide) (by decide) gl bi fun cdv A outer s H E hr =>
    (ss_cons (s_for (passes_of rfl) rfl (i_rng1 rfl T.n_range (rA_cons (r_biB (b := .len) rfl rfl T.n_len (rA_cons (r_ix hr (r_var rfl (by first | exact .inl rfl | exact .inr (.inl rfl) | exact .inr (.inr rfl))) r_int) rA_nil)) rA_nil)) (rG_nm sc__law_fit.nd rfl (by first | exact .inl rfl | exact .inr rfl)) (ss_cons (by first | exact s_set sc__law_fit.nd rfl (by first | exact .inl rfl | exact .inr rfl) (r_lc (own := [("_law_one", 4)]) rfl sc__law_fit.nd (i_seq (r_call F__law_stands (hr.mono (by decide)) (takes_of rfl rfl rfl rfl) rfl (rA_cons (r_frz rfl (by first | exact .inl rfl | exact .inr (.inl rfl) | exact .inr (.inr rfl))) (rA_cons (r_frz rfl (by first | exact .inl rfl | exact .inr (.inl rfl) | exact .inr (.inr rfl))) rA_nil)))) (blkOk_by rfl) (fun _ _ _ _ _ => (rG_nm sc__law_fit.nd rfl (by first | exact .inl rfl | exact .inr rfl))) (fun _ _ _ _ _ => rI_nil) (fun _ _ _ _ _ => (r_ix hr (r_var rfl (by first | exact .inl rfl | exact .inr (.inl rfl) | exact .inr (.inr rfl))) (r_var rfl (by first | exact .inl rfl | exact .inr (.inl rfl) | exact .inr (.inr rfl)))))) | exact s_setLc (own := [("_law_one", 4)]) rfl sc__law_fit.nd rfl rfl rfl (i_seq (r_call F__law_stands (hr.mono (by decide)) (takes_of rfl rfl rfl rfl) rfl (rA_cons (r_frz rfl (by first | exact .inl rfl | exact .inr (.inl rfl) | exact .inr (.inr rfl))) (rA_cons (r_frz rfl (by first | exact .inl rfl | exact .inr (.inl rfl) | exact .inr (.inr rfl))) rA_nil)))) (blkOk_by rfl) (fun _ _ _ _ _ => (rG_nm sc__law_fit.nd rfl (by first | exact .inl rfl | exact .inr rfl))) (fun _ _ _ _ _ => rI_nil) (fun _ _ _ _ _ => (r_ix hr (r_var rfl (by first | exact .inl rfl | exact .inr (.inl rfl) | exact .inr (.inr rfl))) (r_var rfl (by first | exact .inl rfl | exact .inr (.inl rfl) | exact .inr (.inr rfl))))))
      (ss_cons (s_if (rt_cmp hr (r_lenSet rfl T.n_len rfl T.n_set (r_var rfl (by first | exact .inl rfl | exact .inr (.inl rfl) | exact .inr (.inr rfl))) rfl) (r_biB (b := .len) rfl rfl T.n_len (rA_cons (r_var rfl (by first | exact .inl rfl | exact .inr (.inl rfl) | exact .inr (.inr rfl))) rA_nil))) (ss_cons (s_ret r_bl)
      ss_nil) ss_nil)
      ss_nil)))
      (ss_cons (s_ret r_bl)
      ss_nil))
abbrev st__law_due : Stmt := top 41
theorem sc__law_due : FnScope N__law_due ["_law_cut_here", "_law_value"] (defScope st__law_due) := ⟨rfl, rfl, rfl, by decide +kernel, rfl, by decide +kernel, by decide +kernel⟩
theorem w__law_due (T : Tx P K mg C_InvalidBook f_InvalidBook C_InvalidCut f_InvalidCut) {a__law_fit : Addr} {d__law_fit : FuncData} (F__law_fit : FnAt P w K mg base 2 i__law_fit a__law_fit d__law_fit) {a__law_stands : Addr} {d__law_stands : FuncData} (F__law_stands : FnAt P w K mg base 1 i__law_stands a__law_stands d__law_stands)  {a : Addr} {d : FuncData} (F : L2.Fun K "_law_due" "_law_due" st__law_due a d) (gl : mg "_law_due" = some (.ref a)) (bi : Binds K d i__law_due.ps []) : FnAt P w K mg base 3 i__law_due a d :=
  def_at (k := 2) F sc__law_due rfl (by decide) (by decide) gl bi fun cdv A outer s H E hr =>
    (ss_cons (s_if (rt_or (rw_or (rt_not (rt_val (r_isi (t := .tuple) rfl T.n_isinstance (r_var rfl (by first | exact .inl rfl | exact .inr (.inl rfl) | exact .inr (.inr rfl))) (r_ty rfl T.n_tuple)))) (rw_or (rt_cmp hr (r_biB (b := .len) rfl rfl T.n_len (rA_cons (r_var rfl (by first | exact .inl rfl | exact .inr (.inl rfl) | exact .inr (.inr rfl))) rA_nil)) r_int) (rw_or1 (rt_not (rt_val (r_isi (t := .tuple) rfl T.n_isinstance (r_ix hr (r_var rfl (by first | exact .inl rfl | exact .inr (.inl rfl) | exact .inr (.inr rfl))) r_int) (r_ty rfl T.n_tuple)))))))) (ss_cons (s_ret r_bl)
      ss_nil) ss_nil)
      (ss_cons (s_setT (r_frz rfl (by first | exact .inl rfl | exact .inr (.inl rfl) | exact .inr (.inr rfl))) (rG_tp rfl (rGs_cons (rG_nm sc__law_due.nd rfl (by first | exact .inl rfl | exact .inr rfl)) (rGs_cons (rG_nm sc__law_due.nd rfl (by first | exact .inl rfl | exact .inr rfl)) (rGs_cons (rG_nm sc__law_due.nd rfl (by first | exact .inl rfl | exact .inr rfl)) rGs_nil)))))
      (ss_cons (s_for (passes_of rfl) rfl (i_seq (r_bin (r_bin (r_lst (rA_cons (r_frz rfl (by first | exact .inl rfl | exact .inr (.inl rfl) | exact .inr (.inr rfl))) rA_nil)) (r_biT (b := .list) rfl rfl T.n_list (rA_cons (r_var rfl (by first | exact .inl rfl | exact .inr (.inl rfl) | exact .inr (.inr rfl))) rA_nil))) (r_ite (rt_cmp hr (r_biB (b := .len) rfl rfl T.n_len (rA_cons (r_ix hr (r_var rfl (by first | exact .inl rfl | exact .inr (.inl rfl) | exact .inr (.inr rfl))) r_int) rA_nil)) r_int) (r_lst (rA_cons (r_frz rfl (by first | exact .inl rfl | exact .inr (.inl rfl) | exact .inr (.inr rfl))) rA_nil)) (r_lst rA_nil)))) (rG_nm sc__law_due.nd rfl (by first | exact .inl rfl | exact .inr rfl)) (ss_cons (s_if (rt_or (rw_or (rt_not (rt_val (r_isi (t := .int) rfl T.n_isinstance (r_var rfl (by first | exact .inl rfl | exact .inr (.inl rfl) | exact .inr (.inr rfl))) (r_ty rfl T.n_int)))) (rw_or (rt_val (r_isi (t := .bool) rfl T.n_isinstance (r_var rfl (by first | exact .inl rfl | exact .inr (.inl rfl) | exact .inr (.inr rfl))) (r_ty rfl T.n_bool))) (rw_or1 (rt_cmp hr (r_var rfl (by first | exact .inl rfl | exact .inr (.inl rfl) | exact .inr (.inr rfl))) r_int))))) (ss_cons (s_ret r_bl)
      ss_nil) ss_nil)
      ss_nil))
      (ss_cons (s_if (rt_or (rw_or (rt_cmp hr (r_biB (b := .len) rfl rfl T.n_len (rA_cons (r_var rfl (by first | exact .inl rfl | exact .inr (.inl rfl) | exact .inr (.inr rfl))) rA_nil)) (r_biB (b := .len) rfl rfl T.n_len (rA_cons (r_ix hr (r_var rfl (by first | exact .inl rfl | exact .inr (.inl rfl) | exact .inr (.inr rfl))) r_int) rA_nil))) (rw_or (rt_cmp hr (r_lc (own := [("_law_cell", 6)]) rfl sc__law_due.nd (i_seq (r_var rfl (by first | exact .inl rfl | exact .inr (.inl rfl) | exact .inr (.inr rfl)))) (blkOk_by rfl) (fun _ _ _ _ _ => (rG_nm sc__law_due.nd rfl (by first | exact .inl rfl | exact .inr rfl))) (fun _ _ _ _ _ => (rI_one (rt_cmp hr (r_var rfl (by first | exact .inl rfl | exact .inr (.inl rfl) | exact .inr (.inr rfl))) (r_var rfl (by first | exact .inl rfl | exact .inr (.inl rfl) | exact .inr (.inr rfl)))))) (fun _ _ _ _ _ => (r_frz rfl (by first | exact .inl rfl | exact .inr (.inl rfl) | exact .inr (.inr rfl))))) (r_lst rA_nil)) (rw_or1 (rt_not (rt_val (r_call F__law_fit (hr.mono (by decide)) (takes_of rfl rfl rfl rfl) rfl (rA_cons (r_frz rfl (by first | exact .inl rfl | exact .inr (.inl rfl) | exact .inr (.inr rfl))) (rA_cons (r_frz rfl (by first | exact .inl rfl | exact .inr (.inl rfl) | exact .inr (.inr rfl))) rA_nil))))))))) (ss_cons (s_ret r_bl)
      ss_nil) ss_nil)
      (ss_cons (s_if (rt_cmp hr (r_biB (b := .len) rfl rfl T.n_len (rA_cons (r_ix hr (r_var rfl (by first | exact .inl rfl | exact .inr (.inl rfl) | exact .inr (.inr rfl))) r_int) rA_nil)) r_int) (ss_cons (s_ret (r_and (r_cmp hr (r_var rfl (by first | exact .inl rfl | exact .inr (.inl rfl) | exact .inr (.inr rfl))) r_int) (r_and1 (r_cmp hr (r_var rfl (by first | exact .inl rfl | exact .inr (.inl rfl) | exact .inr (.inr rfl))) r_non))))
      ss_nil) ss_nil)
      (ss_cons (s_ret (r_and (r_cmp hr (r_var rfl (by first | exact .inl rfl | exact .inr (.inl rfl) | exact .inr (.inr rfl))) (r_biB (b := .len) rfl rfl T.n_len (rA_cons (r_ix hr (r_var rfl (by first | exact .inl rfl | exact .inr (.inl rfl) | exact .inr (.inr rfl))) r_int) rA_nil))) (r_and1 (r_cmp hr (r_biB (b := .len) rfl rfl T.n_len (rA_cons (r_call F__law_stands (hr.mono (by decide)) (takes_of rfl rfl rfl rfl) rfl (rA_cons (r_frz rfl (by first | exact .inl rfl | exact .inr (.inl rfl) | exact .inr (.inr rfl))) (rA_cons (r_frz rfl (by first | exact .inl rfl | exact .inr (.inl rfl) | exact .inr (.inr rfl))) rA_nil))) rA_nil)) (r_var rfl (by first | exact .inl rfl | exact .inr (.inl rfl) | exact .inr (.inr rfl)))))))
      ss_nil))))))
abbrev st_law : Stmt := top 45
theorem sc_law : FnScope N_law ["_law_script"] (defScope st_law) := ⟨rfl, rfl, rfl, by decide +kernel, rfl, by decide +kernel, by decide +kernel⟩
theorem w_law (T : Tx P K mg C_InvalidBook f_InvalidBook C_InvalidCut f_InvalidCut) {a__law_draw : Addr} {d__law_draw : FuncData} (F__law_draw : FnAt P w K mg base 1 i__law_draw a__law_draw d__law_draw) {a__law_book : Addr} {d__law_book : FuncData} (F__law_book : FnAt P w K mg base 3 i__law_book a__law_book d__law_book) {a__law_cut : Addr} {d__law_cut : FuncData} (F__law_cut : FnAt P w K mg base 3 i__law_cut a__law_cut d__law_cut) {a__law_of : Addr} {d__law_of : FuncData} (F__law_of : FnAt P w K mg base 2 i__law_of a__law_of d__law_of) {a__law_anchor : Addr} {d__law_anchor : FuncData} (F__law_anchor : FnAt P w K mg base 9 i__law_anchor a__law_anchor d__law_anchor) {a_fewest_cells : Addr} {d_fewest_cells : FuncData} (F_fewest_cells : FnAt P w K mg base 8 i_fewest_cells a_fewest_cells d_fewest_cells) {a__law_ways : Addr} {d__law_ways : FuncData} (F__law_ways : FnAt P w K mg base 1 i__law_ways a__law_ways d__law_ways) {a__law_any : Addr} {d__law_any : FuncData} (F__law_any : FnAt P w K mg base 1 i__law_any a__law_any d__law_any) {a_fewest_hold : Addr} {d_fewest_hold : FuncData} (F_fewest_hold : FnAt P w K mg base 8 i_fewest_hold a_fewest_hold d_fewest_hold) {a__law_tried : Addr} {d__law_tried : FuncData} (F__law_tried : FnAt P w K mg base 9 i__law_tried a__law_tried d__law_tried) {a__law_due : Addr} {d__law_due : FuncData} (F__law_due : FnAt P w K mg base 3 i__law_due a__law_due d__law_due) {a__law_fit : Addr} {d__law_fit : FuncData} (F__law_fit : FnAt P w K mg base 2 i__law_fit a__law_fit d__law_fit) {a__law_stands : Addr} {d__law_stands : FuncData} (F__law_stands : FnAt P w K mg base 1 i__law_stands a__law_stands d__law_stands)  {a : Addr} {d : FuncData} (F : L2.Fun K "law" "law" st_law a d) (gl : mg "law" = some (.ref a)) (bi : Binds K d i_law.ps []) : FnAt P w K mg base 10 i_law a d :=
  def_at (k := 9) F sc_law rfl (by decide) (by decide) gl bi fun cdv A outer s H E hr =>
    (ss_cons (s_set sc_law.nd rfl (by first | exact .inl rfl | exact .inr rfl) (r_call F__law_draw (hr.mono (by decide)) (takes_of rfl rfl rfl rfl) rfl (rA_cons (r_frz rfl (by first | exact .inl rfl | exact .inr (.inl rfl) | exact .inr (.inr rfl))) (rA_cons r_int rA_nil))))
      (ss_cons (s_if (rt_not (rt_val (r_call0 F__law_anchor (hr.mono (by decide)) (takes_of rfl rfl rfl rfl) rfl))) (ss_cons (s_ret r_bl)
      ss_nil) ss_nil)
      (ss_cons (s_set sc_law.nd rfl (by first | exact .inl rfl | exact .inr rfl) (r_call F__law_book (hr.mono (by decide)) (takes_of rfl rfl rfl rfl) rfl (pa_cons (pv_at rfl (by first | exact .inl rfl | exact .inr (.inl rfl) | exact .inr (.inr rfl))) (rA_cons r_int rA_nil))))
      (ss_cons (s_set sc_law.nd rfl (by first | exact .inl rfl | exact .inr rfl) (r_call F__law_cut (hr.mono (by decide)) (takes_of rfl rfl rfl rfl) rfl (pa_cons (pv_at rfl (by first | exact .inl rfl | exact .inr (.inl rfl) | exact .inr (.inr rfl))) (rA_cons (r_frz rfl (by first | exact .inl rfl | exact .inr (.inl rfl) | exact .inr (.inr rfl))) (rA_cons r_int (rA_cons r_bl rA_nil))))))
      (ss_cons (s_parT rfl (rA_cons (r_call F_fewest_cells (hr.mono (by decide)) (takes_of rfl rfl rfl rfl) rfl (rA_cons (r_frz rfl (by first | exact .inl rfl | exact .inr (.inl rfl) | exact .inr (.inr rfl))) (rA_cons (r_frz rfl (by first | exact .inl rfl | exact .inr (.inl rfl) | exact .inr (.inr rfl))) rA_nil))) (rA_cons (r_lc (own := [("_law_at", 12)]) rfl sc_law.nd (i_rng1 rfl T.n_range (rA_cons (r_biB (b := .len) rfl rfl T.n_len (rA_cons (r_ix hr (r_var rfl (by first | exact .inl rfl | exact .inr (.inl rfl) | exact .inr (.inr rfl))) r_int) rA_nil)) rA_nil)) (blkOk_by rfl) (fun _ _ _ _ _ => (rG_nm sc_law.nd rfl (by first | exact .inl rfl | exact .inr rfl))) (fun _ _ _ _ _ => rI_nil) (fun _ _ _ _ _ => (r_biB (b := .len) rfl rfl T.n_len (rA_cons (r_call F__law_stands (hr.mono (by decide)) takes_none5 rfl (rA_cons (r_frz rfl (by first | exact .inl rfl | exact .inr (.inl rfl) | exact .inr (.inr rfl))) (rA_cons (r_frz rfl (by first | exact .inl rfl | exact .inr (.inl rfl) | exact .inr (.inr rfl))) rA_nil))) rA_nil)))) rA_nil)) (rN_cons sc_law.nd rfl (by first | exact .inl rfl | exact .inr rfl) (rN_cons sc_law.nd rfl (by first | exact .inl rfl | exact .inr rfl) rN_nil)))
      (ss_cons (s_if (rt_or (rw_or (rt_not (rt_val (r_call F__law_due (hr.mono (by decide)) (takes_of rfl rfl rfl rfl) rfl (rA_cons (r_frz rfl (by first | exact .inl rfl | exact .inr (.inl rfl) | exact .inr (.inr rfl))) (rA_cons (r_frz rfl (by first | exact .inl rfl | exact .inr (.inl rfl) | exact .inr (.inr rfl))) rA_nil))))) (rw_or (rt_cmp hr (r_ix hr (r_var rfl (by first | exact .inl rfl | exact .inr (.inl rfl) | exact .inr (.inr rfl))) r_int) (r_biB (b := .max) rfl rfl T.n_max (rA_cons (r_var rfl (by first | exact .inl rfl | exact .inr (.inl rfl) | exact .inr (.inr rfl))) rA_nil))) (rw_or1 (rt_cmp hr (r_ix hr (r_var rfl (by first | exact .inl rfl | exact .inr (.inl rfl) | exact .inr (.inr rfl))) r_int) (r_index (r_var rfl (by first | exact .inl rfl | exact .inr (.inl rfl) | exact .inr (.inr rfl))) (rA_cons (r_biB (b := .max) rfl rfl T.n_max (rA_cons (r_var rfl (by first | exact .inl rfl | exact .inr (.inl rfl) | exact .inr (.inr rfl))) rA_nil)) rA_nil))))))) (ss_cons (s_ret r_bl)
      ss_nil) ss_nil)
      (ss_cons (s_if (rt_cmp hr (r_biB (b := .len) rfl rfl T.n_len (rA_cons (r_ix hr (r_var rfl (by first | exact .inl rfl | exact .inr (.inl rfl) | exact .inr (.inr rfl))) r_int) rA_nil)) r_int) (ss_cons (s_for (passes_of rfl) rfl (i_seq (r_call F__law_ways (hr.mono (by decide)) (takes_of rfl rfl rfl rfl) rfl (rA_cons (r_biB (b := .len) rfl rfl T.n_len (rA_cons (r_ix hr (r_var rfl (by first | exact .inl rfl | exact .inr (.inl rfl) | exact .inr (.inr rfl))) r_int) rA_nil)) (rA_cons (r_bin (r_ix hr (r_var rfl (by first | exact .inl rfl | exact .inr (.inl rfl) | exact .inr (.inr rfl))) r_int) r_int) rA_nil)))) (rG_nm sc_law.nd rfl (by first | exact .inl rfl | exact .inr rfl)) (ss_cons (s_if (rt_val (r_call F__law_fit (hr.mono (by decide)) (takes_of rfl rfl rfl rfl) rfl (rA_cons (r_frz rfl (by first | exact .inl rfl | exact .inr (.inl rfl) | exact .inr (.inr rfl))) (rA_cons (r_frz rfl (by first | exact .inl rfl | exact .inr (.inl rfl) | exact .inr (.inr rfl))) rA_nil)))) (ss_cons (s_ret r_bl)
      ss_nil) ss_nil)
      ss_nil))
      ss_nil) ss_nil)
      (ss_cons (by first | exact s_par rfl sc_law.nd rfl rfl (by decide) rfl rfl (rA_cons (r_call F__law_any (hr.mono (by decide)) (takes_of rfl rfl rfl rfl) rfl (pa_cons (pv_at rfl (by first | exact .inl rfl | exact .inr (.inl rfl) | exact .inr (.inr rfl))) (rA_cons (r_biB (b := .len) rfl rfl T.n_len (rA_cons (r_ix hr (r_var rfl (by first | exact .inl rfl | exact .inr (.inl rfl) | exact .inr (.inr rfl))) r_int) rA_nil)) rA_nil))) (rA_cons (r_call F__law_any (hr.mono (by decide)) (takes_of rfl rfl rfl rfl) rfl (pa_cons (pv_at rfl (by first | exact .inl rfl | exact .inr (.inl rfl) | exact .inr (.inr rfl))) (rA_cons (r_bin (r_ix hr (r_var rfl (by first | exact .inl rfl | exact .inr (.inl rfl) | exact .inr (.inr rfl))) r_int) r_int) rA_nil))) rA_nil)) rfl | exact s_parT rfl (rA_cons (r_call F__law_any (hr.mono (by decide)) (takes_of rfl rfl rfl rfl) rfl (pa_cons (pv_at rfl (by first | exact .inl rfl | exact .inr (.inl rfl) | exact .inr (.inr rfl))) (rA_cons (r_biB (b := .len) rfl rfl T.n_len (rA_cons (r_ix hr (r_var rfl (by first | exact .inl rfl | exact .inr (.inl rfl) | exact .inr (.inr rfl))) r_int) rA_nil)) rA_nil))) (rA_cons (r_call F__law_any (hr.mono (by decide)) (takes_of rfl rfl rfl rfl) rfl (pa_cons (pv_at rfl (by first | exact .inl rfl | exact .inr (.inl rfl) | exact .inr (.inr rfl))) (rA_cons (r_bin (r_ix hr (r_var rfl (by first | exact .inl rfl | exact .inr (.inl rfl) | exact .inr (.inr rfl))) r_int) r_int) rA_nil))) rA_nil)) (rN_cons sc_law.nd rfl (by first | exact .inl rfl | exact .inr rfl) (rN_cons sc_law.nd rfl (by first | exact .inl rfl | exact .inr rfl) rN_nil)))
      (ss_cons (s_set sc_law.nd rfl (by first | exact .inl rfl | exact .inr rfl) (r_biT (b := .tuple) rfl rfl T.n_tuple (rA_cons (r_lc (own := [("_law_one", 17)]) rfl sc_law.nd (i_seq (r_ix hr (r_var rfl (by first | exact .inl rfl | exact .inr (.inl rfl) | exact .inr (.inr rfl))) r_int)) (blkOk_by rfl) (fun _ _ _ _ _ => (rG_nm sc_law.nd rfl (by first | exact .inl rfl | exact .inr rfl))) (fun _ _ _ _ _ => rI_nil) (fun _ _ _ _ _ => (r_bin (r_bin (r_ix hr (r_var rfl (by first | exact .inl rfl | exact .inr (.inl rfl) | exact .inr (.inr rfl))) r_int) r_int) (r_var rfl (by first | exact .inl rfl | exact .inr (.inl rfl) | exact .inr (.inr rfl)))))) rA_nil)))
      (ss_cons (s_setT (r_frz rfl (by first | exact .inl rfl | exact .inr (.inl rfl) | exact .inr (.inr rfl))) (rG_tp rfl (rGs_cons (rG_nm sc_law.nd rfl (by first | exact .inl rfl | exact .inr rfl)) (rGs_cons (rG_nm sc_law.nd rfl (by first | exact .inl rfl | exact .inr rfl)) (rGs_cons (rG_nm sc_law.nd rfl (by first | exact .inl rfl | exact .inr rfl)) rGs_nil)))))
      (ss_cons (s_set sc_law.nd rfl (by first | exact .inl rfl | exact .inr rfl) (r_lst (rA_cons (r_frz rfl (by first | exact .inl rfl | exact .inr (.inl rfl) | exact .inr (.inr rfl))) (rA_cons (r_biT (b := .list) rfl rfl T.n_list (rA_cons (r_var rfl (by first | exact .inl rfl | exact .inr (.inl rfl) | exact .inr (.inr rfl))) rA_nil)) (rA_cons (r_tup (rA_cons (r_frz rfl (by first | exact .inl rfl | exact .inr (.inl rfl) | exact .inr (.inr rfl))) (rA_cons (r_frz rfl (by first | exact .inl rfl | exact .inr (.inl rfl) | exact .inr (.inr rfl))) (rA_cons (r_frz rfl (by first | exact .inl rfl | exact .inr (.inl rfl) | exact .inr (.inr rfl))) rA_nil)))) (rA_cons (r_tup (rA_cons (r_bin (r_var rfl (by first | exact .inl rfl | exact .inr (.inl rfl) | exact .inr (.inr rfl))) r_int) (rA_cons (r_frz rfl (by first | exact .inl rfl | exact .inr (.inl rfl) | exact .inr (.inr rfl))) (rA_cons (r_frz rfl (by first | exact .inl rfl | exact .inr (.inl rfl) | exact .inr (.inr rfl))) rA_nil)))) (rA_cons (r_sl (r_var rfl (by first | exact .inl rfl | exact .inr (.inl rfl) | exact .inr (.inr rfl))) ro_none (ro_some r_int)) (rA_cons (r_bin (r_var rfl (by first | exact .inl rfl | exact .inr (.inl rfl) | exact .inr (.inr rfl))) (r_tup (rA_cons r_int rA_nil))) (rA_cons r_non (rA_cons (r_tup rA_nil) rA_nil))))))))))
      (ss_cons (s_set sc_law.nd rfl (by first | exact .inl rfl | exact .inr rfl) (r_bin (r_var rfl (by first | exact .inl rfl | exact .inr (.inl rfl) | exact .inr (.inr rfl))) (r_lst (rA_cons (r_tup (rA_cons (r_frz rfl (by first | exact .inl rfl | exact .inr (.inl rfl) | exact .inr (.inr rfl))) (rA_cons (r_bin (r_bin (r_sl (r_var rfl (by first | exact .inl rfl | exact .inr (.inl rfl) | exact .inr (.inr rfl))) ro_none (ro_some (r_var rfl (by first | exact .inl rfl | exact .inr (.inl rfl) | exact .inr (.inr rfl))))) (r_tup (rA_cons (r_frz rfl (by first | exact .inl rfl | exact .inr (.inl rfl) | exact .inr (.inr rfl))) rA_nil))) (r_sl (r_var rfl (by first | exact .inl rfl | exact .inr (.inl rfl) | exact .inr (.inr rfl))) (ro_some (r_bin (r_var rfl (by first | exact .inl rfl | exact .inr (.inl rfl) | exact .inr (.inr rfl))) r_int)) ro_none)) (rA_cons (r_frz rfl (by first | exact .inl rfl | exact .inr (.inl rfl) | exact .inr (.inr rfl))) rA_nil)))) (rA_cons (r_tup (rA_cons (r_frz rfl (by first | exact .inl rfl | exact .inr (.inl rfl) | exact .inr (.inr rfl))) (rA_cons (r_frz rfl (by first | exact .inl rfl | exact .inr (.inl rfl) | exact .inr (.inr rfl))) (rA_cons (r_frz rfl (by first | exact .inl rfl | exact .inr (.inl rfl) | exact .inr (.inr rfl))) rA_nil)))) (rA_cons (r_tup (rA_cons (r_frz rfl (by first | exact .inl rfl | exact .inr (.inl rfl) | exact .inr (.inr rfl))) (rA_cons (r_biT (b := .list) rfl rfl T.n_list (rA_cons (r_var rfl (by first | exact .inl rfl | exact .inr (.inl rfl) | exact .inr (.inr rfl))) rA_nil)) (rA_cons r_int rA_nil)))) rA_nil))))))
      (ss_cons (s_set sc_law.nd rfl (by first | exact .inl rfl | exact .inr rfl) (r_bin (r_var rfl (by first | exact .inl rfl | exact .inr (.inl rfl) | exact .inr (.inr rfl))) (r_lst (rA_cons (r_tup (rA_cons (r_frz rfl (by first | exact .inl rfl | exact .inr (.inl rfl) | exact .inr (.inr rfl))) (rA_cons (r_frz rfl (by first | exact .inl rfl | exact .inr (.inl rfl) | exact .inr (.inr rfl))) (rA_cons r_non rA_nil)))) (rA_cons (r_tup (rA_cons (r_frz rfl (by first | exact .inl rfl | exact .inr (.inl rfl) | exact .inr (.inr rfl))) (rA_cons (r_sl (r_var rfl (by first | exact .inl rfl | exact .inr (.inl rfl) | exact .inr (.inr rfl))) (ro_some r_int) ro_none) (rA_cons (r_frz rfl (by first | exact .inl rfl | exact .inr (.inl rfl) | exact .inr (.inr rfl))) rA_nil)))) (rA_cons (r_tup (rA_cons r_bl (rA_cons (r_frz rfl (by first | exact .inl rfl | exact .inr (.inl rfl) | exact .inr (.inr rfl))) (rA_cons (r_frz rfl (by first | exact .inl rfl | exact .inr (.inl rfl) | exact .inr (.inr rfl))) rA_nil)))) (rA_cons (r_tup (rA_cons (r_frz rfl (by first | exact .inl rfl | exact .inr (.inl rfl) | exact .inr (.inr rfl))) (rA_cons (r_frz rfl (by first | exact .inl rfl | exact .inr (.inl rfl) | exact .inr (.inr rfl))) (rA_cons r_int rA_nil)))) rA_nil)))))))
      (ss_cons (s_for (passes_of rfl) rfl (i_seq (r_frz rfl (by first | exact .inl rfl | exact .inr (.inl rfl) | exact .inr (.inr rfl)))) (rG_nm sc_law.nd rfl (by first | exact .inl rfl | exact .inr rfl)) (ss_cons (s_set sc_law.nd rfl (by first | exact .inl rfl | exact .inr rfl) (r_call F_fewest_hold (hr.mono (by decide)) (takes_of rfl rfl rfl rfl) rfl (rA_cons (r_frz rfl (by first | exact .inl rfl | exact .inr (.inl rfl) | exact .inr (.inr rfl))) (rA_cons (r_frz rfl (by first | exact .inl rfl | exact .inr (.inl rfl) | exact .inr (.inr rfl))) (rA_cons (r_frz rfl (by first | exact .inl rfl | exact .inr (.inl rfl) | exact .inr (.inr rfl))) rA_nil)))))
      (ss_cons (s_if (rt_or (rw_or (rt_not (rt_val (r_isi (t := .bool) rfl T.n_isinstance (r_var rfl (by first | exact .inl rfl | exact .inr (.inl rfl) | exact .inr (.inr rfl))) (r_ty rfl T.n_bool)))) (rw_or1 (rt_cmp hr (r_var rfl (by first | exact .inl rfl | exact .inr (.inl rfl) | exact .inr (.inr rfl))) (r_call F__law_due (hr.mono (by decide)) (takes_of rfl rfl rfl rfl) rfl (rA_cons (r_frz rfl (by first | exact .inl rfl | exact .inr (.inl rfl) | exact .inr (.inr rfl))) (rA_cons (r_frz rfl (by first | exact .inl rfl | exact .inr (.inl rfl) | exact .inr (.inr rfl))) rA_nil))))))) (ss_cons (s_ret r_bl)
      ss_nil) ss_nil)
      ss_nil)))
      (ss_cons (s_set sc_law.nd rfl (by first | exact .inl rfl | exact .inr rfl) (r_call F__law_of (hr.mono (by decide)) (takes_of rfl rfl rfl rfl) rfl (pa_cons (pv_at rfl (by first | exact .inl rfl | exact .inr (.inl rfl) | exact .inr (.inr rfl))) (rA_cons (r_lst (rA_cons r_non (rA_cons r_int (rA_cons r_str (rA_cons r_bl rA_nil))))) rA_nil))))
      (ss_cons (s_for (passes_of rfl) rfl (i_seq (r_lst (rA_cons r_str (rA_cons r_str rA_nil)))) (rG_nm sc_law.nd rfl (by first | exact .inl rfl | exact .inr rfl)) (ss_cons (s_if (rt_or (rw_or (rt_cmp hr (r_call F__law_tried (hr.mono (by decide)) (takes_of rfl rfl rfl rfl) rfl (rA_cons (r_frz rfl (by first | exact .inl rfl | exact .inr (.inl rfl) | exact .inr (.inr rfl))) (rA_cons (r_tup (rA_cons (r_frz rfl (by first | exact .inl rfl | exact .inr (.inl rfl) | exact .inr (.inr rfl))) (rA_cons r_non rA_nil))) rA_nil))) (r_tup (rA_cons r_str (rA_cons (r_neg r_int) rA_nil)))) (rw_or1 (rt_cmp hr (r_call F__law_tried (hr.mono (by decide)) (takes_of rfl rfl rfl rfl) rfl (rA_cons (r_frz rfl (by first | exact .inl rfl | exact .inr (.inl rfl) | exact .inr (.inr rfl))) (rA_cons (r_tup (rA_cons (r_frz rfl (by first | exact .inl rfl | exact .inr (.inl rfl) | exact .inr (.inr rfl))) (rA_cons (r_frz rfl (by first | exact .inl rfl | exact .inr (.inl rfl) | exact .inr (.inr rfl))) rA_nil))) rA_nil))) (r_tup (rA_cons r_str (rA_cons (r_neg r_int) rA_nil))))))) (ss_cons (s_ret r_bl)
      ss_nil) ss_nil)
      ss_nil))
      (ss_cons (s_ret (r_cmp hr (r_call F__law_tried (hr.mono (by decide)) (takes_of rfl rfl rfl rfl) rfl (rA_cons r_str (rA_cons (r_tup (rA_cons (r_frz rfl (by first | exact .inl rfl | exact .inr (.inl rfl) | exact .inr (.inr rfl))) (rA_cons (r_bin (r_sl (r_var rfl (by first | exact .inl rfl | exact .inr (.inl rfl) | exact .inr (.inr rfl))) ro_none (ro_some r_int)) (r_tup (rA_cons (r_frz rfl (by first | exact .inl rfl | exact .inr (.inl rfl) | exact .inr (.inr rfl))) rA_nil))) rA_nil))) rA_nil))) (r_tup (rA_cons r_str (rA_cons r_int rA_nil)))))
      ss_nil)))))))))))))))))
end
end W74

set_option Elab.async false
set_option linter.all false
set_option maxRecDepth 100000
set_option maxHeartbeats 0
namespace W74
open PySem L2 DV PyProof.Rows
abbrev cl_InvalidBook : Stmt := initOf (top 2)
theorem it_InvalidBook : PySem.DVE.InitTxt "at" "at" (defArgs cl_InvalidBook) (defBody cl_InvalidBook) (defScope cl_InvalidBook) := { bd := ⟨_, _, _, _, _, _, _, _, _, _, _, _, rfl, rfl⟩, hd := ⟨_, rfl, rfl⟩, ks := rfl, kc := rfl, ka := rfl, kb := rfl, kind := rfl, co := rfl, gen := rfl, nocell := by decide +kernel, ne := by decide +kernel, dbg := by decide +kernel }
abbrev cl_InvalidCut : Stmt := initOf (top 3)
theorem it_InvalidCut : PySem.DVE.InitTxt "at" "at" (defArgs cl_InvalidCut) (defBody cl_InvalidCut) (defScope cl_InvalidCut) := { bd := ⟨_, _, _, _, _, _, _, _, _, _, _, _, rfl, rfl⟩, hd := ⟨_, rfl, rfl⟩, ks := rfl, kc := rfl, ka := rfl, kb := rfl, kind := rfl, co := rfl, gen := rfl, nocell := by decide +kernel, ne := by decide +kernel, dbg := by decide +kernel }
theorem all_mk {w : World} {K : PySem.W.Frag} {h : Heap} {mg : Str → Option Value} {fa : Addr} (X : K.In h) (G : h.Ns mainGlobals mg) (hfa : mg "law" = some (.ref fa))
    {f0 : Addr} {od0 an0 : Option Addr} {sl0 : Array (Option Value)} {oc0 kV0 dc0 pm0 cd0 ct0 : Value}
    {f1 : Addr} {od1 an1 : Option Addr} {sl1 : Array (Option Value)} {oc1 kV1 dc1 pm1 cd1 ct1 : Value}
    {f2 : Addr} {od2 an2 : Option Addr} {sl2 : Array (Option Value)} {oc2 kV2 dc2 pm2 cd2 ct2 : Value}
    {f3 : Addr} {od3 an3 : Option Addr} {sl3 : Array (Option Value)} {oc3 kV3 dc3 pm3 cd3 ct3 : Value}
    {f4 : Addr} {od4 an4 : Option Addr} {sl4 : Array (Option Value)} {oc4 kV4 dc4 pm4 cd4 ct4 : Value}
    {f5 : Addr} {od5 an5 : Option Addr} {sl5 : Array (Option Value)} {oc5 kV5 dc5 pm5 cd5 ct5 : Value}
    {f6 : Addr} {od6 an6 : Option Addr} {sl6 : Array (Option Value)} {oc6 kV6 dc6 pm6 cd6 ct6 : Value}
    {f7 : Addr} {od7 an7 : Option Addr} {sl7 : Array (Option Value)} {oc7 kV7 dc7 pm7 cd7 ct7 : Value}
    {f8 : Addr} {od8 an8 : Option Addr} {sl8 : Array (Option Value)} {oc8 kV8 dc8 pm8 cd8 ct8 : Value}
    {f9 : Addr} {od9 an9 : Option Addr} {sl9 : Array (Option Value)} {oc9 kV9 dc9 pm9 cd9 ct9 : Value}
    {f10 : Addr} {od10 an10 : Option Addr} {sl10 : Array (Option Value)} {oc10 kV10 dc10 pm10 cd10 ct10 : Value}
    {f11 : Addr} {od11 an11 : Option Addr} {sl11 : Array (Option Value)} {oc11 kV11 dc11 pm11 cd11 ct11 : Value}
    {f12 : Addr} {od12 an12 : Option Addr} {sl12 : Array (Option Value)} {oc12 kV12 dc12 pm12 cd12 ct12 : Value}
    {f13 : Addr} {od13 an13 : Option Addr} {sl13 : Array (Option Value)} {oc13 kV13 dc13 pm13 cd13 ct13 : Value}
    {f14 : Addr} {od14 an14 : Option Addr} {sl14 : Array (Option Value)} {oc14 kV14 dc14 pm14 cd14 ct14 : Value}
    {f15 : Addr} {od15 an15 : Option Addr} {sl15 : Array (Option Value)} {oc15 kV15 dc15 pm15 cd15 ct15 : Value}
    {f16 : Addr} {od16 an16 : Option Addr} {sl16 : Array (Option Value)} {oc16 kV16 dc16 pm16 cd16 ct16 : Value}
    {f17 : Addr} {od17 an17 : Option Addr} {sl17 : Array (Option Value)} {oc17 kV17 dc17 pm17 cd17 ct17 : Value}
    {f18 : Addr} {od18 an18 : Option Addr} {sl18 : Array (Option Value)} {oc18 kV18 dc18 pm18 cd18 ct18 : Value}
    {f19 : Addr} {od19 an19 : Option Addr} {sl19 : Array (Option Value)} {oc19 kV19 dc19 pm19 cd19 ct19 : Value}
    {f20 : Addr} {od20 an20 : Option Addr} {sl20 : Array (Option Value)} {oc20 kV20 dc20 pm20 cd20 ct20 : Value}
    {f21 : Addr} {od21 an21 : Option Addr} {sl21 : Array (Option Value)} {oc21 kV21 dc21 pm21 cd21 ct21 : Value}
    {f22 : Addr} {od22 an22 : Option Addr} {sl22 : Array (Option Value)} {oc22 kV22 dc22 pm22 cd22 ct22 : Value}
    {f23 : Addr} {od23 an23 : Option Addr} {sl23 : Array (Option Value)} {oc23 kV23 dc23 pm23 cd23 ct23 : Value}
    {f24 : Addr} {od24 an24 : Option Addr} {sl24 : Array (Option Value)} {oc24 kV24 dc24 pm24 cd24 ct24 : Value}
    {f25 : Addr} {od25 an25 : Option Addr} {sl25 : Array (Option Value)} {oc25 kV25 dc25 pm25 cd25 ct25 : Value}
    {f26 : Addr} {od26 an26 : Option Addr} {sl26 : Array (Option Value)} {oc26 kV26 dc26 pm26 cd26 ct26 : Value}
    {f27 : Addr} {od27 an27 : Option Addr} {sl27 : Array (Option Value)} {oc27 kV27 dc27 pm27 cd27 ct27 : Value}
    {f28 : Addr} {od28 an28 : Option Addr} {sl28 : Array (Option Value)} {oc28 kV28 dc28 pm28 cd28 ct28 : Value}
    {f29 : Addr} {od29 an29 : Option Addr} {sl29 : Array (Option Value)} {oc29 kV29 dc29 pm29 cd29 ct29 : Value}
    {f30 : Addr} {od30 an30 : Option Addr} {sl30 : Array (Option Value)} {oc30 kV30 dc30 pm30 cd30 ct30 : Value}
    {f31 : Addr} {od31 an31 : Option Addr} {sl31 : Array (Option Value)} {oc31 kV31 dc31 pm31 cd31 ct31 : Value}
    {f32 : Addr} {od32 an32 : Option Addr} {sl32 : Array (Option Value)} {oc32 kV32 dc32 pm32 cd32 ct32 : Value}
    {t_MOST_OPERATIONS : Tok}
    {t_MOST_PLACES : Tok}
    {t_MOST_SIZE : Tok}
    {C_InvalidBook fI_InvalidBook N_InvalidBook F_InvalidBook cda_InvalidBook cc_InvalidBook : Addr} {nm_InvalidBook q_InvalidBook : Str} {bs_InvalidBook sub_InvalidBook : List Value} {sn_InvalidBook : List Str} {ab_InvalidBook : Bool} {col_InvalidBook : Option Bool} {dd_InvalidBook : Option Addr} {m0_InvalidBook m1_InvalidBook m2_InvalidBook m3_InvalidBook m5_InvalidBook : Option Value}
    {oi_InvalidBook kVi_InvalidBook di_InvalidBook pi_InvalidBook cti_InvalidBook : Value} {odi_InvalidBook ani_InvalidBook : Option Addr} {sli_InvalidBook : Array (Option Value)} {cl_o_InvalidBook : Value} {cl_d_InvalidBook : Option Addr} {cl_s_InvalidBook : Array (Option Value)} {cc_o_InvalidBook : Value} {cc_d_InvalidBook : Option Addr} {vs_InvalidBook : Array Value} {cc_s_InvalidBook : Array (Option Value)} {fl_InvalidBook : Str} {tkf_InvalidBook : Tok}
    {C_InvalidCut fI_InvalidCut N_InvalidCut F_InvalidCut cda_InvalidCut cc_InvalidCut : Addr} {nm_InvalidCut q_InvalidCut : Str} {bs_InvalidCut sub_InvalidCut : List Value} {sn_InvalidCut : List Str} {ab_InvalidCut : Bool} {col_InvalidCut : Option Bool} {dd_InvalidCut : Option Addr} {m0_InvalidCut m1_InvalidCut m2_InvalidCut m3_InvalidCut m5_InvalidCut : Option Value}
    {oi_InvalidCut kVi_InvalidCut di_InvalidCut pi_InvalidCut cti_InvalidCut : Value} {odi_InvalidCut ani_InvalidCut : Option Addr} {sli_InvalidCut : Array (Option Value)} {cl_o_InvalidCut : Value} {cl_d_InvalidCut : Option Addr} {cl_s_InvalidCut : Array (Option Value)} {cc_o_InvalidCut : Value} {cc_d_InvalidCut : Option Addr} {vs_InvalidCut : Array Value} {cc_s_InvalidCut : Array (Option Value)} {fl_InvalidCut : Str} {tkf_InvalidCut : Tok}
    (a0 : PySem.W.nsIn K mainGlobals "_law_draw" = some (some (.ref f0)))
    (l0 : K.lookup f0 = some ⟨oc0, od0, .func (PySem.W.fnOf "_law_draw" "_law_draw" (defArgs st__law_draw) (defBody st__law_draw) (defScope st__law_draw) .none kV0 dc0 pm0 an0 cd0 ct0), sl0⟩)
    (c0 : PySem.W.codeIn K cd0 "_law_draw" = true)
    (k0 : PySem.W.keepIn K (.ref f0) = true)
    (a1 : PySem.W.nsIn K mainGlobals "_law_any" = some (some (.ref f1)))
    (l1 : K.lookup f1 = some ⟨oc1, od1, .func (PySem.W.fnOf "_law_any" "_law_any" (defArgs st__law_any) (defBody st__law_any) (defScope st__law_any) .none kV1 dc1 pm1 an1 cd1 ct1), sl1⟩)
    (c1 : PySem.W.codeIn K cd1 "_law_any" = true)
    (k1 : PySem.W.keepIn K (.ref f1) = true)
    (a2 : PySem.W.nsIn K mainGlobals "_law_rows" = some (some (.ref f2)))
    (l2 : K.lookup f2 = some ⟨oc2, od2, .func (PySem.W.fnOf "_law_rows" "_law_rows" (defArgs st__law_rows) (defBody st__law_rows) (defScope st__law_rows) .none kV2 dc2 pm2 an2 cd2 ct2), sl2⟩)
    (c2 : PySem.W.codeIn K cd2 "_law_rows" = true)
    (k2 : PySem.W.keepIn K (.ref f2) = true)
    (a3 : PySem.W.nsIn K mainGlobals "_law_operation" = some (some (.ref f3)))
    (l3 : K.lookup f3 = some ⟨oc3, od3, .func (PySem.W.fnOf "_law_operation" "_law_operation" (defArgs st__law_operation) (defBody st__law_operation) (defScope st__law_operation) .none kV3 dc3 pm3 an3 cd3 ct3), sl3⟩)
    (c3 : PySem.W.codeIn K cd3 "_law_operation" = true)
    (k3 : PySem.W.keepIn K (.ref f3) = true)
    (a4 : PySem.W.nsIn K mainGlobals "_law_book" = some (some (.ref f4)))
    (l4 : K.lookup f4 = some ⟨oc4, od4, .func (PySem.W.fnOf "_law_book" "_law_book" (defArgs st__law_book) (defBody st__law_book) (defScope st__law_book) .none kV4 dc4 pm4 an4 cd4 ct4), sl4⟩)
    (c4 : PySem.W.codeIn K cd4 "_law_book" = true)
    (k4 : PySem.W.keepIn K (.ref f4) = true)
    (a5 : PySem.W.nsIn K mainGlobals "_law_of" = some (some (.ref f5)))
    (l5 : K.lookup f5 = some ⟨oc5, od5, .func (PySem.W.fnOf "_law_of" "_law_of" (defArgs st__law_of) (defBody st__law_of) (defScope st__law_of) .none kV5 dc5 pm5 an5 cd5 ct5), sl5⟩)
    (c5 : PySem.W.codeIn K cd5 "_law_of" = true)
    (k5 : PySem.W.keepIn K (.ref f5) = true)
    (a6 : PySem.W.nsIn K mainGlobals "_law_cut" = some (some (.ref f6)))
    (l6 : K.lookup f6 = some ⟨oc6, od6, .func (PySem.W.fnOf "_law_cut" "_law_cut" (defArgs st__law_cut) (defBody st__law_cut) (defScope st__law_cut) .none kV6 dc6 pm6 an6 cd6 ct6), sl6⟩)
    (c6 : PySem.W.codeIn K cd6 "_law_cut" = true)
    (k6 : PySem.W.keepIn K (.ref f6) = true)
    (a7 : PySem.W.nsIn K mainGlobals "is_sequence" = some (some (.ref f7)))
    (l7 : K.lookup f7 = some ⟨oc7, od7, .func (PySem.W.fnOf "is_sequence" "is_sequence" (defArgs st_is_sequence) (defBody st_is_sequence) (defScope st_is_sequence) .none kV7 dc7 pm7 an7 cd7 ct7), sl7⟩)
    (c7 : PySem.W.codeIn K cd7 "is_sequence" = true)
    (k7 : PySem.W.keepIn K (.ref f7) = true)
    (a8 : PySem.W.nsIn K mainGlobals "is_pair" = some (some (.ref f8)))
    (l8 : K.lookup f8 = some ⟨oc8, od8, .func (PySem.W.fnOf "is_pair" "is_pair" (defArgs st_is_pair) (defBody st_is_pair) (defScope st_is_pair) .none kV8 dc8 pm8 an8 cd8 ct8), sl8⟩)
    (c8 : PySem.W.codeIn K cd8 "is_pair" = true)
    (k8 : PySem.W.keepIn K (.ref f8) = true)
    (a9 : PySem.W.nsIn K mainGlobals "is_integer" = some (some (.ref f9)))
    (l9 : K.lookup f9 = some ⟨oc9, od9, .func (PySem.W.fnOf "is_integer" "is_integer" (defArgs st_is_integer) (defBody st_is_integer) (defScope st_is_integer) .none kV9 dc9 pm9 an9 cd9 ct9), sl9⟩)
    (c9 : PySem.W.codeIn K cd9 "is_integer" = true)
    (k9 : PySem.W.keepIn K (.ref f9) = true)
    (a10 : PySem.W.nsIn K mainGlobals "is_number" = some (some (.ref f10)))
    (l10 : K.lookup f10 = some ⟨oc10, od10, .func (PySem.W.fnOf "is_number" "is_number" (defArgs st_is_number) (defBody st_is_number) (defScope st_is_number) .none kV10 dc10 pm10 an10 cd10 ct10), sl10⟩)
    (c10 : PySem.W.codeIn K cd10 "is_number" = true)
    (k10 : PySem.W.keepIn K (.ref f10) = true)
    (a11 : PySem.W.nsIn K mainGlobals "is_below" = some (some (.ref f11)))
    (l11 : K.lookup f11 = some ⟨oc11, od11, .func (PySem.W.fnOf "is_below" "is_below" (defArgs st_is_below) (defBody st_is_below) (defScope st_is_below) .none kV11 dc11 pm11 an11 cd11 ct11), sl11⟩)
    (c11 : PySem.W.codeIn K cd11 "is_below" = true)
    (k11 : PySem.W.keepIn K (.ref f11) = true)
    (a12 : PySem.W.nsIn K mainGlobals "power_of" = some (some (.ref f12)))
    (l12 : K.lookup f12 = some ⟨oc12, od12, .func (PySem.W.fnOf "power_of" "power_of" (defArgs st_power_of) (defBody st_power_of) (defScope st_power_of) .none kV12 dc12 pm12 an12 cd12 ct12), sl12⟩)
    (c12 : PySem.W.codeIn K cd12 "power_of" = true)
    (k12 : PySem.W.keepIn K (.ref f12) = true)
    (a13 : PySem.W.nsIn K mainGlobals "is_table" = some (some (.ref f13)))
    (l13 : K.lookup f13 = some ⟨oc13, od13, .func (PySem.W.fnOf "is_table" "is_table" (defArgs st_is_table) (defBody st_is_table) (defScope st_is_table) .none kV13 dc13 pm13 an13 cd13 ct13), sl13⟩)
    (c13 : PySem.W.codeIn K cd13 "is_table" = true)
    (k13 : PySem.W.keepIn K (.ref f13) = true)
    (a14 : PySem.W.nsIn K mainGlobals "is_operation" = some (some (.ref f14)))
    (l14 : K.lookup f14 = some ⟨oc14, od14, .func (PySem.W.fnOf "is_operation" "is_operation" (defArgs st_is_operation) (defBody st_is_operation) (defScope st_is_operation) .none kV14 dc14 pm14 an14 cd14 ct14), sl14⟩)
    (c14 : PySem.W.codeIn K cd14 "is_operation" = true)
    (k14 : PySem.W.keepIn K (.ref f14) = true)
    (a15 : PySem.W.nsIn K mainGlobals "in_tuples" = some (some (.ref f15)))
    (l15 : K.lookup f15 = some ⟨oc15, od15, .func (PySem.W.fnOf "in_tuples" "in_tuples" (defArgs st_in_tuples) (defBody st_in_tuples) (defScope st_in_tuples) .none kV15 dc15 pm15 an15 cd15 ct15), sl15⟩)
    (c15 : PySem.W.codeIn K cd15 "in_tuples" = true)
    (k15 : PySem.W.keepIn K (.ref f15) = true)
    (a16 : PySem.W.nsIn K mainGlobals "need_book" = some (some (.ref f16)))
    (l16 : K.lookup f16 = some ⟨oc16, od16, .func (PySem.W.fnOf "need_book" "need_book" (defArgs st_need_book) (defBody st_need_book) (defScope st_need_book) .none kV16 dc16 pm16 an16 cd16 ct16), sl16⟩)
    (c16 : PySem.W.codeIn K cd16 "need_book" = true)
    (k16 : PySem.W.keepIn K (.ref f16) = true)
    (a17 : PySem.W.nsIn K mainGlobals "is_list" = some (some (.ref f17)))
    (l17 : K.lookup f17 = some ⟨oc17, od17, .func (PySem.W.fnOf "is_list" "is_list" (defArgs st_is_list) (defBody st_is_list) (defScope st_is_list) .none kV17 dc17 pm17 an17 cd17 ct17), sl17⟩)
    (c17 : PySem.W.codeIn K cd17 "is_list" = true)
    (k17 : PySem.W.keepIn K (.ref f17) = true)
    (a18 : PySem.W.nsIn K mainGlobals "is_string" = some (some (.ref f18)))
    (l18 : K.lookup f18 = some ⟨oc18, od18, .func (PySem.W.fnOf "is_string" "is_string" (defArgs st_is_string) (defBody st_is_string) (defScope st_is_string) .none kV18 dc18 pm18 an18 cd18 ct18), sl18⟩)
    (c18 : PySem.W.codeIn K cd18 "is_string" = true)
    (k18 : PySem.W.keepIn K (.ref f18) = true)
    (a19 : PySem.W.nsIn K mainGlobals "is_reading" = some (some (.ref f19)))
    (l19 : K.lookup f19 = some ⟨oc19, od19, .func (PySem.W.fnOf "is_reading" "is_reading" (defArgs st_is_reading) (defBody st_is_reading) (defScope st_is_reading) .none kV19 dc19 pm19 an19 cd19 ct19), sl19⟩)
    (c19 : PySem.W.codeIn K cd19 "is_reading" = true)
    (k19 : PySem.W.keepIn K (.ref f19) = true)
    (a20 : PySem.W.nsIn K mainGlobals "is_line" = some (some (.ref f20)))
    (l20 : K.lookup f20 = some ⟨oc20, od20, .func (PySem.W.fnOf "is_line" "is_line" (defArgs st_is_line) (defBody st_is_line) (defScope st_is_line) .none kV20 dc20 pm20 an20 cd20 ct20), sl20⟩)
    (c20 : PySem.W.codeIn K cd20 "is_line" = true)
    (k20 : PySem.W.keepIn K (.ref f20) = true)
    (a21 : PySem.W.nsIn K mainGlobals "need_cut" = some (some (.ref f21)))
    (l21 : K.lookup f21 = some ⟨oc21, od21, .func (PySem.W.fnOf "need_cut" "need_cut" (defArgs st_need_cut) (defBody st_need_cut) (defScope st_need_cut) .none kV21 dc21 pm21 an21 cd21 ct21), sl21⟩)
    (c21 : PySem.W.codeIn K cd21 "need_cut" = true)
    (k21 : PySem.W.keepIn K (.ref f21) = true)
    (a22 : PySem.W.nsIn K mainGlobals "need_both" = some (some (.ref f22)))
    (l22 : K.lookup f22 = some ⟨oc22, od22, .func (PySem.W.fnOf "need_both" "need_both" (defArgs st_need_both) (defBody st_need_both) (defScope st_need_both) .none kV22 dc22 pm22 an22 cd22 ct22), sl22⟩)
    (c22 : PySem.W.codeIn K cd22 "need_both" = true)
    (k22 : PySem.W.keepIn K (.ref f22) = true)
    (a23 : PySem.W.nsIn K mainGlobals "standing_rows" = some (some (.ref f23)))
    (l23 : K.lookup f23 = some ⟨oc23, od23, .func (PySem.W.fnOf "standing_rows" "standing_rows" (defArgs st_standing_rows) (defBody st_standing_rows) (defScope st_standing_rows) .none kV23 dc23 pm23 an23 cd23 ct23), sl23⟩)
    (c23 : PySem.W.codeIn K cd23 "standing_rows" = true)
    (k23 : PySem.W.keepIn K (.ref f23) = true)
    (a24 : PySem.W.nsIn K mainGlobals "fewest_cells" = some (some (.ref f24)))
    (l24 : K.lookup f24 = some ⟨oc24, od24, .func (PySem.W.fnOf "fewest_cells" "fewest_cells" (defArgs st_fewest_cells) (defBody st_fewest_cells) (defScope st_fewest_cells) .none kV24 dc24 pm24 an24 cd24 ct24), sl24⟩)
    (c24 : PySem.W.codeIn K cd24 "fewest_cells" = true)
    (k24 : PySem.W.keepIn K (.ref f24) = true)
    (a25 : PySem.W.nsIn K mainGlobals "fewest_hold" = some (some (.ref f25)))
    (l25 : K.lookup f25 = some ⟨oc25, od25, .func (PySem.W.fnOf "fewest_hold" "fewest_hold" (defArgs st_fewest_hold) (defBody st_fewest_hold) (defScope st_fewest_hold) .none kV25 dc25 pm25 an25 cd25 ct25), sl25⟩)
    (c25 : PySem.W.codeIn K cd25 "fewest_hold" = true)
    (k25 : PySem.W.keepIn K (.ref f25) = true)
    (a26 : PySem.W.nsIn K mainGlobals "_law_anchor" = some (some (.ref f26)))
    (l26 : K.lookup f26 = some ⟨oc26, od26, .func (PySem.W.fnOf "_law_anchor" "_law_anchor" (defArgs st__law_anchor) (defBody st__law_anchor) (defScope st__law_anchor) .none kV26 dc26 pm26 an26 cd26 ct26), sl26⟩)
    (c26 : PySem.W.codeIn K cd26 "_law_anchor" = true)
    (k26 : PySem.W.keepIn K (.ref f26) = true)
    (a27 : PySem.W.nsIn K mainGlobals "_law_ways" = some (some (.ref f27)))
    (l27 : K.lookup f27 = some ⟨oc27, od27, .func (PySem.W.fnOf "_law_ways" "_law_ways" (defArgs st__law_ways) (defBody st__law_ways) (defScope st__law_ways) .none kV27 dc27 pm27 an27 cd27 ct27), sl27⟩)
    (c27 : PySem.W.codeIn K cd27 "_law_ways" = true)
    (k27 : PySem.W.keepIn K (.ref f27) = true)
    (a28 : PySem.W.nsIn K mainGlobals "_law_tried" = some (some (.ref f28)))
    (l28 : K.lookup f28 = some ⟨oc28, od28, .func (PySem.W.fnOf "_law_tried" "_law_tried" (defArgs st__law_tried) (defBody st__law_tried) (defScope st__law_tried) .none kV28 dc28 pm28 an28 cd28 ct28), sl28⟩)
    (c28 : PySem.W.codeIn K cd28 "_law_tried" = true)
    (k28 : PySem.W.keepIn K (.ref f28) = true)
    (a29 : PySem.W.nsIn K mainGlobals "_law_stands" = some (some (.ref f29)))
    (l29 : K.lookup f29 = some ⟨oc29, od29, .func (PySem.W.fnOf "_law_stands" "_law_stands" (defArgs st__law_stands) (defBody st__law_stands) (defScope st__law_stands) .none kV29 dc29 pm29 an29 cd29 ct29), sl29⟩)
    (c29 : PySem.W.codeIn K cd29 "_law_stands" = true)
    (k29 : PySem.W.keepIn K (.ref f29) = true)
    (a30 : PySem.W.nsIn K mainGlobals "_law_fit" = some (some (.ref f30)))
    (l30 : K.lookup f30 = some ⟨oc30, od30, .func (PySem.W.fnOf "_law_fit" "_law_fit" (defArgs st__law_fit) (defBody st__law_fit) (defScope st__law_fit) .none kV30 dc30 pm30 an30 cd30 ct30), sl30⟩)
    (c30 : PySem.W.codeIn K cd30 "_law_fit" = true)
    (k30 : PySem.W.keepIn K (.ref f30) = true)
    (a31 : PySem.W.nsIn K mainGlobals "_law_due" = some (some (.ref f31)))
    (l31 : K.lookup f31 = some ⟨oc31, od31, .func (PySem.W.fnOf "_law_due" "_law_due" (defArgs st__law_due) (defBody st__law_due) (defScope st__law_due) .none kV31 dc31 pm31 an31 cd31 ct31), sl31⟩)
    (c31 : PySem.W.codeIn K cd31 "_law_due" = true)
    (k31 : PySem.W.keepIn K (.ref f31) = true)
    (a32 : PySem.W.nsIn K mainGlobals "law" = some (some (.ref f32)))
    (l32 : K.lookup f32 = some ⟨oc32, od32, .func (PySem.W.fnOf "law" "law" (defArgs st_law) (defBody st_law) (defScope st_law) .none kV32 dc32 pm32 an32 cd32 ct32), sl32⟩)
    (c32 : PySem.W.codeIn K cd32 "law" = true)
    (k32 : PySem.W.keepIn K (.ref f32) = true)
    (z_abs : PySem.W.nsIn K mainGlobals "abs" = some none)
    (z_all : PySem.W.nsIn K mainGlobals "all" = some none)
    (z_bool : PySem.W.nsIn K mainGlobals "bool" = some none)
    (z_enumerate : PySem.W.nsIn K mainGlobals "enumerate" = some none)
    (z_int : PySem.W.nsIn K mainGlobals "int" = some none)
    (z_isinstance : PySem.W.nsIn K mainGlobals "isinstance" = some none)
    (z_len : PySem.W.nsIn K mainGlobals "len" = some none)
    (z_list : PySem.W.nsIn K mainGlobals "list" = some none)
    (z_max : PySem.W.nsIn K mainGlobals "max" = some none)
    (z_min : PySem.W.nsIn K mainGlobals "min" = some none)
    (z_range : PySem.W.nsIn K mainGlobals "range" = some none)
    (z_set : PySem.W.nsIn K mainGlobals "set" = some none)
    (z_str : PySem.W.nsIn K mainGlobals "str" = some none)
    (z_tuple : PySem.W.nsIn K mainGlobals "tuple" = some none)
    (z_super : PySem.W.nsIn K mainGlobals "super" = some none)
    (g_MOST_OPERATIONS : PySem.W.nsIn K mainGlobals "MOST_OPERATIONS" = some (some (.int 8 t_MOST_OPERATIONS)))
    (g_MOST_PLACES : PySem.W.nsIn K mainGlobals "MOST_PLACES" = some (some (.int 3 t_MOST_PLACES)))
    (g_MOST_SIZE : PySem.W.nsIn K mainGlobals "MOST_SIZE" = some (some (.int 8 t_MOST_SIZE)))
    (any : PySem.W.nsIn K cStatics "thirdparty.any" = some none)
    (aC_InvalidBook : PySem.W.nsIn K mainGlobals "InvalidBook" = some (some (.ref C_InvalidBook)))
    (xC_InvalidBook : K.lookup C_InvalidBook = some (excClassObj nm_InvalidBook q_InvalidBook C_InvalidBook N_InvalidBook bs_InvalidBook [.ref F_InvalidBook, .type "Exception", .type "BaseException", .type "object"] true sn_InvalidBook sub_InvalidBook ab_InvalidBook col_InvalidBook dd_InvalidBook m0_InvalidBook m1_InvalidBook m2_InvalidBook m3_InvalidBook m5_InvalidBook "Exception.__new__"))
    (sa_InvalidBook : PySem.W.findIn K (.ref C_InvalidBook) "__setattr__" = some (some (.builtin "object.__setattr__")))
    (ga_InvalidBook : PySem.W.findIn K (.ref C_InvalidBook) "__getattribute__" = some (some (.builtin "BaseException.__getattribute__")))
    (gg_InvalidBook : PySem.W.findIn K (.ref C_InvalidBook) "__getattr__" = some none)
    (nb_InvalidBook : PySem.W.findIn K (.ref C_InvalidBook) "at" = some none)
    (iC_InvalidBook : PySem.W.findIn K (.ref C_InvalidBook) "__init__" = some (some (.ref fI_InvalidBook)))
    (tf_InvalidBook : PySem.W.typeIn K (.ref fI_InvalidBook) = some (.type "function"))
    (kC_InvalidBook : PySem.W.keepIn K (.ref C_InvalidBook) = true)
    (eC_InvalidBook : PySem.W.subIn K (.ref C_InvalidBook) (.type "BaseException") = some true)
    (eE_InvalidBook : PySem.W.subIn K (.ref C_InvalidBook) (.type "Exception") = some true)
    (tC_InvalidBook : PySem.W.typeIn K (.ref C_InvalidBook) = some (.type "type"))
    (hC_InvalidBook : PySem.W.hasDictIn K C_InvalidBook = true)
    (ic_InvalidBook : PySem.W.isClsIn K C_InvalidBook = true)
    (su_InvalidBook : PySem.W.ks_superIn K C_InvalidBook C_InvalidBook "__init__" = some (some (.builtin "Exception.__init__")))
    (mr_InvalidBook : PySem.W.mroIn K C_InvalidBook (.ref C_InvalidBook) = some true)
    (li_InvalidBook : K.lookup fI_InvalidBook = some ⟨oi_InvalidBook, odi_InvalidBook, .func (PySem.W.ksFn "__init__" "InvalidBook.__init__" (defArgs cl_InvalidBook) (defBody cl_InvalidBook) (defScope cl_InvalidBook) .none kVi_InvalidBook di_InvalidBook pi_InvalidBook ani_InvalidBook (.ref cda_InvalidBook) cti_InvalidBook cc_InvalidBook), sli_InvalidBook⟩)
    (ci_InvalidBook : PySem.W.codeIn K (.ref cda_InvalidBook) "InvalidBook.__init__" = true)
    (cc_InvalidBook : K.lookup cc_InvalidBook = some ⟨cl_o_InvalidBook, cl_d_InvalidBook, .cell (some (.ref C_InvalidBook)), cl_s_InvalidBook⟩)
    (co_InvalidBook : K.lookup cda_InvalidBook = some ⟨cc_o_InvalidBook, cc_d_InvalidBook, .fields vs_InvalidBook, cc_s_InvalidBook⟩)
    (fi_InvalidBook : vs_InvalidBook[2]? = some (.str fl_InvalidBook tkf_InvalidBook))
    (fe_InvalidBook : ((PySem.Challenge.pw_foldsall_k74_whole_fewest_cells_of_lines.main.file : Str) == fl_InvalidBook) = true)
    (aC_InvalidCut : PySem.W.nsIn K mainGlobals "InvalidCut" = some (some (.ref C_InvalidCut)))
    (xC_InvalidCut : K.lookup C_InvalidCut = some (excClassObj nm_InvalidCut q_InvalidCut C_InvalidCut N_InvalidCut bs_InvalidCut [.ref F_InvalidCut, .type "Exception", .type "BaseException", .type "object"] true sn_InvalidCut sub_InvalidCut ab_InvalidCut col_InvalidCut dd_InvalidCut m0_InvalidCut m1_InvalidCut m2_InvalidCut m3_InvalidCut m5_InvalidCut "Exception.__new__"))
    (sa_InvalidCut : PySem.W.findIn K (.ref C_InvalidCut) "__setattr__" = some (some (.builtin "object.__setattr__")))
    (ga_InvalidCut : PySem.W.findIn K (.ref C_InvalidCut) "__getattribute__" = some (some (.builtin "BaseException.__getattribute__")))
    (gg_InvalidCut : PySem.W.findIn K (.ref C_InvalidCut) "__getattr__" = some none)
    (nb_InvalidCut : PySem.W.findIn K (.ref C_InvalidCut) "at" = some none)
    (iC_InvalidCut : PySem.W.findIn K (.ref C_InvalidCut) "__init__" = some (some (.ref fI_InvalidCut)))
    (tf_InvalidCut : PySem.W.typeIn K (.ref fI_InvalidCut) = some (.type "function"))
    (kC_InvalidCut : PySem.W.keepIn K (.ref C_InvalidCut) = true)
    (eC_InvalidCut : PySem.W.subIn K (.ref C_InvalidCut) (.type "BaseException") = some true)
    (eE_InvalidCut : PySem.W.subIn K (.ref C_InvalidCut) (.type "Exception") = some true)
    (tC_InvalidCut : PySem.W.typeIn K (.ref C_InvalidCut) = some (.type "type"))
    (hC_InvalidCut : PySem.W.hasDictIn K C_InvalidCut = true)
    (ic_InvalidCut : PySem.W.isClsIn K C_InvalidCut = true)
    (su_InvalidCut : PySem.W.ks_superIn K C_InvalidCut C_InvalidCut "__init__" = some (some (.builtin "Exception.__init__")))
    (mr_InvalidCut : PySem.W.mroIn K C_InvalidCut (.ref C_InvalidCut) = some true)
    (li_InvalidCut : K.lookup fI_InvalidCut = some ⟨oi_InvalidCut, odi_InvalidCut, .func (PySem.W.ksFn "__init__" "InvalidCut.__init__" (defArgs cl_InvalidCut) (defBody cl_InvalidCut) (defScope cl_InvalidCut) .none kVi_InvalidCut di_InvalidCut pi_InvalidCut ani_InvalidCut (.ref cda_InvalidCut) cti_InvalidCut cc_InvalidCut), sli_InvalidCut⟩)
    (ci_InvalidCut : PySem.W.codeIn K (.ref cda_InvalidCut) "InvalidCut.__init__" = true)
    (cc_InvalidCut : K.lookup cc_InvalidCut = some ⟨cl_o_InvalidCut, cl_d_InvalidCut, .cell (some (.ref C_InvalidCut)), cl_s_InvalidCut⟩)
    (co_InvalidCut : K.lookup cda_InvalidCut = some ⟨cc_o_InvalidCut, cc_d_InvalidCut, .fields vs_InvalidCut, cc_s_InvalidCut⟩)
    (fi_InvalidCut : vs_InvalidCut[2]? = some (.str fl_InvalidCut tkf_InvalidCut))
    (fe_InvalidCut : ((PySem.Challenge.pw_foldsall_k74_whole_fewest_cells_of_lines.main.file : Str) == fl_InvalidCut) = true)
    (s_InvalidBook_InvalidBook : PySem.W.subIn K (.ref C_InvalidBook) (.ref C_InvalidBook) = some true)
    (s_InvalidBook_InvalidCut : PySem.W.subIn K (.ref C_InvalidBook) (.ref C_InvalidCut) = some false)
    (s_InvalidCut_InvalidBook : PySem.W.subIn K (.ref C_InvalidCut) (.ref C_InvalidBook) = some false)
    (s_InvalidCut_InvalidCut : PySem.W.subIn K (.ref C_InvalidCut) (.ref C_InvalidCut) = some true)
    : ∃ fd : FuncData, (∀ (s : Shared) (v : Value), BindsTo s fd ⟨[v], []⟩ [("_law_script", v)]) ∧ ∀ base : Heap, K.In base → base.Ns mainGlobals mg → FnOk PySem.Challenge.pw_foldsall_k74_whole_fewest_cells_of_lines w K mg base (L2.CX PySem.Challenge.pw_foldsall_k74_whole_fewest_cells_of_lines w) 10 fa fd ["_law_script"] (spI K mg i_law) := by
  have e := hfa.symm.trans (PySem.W.mg_of X G a32)
  cases e
  have E_InvalidBook : PySem.DVE.ErrTxt PySem.Challenge.pw_foldsall_k74_whole_fewest_cells_of_lines K mg "InvalidBook" "at" C_InvalidBook fI_InvalidBook :=
    { gC := PySem.W.mg_of X G aC_InvalidBook, gS := PySem.W.mg_none_of X G z_super, cls := ⟨_, _, _, _, _, _, _, _, _, _, _, _, _, _, _, xC_InvalidBook⟩, sa := sa_InvalidBook, ga := ga_InvalidBook, gg := gg_InvalidBook, noN := nb_InvalidBook, iC := iC_InvalidBook, tC := tf_InvalidBook, kC := kC_InvalidBook, exC := eC_InvalidBook, exE := eE_InvalidBook, tyC := tC_InvalidBook, hdC := hC_InvalidBook, any := any, sup := su_InvalidBook, sub := mr_InvalidBook,
      fn := ⟨_, _, "at", _, _, _, _, _, _, _, _, _, _, _, _, _, li_InvalidBook, ci_InvalidBook, it_InvalidBook, fun s a b => .of_eq rfl, ⟨_, _, _, cc_InvalidBook⟩, _, _, _, _, _, _, co_InvalidBook, fi_InvalidBook, fe_InvalidBook⟩, top := by rfl }
  have E_InvalidCut : PySem.DVE.ErrTxt PySem.Challenge.pw_foldsall_k74_whole_fewest_cells_of_lines K mg "InvalidCut" "at" C_InvalidCut fI_InvalidCut :=
    { gC := PySem.W.mg_of X G aC_InvalidCut, gS := PySem.W.mg_none_of X G z_super, cls := ⟨_, _, _, _, _, _, _, _, _, _, _, _, _, _, _, xC_InvalidCut⟩, sa := sa_InvalidCut, ga := ga_InvalidCut, gg := gg_InvalidCut, noN := nb_InvalidCut, iC := iC_InvalidCut, tC := tf_InvalidCut, kC := kC_InvalidCut, exC := eC_InvalidCut, exE := eE_InvalidCut, tyC := tC_InvalidCut, hdC := hC_InvalidCut, any := any, sup := su_InvalidCut, sub := mr_InvalidCut,
      fn := ⟨_, _, "at", _, _, _, _, _, _, _, _, _, _, _, _, _, li_InvalidCut, ci_InvalidCut, it_InvalidCut, fun s a b => .of_eq rfl, ⟨_, _, _, cc_InvalidCut⟩, _, _, _, _, _, _, co_InvalidCut, fi_InvalidCut, fe_InvalidCut⟩, top := by rfl }
  have T : Tx PySem.Challenge.pw_foldsall_k74_whole_fewest_cells_of_lines K mg C_InvalidBook fI_InvalidBook C_InvalidCut fI_InvalidCut := {
    n_abs := PySem.W.mg_none_of X G z_abs,
        n_all := PySem.W.mg_none_of X G z_all,
        n_bool := PySem.W.mg_none_of X G z_bool,
        n_enumerate := PySem.W.mg_none_of X G z_enumerate,
        n_int := PySem.W.mg_none_of X G z_int,
        n_isinstance := PySem.W.mg_none_of X G z_isinstance,
        n_len := PySem.W.mg_none_of X G z_len,
        n_list := PySem.W.mg_none_of X G z_list,
        n_max := PySem.W.mg_none_of X G z_max,
        n_min := PySem.W.mg_none_of X G z_min,
        n_range := PySem.W.mg_none_of X G z_range,
        n_set := PySem.W.mg_none_of X G z_set,
        n_str := PySem.W.mg_none_of X G z_str,
        n_tuple := PySem.W.mg_none_of X G z_tuple,
    g_MOST_OPERATIONS := ⟨_, PySem.W.mg_of X G g_MOST_OPERATIONS⟩,
    g_MOST_PLACES := ⟨_, PySem.W.mg_of X G g_MOST_PLACES⟩,
    g_MOST_SIZE := ⟨_, PySem.W.mg_of X G g_MOST_SIZE⟩,
    e_InvalidBook := E_InvalidBook,
    e_InvalidCut := E_InvalidCut,
    x_InvalidBook_InvalidBook := exm_of eC_InvalidBook ic_InvalidBook tC_InvalidBook s_InvalidBook_InvalidBook,
    x_InvalidBook_InvalidCut := exm_of eC_InvalidCut ic_InvalidCut tC_InvalidCut s_InvalidBook_InvalidCut,
    x_InvalidCut_InvalidBook := exm_of eC_InvalidBook ic_InvalidBook tC_InvalidBook s_InvalidCut_InvalidBook,
    x_InvalidCut_InvalidCut := exm_of eC_InvalidCut ic_InvalidCut tC_InvalidCut s_InvalidCut_InvalidCut }
  have F0 := fun_mk (st := st__law_draw) l0 c0 k0
  have b0 := F0.binds (ps := i__law_draw.ps) fun _ _ _ _ _ _ us hl => match us, hl with | [_, _], _ => rfl
  have F1 := fun_mk (st := st__law_any) l1 c1 k1
  have b1 := F1.binds (ps := i__law_any.ps) fun _ _ _ _ _ _ us hl => match us, hl with | [_, _], _ => rfl
  have F2 := fun_mk (st := st__law_rows) l2 c2 k2
  have b2 := F2.binds (ps := i__law_rows.ps) fun _ _ _ _ _ _ us hl => match us, hl with | [_, _], _ => rfl
  have F3 := fun_mk (st := st__law_operation) l3 c3 k3
  have b3 := F3.binds (ps := i__law_operation.ps) fun _ _ _ _ _ _ us hl => match us, hl with | [_, _], _ => rfl
  have F4 := fun_mk (st := st__law_book) l4 c4 k4
  have b4 := F4.binds (ps := i__law_book.ps) fun _ _ _ _ _ _ us hl => match us, hl with | [_, _], _ => rfl
  have F5 := fun_mk (st := st__law_of) l5 c5 k5
  have b5 := F5.binds (ps := i__law_of.ps) fun _ _ _ _ _ _ us hl => match us, hl with | [_, _], _ => rfl
  have F6 := fun_mk (st := st__law_cut) l6 c6 k6
  have b6 := F6.binds (ps := i__law_cut.ps) fun _ _ _ _ _ _ us hl => match us, hl with | [_, _, _, _], _ => rfl
  have F7 := fun_mk (st := st_is_sequence) l7 c7 k7
  have b7 := F7.binds (ps := i_is_sequence.ps) fun _ _ _ _ _ _ us hl => match us, hl with | [_], _ => rfl
  have F8 := fun_mk (st := st_is_pair) l8 c8 k8
  have b8 := F8.binds (ps := i_is_pair.ps) fun _ _ _ _ _ _ us hl => match us, hl with | [_], _ => rfl
  have F9 := fun_mk (st := st_is_integer) l9 c9 k9
  have b9 := F9.binds (ps := i_is_integer.ps) fun _ _ _ _ _ _ us hl => match us, hl with | [_], _ => rfl
  have F10 := fun_mk (st := st_is_number) l10 c10 k10
  have b10 := F10.binds (ps := i_is_number.ps) fun _ _ _ _ _ _ us hl => match us, hl with | [_], _ => rfl
  have F11 := fun_mk (st := st_is_below) l11 c11 k11
  have b11 := F11.binds (ps := i_is_below.ps) fun _ _ _ _ _ _ us hl => match us, hl with | [_, _], _ => rfl
  have F12 := fun_mk (st := st_power_of) l12 c12 k12
  have b12 := F12.binds (ps := i_power_of.ps) fun _ _ _ _ _ _ us hl => match us, hl with | [_, _], _ => rfl
  have F13 := fun_mk (st := st_is_table) l13 c13 k13
  have b13 := F13.binds (ps := i_is_table.ps) fun _ _ _ _ _ _ us hl => match us, hl with | [_, _, _], _ => rfl
  have F14 := fun_mk (st := st_is_operation) l14 c14 k14
  have b14 := F14.binds (ps := i_is_operation.ps) fun _ _ _ _ _ _ us hl => match us, hl with | [_, _], _ => rfl
  have F15 := fun_mk (st := st_in_tuples) l15 c15 k15
  have b15 := F15.binds (ps := i_in_tuples.ps) fun _ _ _ _ _ _ us hl => match us, hl with | [_], _ => rfl
  have F16 := fun_mk (st := st_need_book) l16 c16 k16
  have b16 := F16.binds (ps := i_need_book.ps) fun _ _ _ _ _ _ us hl => match us, hl with | [_], _ => rfl
  have F17 := fun_mk (st := st_is_list) l17 c17 k17
  have b17 := F17.binds (ps := i_is_list.ps) fun _ _ _ _ _ _ us hl => match us, hl with | [_, _], _ => rfl
  have F18 := fun_mk (st := st_is_string) l18 c18 k18
  have b18 := F18.binds (ps := i_is_string.ps) fun _ _ _ _ _ _ us hl => match us, hl with | [_], _ => rfl
  have F19 := fun_mk (st := st_is_reading) l19 c19 k19
  have b19 := F19.binds (ps := i_is_reading.ps) fun _ _ _ _ _ _ us hl => match us, hl with | [_, _, _, _], _ => rfl
  have F20 := fun_mk (st := st_is_line) l20 c20 k20
  have b20 := F20.binds (ps := i_is_line.ps) fun _ _ _ _ _ _ us hl => match us, hl with | [_, _, _, _], _ => rfl
  have F21 := fun_mk (st := st_need_cut) l21 c21 k21
  have b21 := F21.binds (ps := i_need_cut.ps) fun _ _ _ _ _ _ us hl => match us, hl with | [_, _], _ => rfl
  have F22 := fun_mk (st := st_need_both) l22 c22 k22
  have b22 := F22.binds (ps := i_need_both.ps) fun _ _ _ _ _ _ us hl => match us, hl with | [_, _], _ => rfl
  have F23 := fun_mk (st := st_standing_rows) l23 c23 k23
  have b23 := F23.binds (ps := i_standing_rows.ps) fun _ _ _ _ _ _ us hl => match us, hl with | [_], _ => rfl
  have F24 := fun_mk (st := st_fewest_cells) l24 c24 k24
  have b24 := F24.binds (ps := i_fewest_cells.ps) fun _ _ _ _ _ _ us hl => match us, hl with | [_, _], _ => rfl
  have F25 := fun_mk (st := st_fewest_hold) l25 c25 k25
  have b25 := F25.binds (ps := i_fewest_hold.ps) fun _ _ _ _ _ _ us hl => match us, hl with | [_, _, _], _ => rfl
  have F26 := fun_mk (st := st__law_anchor) l26 c26 k26
  have b26 := F26.binds (ps := i__law_anchor.ps) fun _ _ _ _ _ _ us hl => match us, hl with | [], _ => rfl
  have F27 := fun_mk (st := st__law_ways) l27 c27 k27
  have b27 := F27.binds (ps := i__law_ways.ps) fun _ _ _ _ _ _ us hl => match us, hl with | [_, _], _ => rfl
  have F28 := fun_mk (st := st__law_tried) l28 c28 k28
  have b28 := F28.binds (ps := i__law_tried.ps) fun _ _ _ _ _ _ us hl => match us, hl with | [_, _], _ => rfl
  have F29 := fun_mk (st := st__law_stands) l29 c29 k29
  have b29 := F29.binds (ps := i__law_stands.ps) fun _ _ _ _ _ _ us hl => match us, hl with | [_, _], _ => rfl
  have F30 := fun_mk (st := st__law_fit) l30 c30 k30
  have b30 := F30.binds (ps := i__law_fit.ps) fun _ _ _ _ _ _ us hl => match us, hl with | [_, _], _ => rfl
  have F31 := fun_mk (st := st__law_due) l31 c31 k31
  have b31 := F31.binds (ps := i__law_due.ps) fun _ _ _ _ _ _ us hl => match us, hl with | [_, _], _ => rfl
  have F32 := fun_mk (st := st_law) l32 c32 k32
  have b32 := F32.binds (ps := i_law.ps) fun _ _ _ _ _ _ us hl => match us, hl with | [_], _ => rfl
  have kb_fewest_cells_book_cut : ∀ (s : Shared) (ws xs : List Value), K.In s.heap → kwO i_fewest_cells.ps ["book", "cut"] ws = some xs → BindsTo s (PySem.W.fnOf "fewest_cells" "fewest_cells" (defArgs st_fewest_cells) (defBody st_fewest_cells) (defScope st_fewest_cells) .none kV24 dc24 pm24 an24 cd24 ct24) ⟨[], (["book", "cut"] : List Str).zip ws⟩ (i_fewest_cells.ps.zip xs) := fun s ws xs _ hx => by
    match ws, hx with
    | [], hx => exact nomatch hx
    | [w0], hx => exact nomatch hx
    | w0 :: w1 :: _, hx => cases hx; exact .of_eq rfl
  have kb_fewest_hold_book_cut_value : ∀ (s : Shared) (ws xs : List Value), K.In s.heap → kwO i_fewest_hold.ps ["book", "cut", "value"] ws = some xs → BindsTo s (PySem.W.fnOf "fewest_hold" "fewest_hold" (defArgs st_fewest_hold) (defBody st_fewest_hold) (defScope st_fewest_hold) .none kV25 dc25 pm25 an25 cd25 ct25) ⟨[], (["book", "cut", "value"] : List Str).zip ws⟩ (i_fewest_hold.ps.zip xs) := fun s ws xs _ hx => by
    match ws, hx with
    | [], hx => exact nomatch hx
    | [w0], hx => exact nomatch hx
    | [w0, w1], hx => exact nomatch hx
    | w0 :: w1 :: w2 :: _, hx => cases hx; exact .of_eq rfl
  refine ⟨PySem.W.fnOf "law" "law" (defArgs st_law) (defBody st_law) (defScope st_law) .none kV32 dc32 pm32 an32 cd32 ct32, fun s v => .of_eq rfl, fun base _ _ => ?_⟩
  have W0 := w__law_draw (P := PySem.Challenge.pw_foldsall_k74_whole_fewest_cells_of_lines) (w := w) (base := base) T   F0 (PySem.W.mg_of X G a0) b0
  have W1 := w__law_any (P := PySem.Challenge.pw_foldsall_k74_whole_fewest_cells_of_lines) (w := w) (base := base) T   F1 (PySem.W.mg_of X G a1) b1
  have W2 := w__law_rows (P := PySem.Challenge.pw_foldsall_k74_whole_fewest_cells_of_lines) (w := w) (base := base) T   F2 (PySem.W.mg_of X G a2) b2
  have W3 := w__law_operation (P := PySem.Challenge.pw_foldsall_k74_whole_fewest_cells_of_lines) (w := w) (base := base) T W2 W1  F3 (PySem.W.mg_of X G a3) b3
  have W4 := w__law_book (P := PySem.Challenge.pw_foldsall_k74_whole_fewest_cells_of_lines) (w := w) (base := base) T W1 W3  F4 (PySem.W.mg_of X G a4) b4
  have W5 := w__law_of (P := PySem.Challenge.pw_foldsall_k74_whole_fewest_cells_of_lines) (w := w) (base := base) T W1  F5 (PySem.W.mg_of X G a5) b5
  have W6 := w__law_cut (P := PySem.Challenge.pw_foldsall_k74_whole_fewest_cells_of_lines) (w := w) (base := base) T W5 W1  F6 (PySem.W.mg_of X G a6) b6
  have W7 := w_is_sequence (P := PySem.Challenge.pw_foldsall_k74_whole_fewest_cells_of_lines) (w := w) (base := base) T   F7 (PySem.W.mg_of X G a7) b7
  have W8 := w_is_pair (P := PySem.Challenge.pw_foldsall_k74_whole_fewest_cells_of_lines) (w := w) (base := base) T W7  F8 (PySem.W.mg_of X G a8) b8
  have W9 := w_is_integer (P := PySem.Challenge.pw_foldsall_k74_whole_fewest_cells_of_lines) (w := w) (base := base) T   F9 (PySem.W.mg_of X G a9) b9
  have W10 := w_is_number (P := PySem.Challenge.pw_foldsall_k74_whole_fewest_cells_of_lines) (w := w) (base := base) T W9  F10 (PySem.W.mg_of X G a10) b10
  have W11 := w_is_below (P := PySem.Challenge.pw_foldsall_k74_whole_fewest_cells_of_lines) (w := w) (base := base) T W10  F11 (PySem.W.mg_of X G a11) b11
  have W12 := w_power_of (P := PySem.Challenge.pw_foldsall_k74_whole_fewest_cells_of_lines) (w := w) (base := base) T   F12 (PySem.W.mg_of X G a12) b12
  have W13 := w_is_table (P := PySem.Challenge.pw_foldsall_k74_whole_fewest_cells_of_lines) (w := w) (base := base) T W8 W11 W7 W12  F13 (PySem.W.mg_of X G a13) b13
  have W14 := w_is_operation (P := PySem.Challenge.pw_foldsall_k74_whole_fewest_cells_of_lines) (w := w) (base := base) T W13  F14 (PySem.W.mg_of X G a14) b14
  have W15 := w_in_tuples (P := PySem.Challenge.pw_foldsall_k74_whole_fewest_cells_of_lines) (w := w) (base := base) T   F15 (PySem.W.mg_of X G a15) b15
  have W16 := w_need_book (P := PySem.Challenge.pw_foldsall_k74_whole_fewest_cells_of_lines) (w := w) (base := base) T W8 W9 W7 W14 W15  F16 (PySem.W.mg_of X G a16) b16
  have W17 := w_is_list (P := PySem.Challenge.pw_foldsall_k74_whole_fewest_cells_of_lines) (w := w) (base := base) T W11  F17 (PySem.W.mg_of X G a17) b17
  have W18 := w_is_string (P := PySem.Challenge.pw_foldsall_k74_whole_fewest_cells_of_lines) (w := w) (base := base) T   F18 (PySem.W.mg_of X G a18) b18
  have W19 := w_is_reading (P := PySem.Challenge.pw_foldsall_k74_whole_fewest_cells_of_lines) (w := w) (base := base) T W11 W18  F19 (PySem.W.mg_of X G a19) b19
  have W20 := w_is_line (P := PySem.Challenge.pw_foldsall_k74_whole_fewest_cells_of_lines) (w := w) (base := base) T W11 W19  F20 (PySem.W.mg_of X G a20) b20
  have W21 := w_need_cut (P := PySem.Challenge.pw_foldsall_k74_whole_fewest_cells_of_lines) (w := w) (base := base) T W17 W20 W19  F21 (PySem.W.mg_of X G a21) b21
  have W22 := w_need_both (P := PySem.Challenge.pw_foldsall_k74_whole_fewest_cells_of_lines) (w := w) (base := base) T W16 W21  F22 (PySem.W.mg_of X G a22) b22
  have W23 := w_standing_rows (P := PySem.Challenge.pw_foldsall_k74_whole_fewest_cells_of_lines) (w := w) (base := base) T   F23 (PySem.W.mg_of X G a23) b23
  have W24 := w_fewest_cells (P := PySem.Challenge.pw_foldsall_k74_whole_fewest_cells_of_lines) (w := w) (base := base) T W22 W23  F24 (PySem.W.mg_of X G a24) b24
  have W25 := w_fewest_hold (P := PySem.Challenge.pw_foldsall_k74_whole_fewest_cells_of_lines) (w := w) (base := base) T W23 W22 W11 W10  F25 (PySem.W.mg_of X G a25) b25
  have W26 := w__law_anchor (P := PySem.Challenge.pw_foldsall_k74_whole_fewest_cells_of_lines) (w := w) (base := base) T W24 W25 kb_fewest_cells_book_cut kb_fewest_hold_book_cut_value F26 (PySem.W.mg_of X G a26) b26
  have W27 := w__law_ways (P := PySem.Challenge.pw_foldsall_k74_whole_fewest_cells_of_lines) (w := w) (base := base) T   F27 (PySem.W.mg_of X G a27) b27
  have W28 := w__law_tried (P := PySem.Challenge.pw_foldsall_k74_whole_fewest_cells_of_lines) (w := w) (base := base) T W24 W25  F28 (PySem.W.mg_of X G a28) b28
  have W29 := w__law_stands (P := PySem.Challenge.pw_foldsall_k74_whole_fewest_cells_of_lines) (w := w) (base := base) T   F29 (PySem.W.mg_of X G a29) b29
  have W30 := w__law_fit (P := PySem.Challenge.pw_foldsall_k74_whole_fewest_cells_of_lines) (w := w) (base := base) T W29  F30 (PySem.W.mg_of X G a30) b30
  have W31 := w__law_due (P := PySem.Challenge.pw_foldsall_k74_whole_fewest_cells_of_lines) (w := w) (base := base) T W30 W29  F31 (PySem.W.mg_of X G a31) b31
  have W32 := w_law (P := PySem.Challenge.pw_foldsall_k74_whole_fewest_cells_of_lines) (w := w) (base := base) T W0 W4 W6 W5 W26 W24 W27 W1 W25 W28 W31 W30 W29  F32 (PySem.W.mg_of X G a32) b32
  exact W32.fn
end W74

set_option Elab.async false
set_option linter.all false
set_option maxRecDepth 100000
set_option maxHeartbeats 0
open PySem PySem.W PyProof.Rows
set_option maxRecDepth 100000 in
set_option maxHeartbeats 0 in
theorem PySem.Challenge.cw_foldsall_k74_whole_fewest_cells_of_lines_holds : PySem.Challenge.rw_foldsall_k74_whole_fewest_cells_of_lines.Holds := by
  w_on; o_law; k_head; (case hw => w_witness2)
  k_fill
  refine L2.walk_of (l := PySem.Challenge.rw_foldsall_k74_whole_fewest_cells_of_lines) (n := 63) (k := 10) (x := "_law_script") (CX := fun w => L2.CX PySem.Challenge.pw_foldsall_k74_whole_fewest_cells_of_lines w) (sp := fun w => DV.spL _) rfl (by decide) rfl ⟨rfl, by decide, by decide⟩ (fun w h Y => PySem.W.kIn_of Y) ?F (fun _ _ a ns hl _ hS => ⟨a, ns, rfl, hl, hS, fun _ => rfl⟩) (fun _ _ _ _ _ h => DV.cx_false h)
  case F =>
    intro w mg fa h KX G hmg
    refine' DV.law_fn W74.law_true (W74.all_mk KX G hmg ?a0 ?l0 ?c0 ?k0 ?a1 ?l1 ?c1 ?k1 ?a2 ?l2 ?c2 ?k2 ?a3 ?l3 ?c3 ?k3 ?a4 ?l4 ?c4 ?k4 ?a5 ?l5 ?c5 ?k5 ?a6 ?l6 ?c6 ?k6 ?a7 ?l7 ?c7 ?k7 ?a8 ?l8 ?c8 ?k8 ?a9 ?l9 ?c9 ?k9 ?a10 ?l10 ?c10 ?k10 ?a11 ?l11 ?c11 ?k11 ?a12 ?l12 ?c12 ?k12 ?a13 ?l13 ?c13 ?k13 ?a14 ?l14 ?c14 ?k14 ?a15 ?l15 ?c15 ?k15 ?a16 ?l16 ?c16 ?k16 ?a17 ?l17 ?c17 ?k17 ?a18 ?l18 ?c18 ?k18 ?a19 ?l19 ?c19 ?k19 ?a20 ?l20 ?c20 ?k20 ?a21 ?l21 ?c21 ?k21 ?a22 ?l22 ?c22 ?k22 ?a23 ?l23 ?c23 ?k23 ?a24 ?l24 ?c24 ?k24 ?a25 ?l25 ?c25 ?k25 ?a26 ?l26 ?c26 ?k26 ?a27 ?l27 ?c27 ?k27 ?a28 ?l28 ?c28 ?k28 ?a29 ?l29 ?c29 ?k29 ?a30 ?l30 ?c30 ?k30 ?a31 ?l31 ?c31 ?k31 ?a32 ?l32 ?c32 ?k32 ?z_abs ?z_all ?z_bool ?z_enumerate ?z_int ?z_isinstance ?z_len ?z_list ?z_max ?z_min ?z_range ?z_set ?z_str ?z_tuple ?z_super ?g_MOST_OPERATIONS ?g_MOST_PLACES ?g_MOST_SIZE ?any ?aC_InvalidBook ?xC_InvalidBook ?sa_InvalidBook ?ga_InvalidBook ?gg_InvalidBook ?nb_InvalidBook ?iC_InvalidBook ?tf_InvalidBook ?kC_InvalidBook ?eC_InvalidBook ?eE_InvalidBook ?tC_InvalidBook ?hC_InvalidBook ?ic_InvalidBook ?su_InvalidBook ?mr_InvalidBook ?li_InvalidBook ?ci_InvalidBook ?cc_InvalidBook ?co_InvalidBook ?fi_InvalidBook ?fe_InvalidBook ?aC_InvalidCut ?xC_InvalidCut ?sa_InvalidCut ?ga_InvalidCut ?gg_InvalidCut ?nb_InvalidCut ?iC_InvalidCut ?tf_InvalidCut ?kC_InvalidCut ?eC_InvalidCut ?eE_InvalidCut ?tC_InvalidCut ?hC_InvalidCut ?ic_InvalidCut ?su_InvalidCut ?mr_InvalidCut ?li_InvalidCut ?ci_InvalidCut ?cc_InvalidCut ?co_InvalidCut ?fi_InvalidCut ?fe_InvalidCut ?s_InvalidBook_InvalidBook ?s_InvalidBook_InvalidCut ?s_InvalidCut_InvalidBook ?s_InvalidCut_InvalidCut)
    (case a0 => k_is)
    (case l0 => k_is)
    (case c0 => k_is)
    (case k0 => k_is)
    (case a1 => k_is)
    (case l1 => k_is)
    (case c1 => k_is)
    (case k1 => k_is)
    (case a2 => k_is)
    (case l2 => k_is)
    (case c2 => k_is)
    (case k2 => k_is)
    (case a3 => k_is)
    (case l3 => k_is)
    (case c3 => k_is)
    (case k3 => k_is)
    (case a4 => k_is)
    (case l4 => k_is)
    (case c4 => k_is)
    (case k4 => k_is)
    (case a5 => k_is)
    (case l5 => k_is)
    (case c5 => k_is)
    (case k5 => k_is)
    (case a6 => k_is)
    (case l6 => k_is)
    (case c6 => k_is)
    (case k6 => k_is)
    (case a7 => k_is)
    (case l7 => k_is)
    (case c7 => k_is)
    (case k7 => k_is)
    (case a8 => k_is)
    (case l8 => k_is)
    (case c8 => k_is)
    (case k8 => k_is)
    (case a9 => k_is)
    (case l9 => k_is)
    (case c9 => k_is)
    (case k9 => k_is)
    (case a10 => k_is)
    (case l10 => k_is)
    (case c10 => k_is)
    (case k10 => k_is)
    (case a11 => k_is)
    (case l11 => k_is)
    (case c11 => k_is)
    (case k11 => k_is)
    (case a12 => k_is)
    (case l12 => k_is)
    (case c12 => k_is)
    (case k12 => k_is)
    (case a13 => k_is)
    (case l13 => k_is)
    (case c13 => k_is)
    (case k13 => k_is)
    (case a14 => k_is)
    (case l14 => k_is)
    (case c14 => k_is)
    (case k14 => k_is)
    (case a15 => k_is)
    (case l15 => k_is)
    (case c15 => k_is)
    (case k15 => k_is)
    (case a16 => k_is)
    (case l16 => k_is)
    (case c16 => k_is)
    (case k16 => k_is)
    (case a17 => k_is)
    (case l17 => k_is)
    (case c17 => k_is)
    (case k17 => k_is)
    (case a18 => k_is)
    (case l18 => k_is)
    (case c18 => k_is)
    (case k18 => k_is)
    (case a19 => k_is)
    (case l19 => k_is)
    (case c19 => k_is)
    (case k19 => k_is)
    (case a20 => k_is)
    (case l20 => k_is)
    (case c20 => k_is)
    (case k20 => k_is)
    (case a21 => k_is)
    (case l21 => k_is)
    (case c21 => k_is)
    (case k21 => k_is)
    (case a22 => k_is)
    (case l22 => k_is)
    (case c22 => k_is)
    (case k22 => k_is)
    (case a23 => k_is)
    (case l23 => k_is)
    (case c23 => k_is)
    (case k23 => k_is)
    (case a24 => k_is)
    (case l24 => k_is)
    (case c24 => k_is)
    (case k24 => k_is)
    (case a25 => k_is)
    (case l25 => k_is)
    (case c25 => k_is)
    (case k25 => k_is)
    (case a26 => k_is)
    (case l26 => k_is)
    (case c26 => k_is)
    (case k26 => k_is)
    (case a27 => k_is)
    (case l27 => k_is)
    (case c27 => k_is)
    (case k27 => k_is)
    (case a28 => k_is)
    (case l28 => k_is)
    (case c28 => k_is)
    (case k28 => k_is)
    (case a29 => k_is)
    (case l29 => k_is)
    (case c29 => k_is)
    (case k29 => k_is)
    (case a30 => k_is)
    (case l30 => k_is)
    (case c30 => k_is)
    (case k30 => k_is)
    (case a31 => k_is)
    (case l31 => k_is)
    (case c31 => k_is)
    (case k31 => k_is)
    (case a32 => k_is)
    (case l32 => k_is)
    (case c32 => k_is)
    (case k32 => k_is)
    (case z_abs => k_is)
    (case z_all => k_is)
    (case z_bool => k_is)
    (case z_enumerate => k_is)
    (case z_int => k_is)
    (case z_isinstance => k_is)
    (case z_len => k_is)
    (case z_list => k_is)
    (case z_max => k_is)
    (case z_min => k_is)
    (case z_range => k_is)
    (case z_set => k_is)
    (case z_str => k_is)
    (case z_tuple => k_is)
    (case z_super => k_is)
    (case g_MOST_OPERATIONS => k_is)
    (case g_MOST_PLACES => k_is)
    (case g_MOST_SIZE => k_is)
    (case any => k_is)
    (case aC_InvalidBook => k_is)
    (case xC_InvalidBook => k_is)
    (case sa_InvalidBook => k_is)
    (case ga_InvalidBook => k_is)
    (case gg_InvalidBook => k_is)
    (case nb_InvalidBook => k_is)
    (case iC_InvalidBook => k_is)
    (case tf_InvalidBook => k_is)
    (case kC_InvalidBook => k_is)
    (case eC_InvalidBook => k_is)
    (case eE_InvalidBook => k_is)
    (case tC_InvalidBook => k_is)
    (case hC_InvalidBook => k_is)
    (case ic_InvalidBook => k_is)
    (case su_InvalidBook => first | k_is | kernel_rfl | rfl)
    (case mr_InvalidBook => first | k_is | kernel_rfl | rfl)
    (case li_InvalidBook => k_is)
    (case ci_InvalidBook => k_is)
    (case cc_InvalidBook => k_is)
    (case co_InvalidBook => k_is)
    (case fi_InvalidBook => first | rfl | kernel_rfl)
    (case fe_InvalidBook => first | rfl | decide | kernel_rfl)
    (case aC_InvalidCut => k_is)
    (case xC_InvalidCut => k_is)
    (case sa_InvalidCut => k_is)
    (case ga_InvalidCut => k_is)
    (case gg_InvalidCut => k_is)
    (case nb_InvalidCut => k_is)
    (case iC_InvalidCut => k_is)
    (case tf_InvalidCut => k_is)
    (case kC_InvalidCut => k_is)
    (case eC_InvalidCut => k_is)
    (case eE_InvalidCut => k_is)
    (case tC_InvalidCut => k_is)
    (case hC_InvalidCut => k_is)
    (case ic_InvalidCut => k_is)
    (case su_InvalidCut => first | k_is | kernel_rfl | rfl)
    (case mr_InvalidCut => first | k_is | kernel_rfl | rfl)
    (case li_InvalidCut => k_is)
    (case ci_InvalidCut => k_is)
    (case cc_InvalidCut => k_is)
    (case co_InvalidCut => k_is)
    (case fi_InvalidCut => first | rfl | kernel_rfl)
    (case fe_InvalidCut => first | rfl | decide | kernel_rfl)
    (case s_InvalidBook_InvalidBook => first | rfl | k_is)
    (case s_InvalidBook_InvalidCut => first | rfl | k_is)
    (case s_InvalidCut_InvalidBook => first | rfl | k_is)
    (case s_InvalidCut_InvalidCut => first | rfl | k_is)
