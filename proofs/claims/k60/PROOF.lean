import PyProof.Rows.All
import Wide.All
import OpenK.AllK
import Wide.FinOn
import HandS.Base
import HandS.Call
import HandS.List
import HandS.Text
import HandS.Comp
import HandS.Ends
import HandS.More
import HandS.Dict
import HandS.Iter
import HandS.Words
import HandS.WordsList
import HandS.Exc
import HandS.ExcOwn
import HandS.ExcInit
import HandS.WordsExc
import HandS.TryOnly
import HandS.CallSlots
import HandS.HeadHook1
import HandS.HeadHook2
import HandS.IsInst
import HandS.Style
import HandS.TupAny
import HandS.Replace
import KE.KIndexOf
import HandS.SortInts
import PyProof.StrLawsIn
import PyProof.StrLawsFirst
import HandS.Zip
import HandS.Steps
import HandS.Codes
import HandS.HeadEnd
import KE.KStateDown
import Lean
import HandS.Head0
import HandS.Head1
import HandS.Head2
import PyProof.P3Eq
import PySem.Challenge.RW_glasskept_k60_whole_kinds_as_octets
set_option Elab.async false
set_option linter.all false
/-! A small language over trees of values, and its evaluator. -/
namespace G
open PySem L2

/-! ### values, cells, results -/
inductive T where
  | non | bl (b : Bool) | int (i : Int) | str (x : List Nat) | byt (b : List UInt8)
  | tup (ts : List T) | lst (ts : List T) | scr (ns : List Int) | loc (n : Nat) | met (f n : Nat)
inductive Cell where
  | lst (ts : List T)
  | ins (c : Nat) (fs : List (Nat × T))
abbrev Store := List Cell
inductive Res (α : Type) where
  | ok (a : α) (st : Store)
  | exn (x : Nat) (fs : List (Nat × T)) (st : Store)
  | fail
abbrev M (α : Type) := Store → Res α
def M.ok {α : Type} (a : α) : M α := fun st => .ok a st
def M.fail {α : Type} : M α := fun _ => .fail
def M.bind {α β : Type} (m : M α) (k : α → M β) : M β := fun st => match m st with
  | .ok a st' => k a st'
  | .exn x fs st' => .exn x fs st'
  | .fail => .fail
/-- no exception leaves (a comprehension's block) -/
def M.nox {α : Type} (m : M α) : M α := fun st => match m st with
  | .ok a st' => .ok a st'
  | .exn _ _ _ => .fail
  | .fail => .fail
def M.of {α : Type} : Option α → M α
  | some a => .ok a
  | none => .fail
inductive Fl where
  | va | fr | bo
  deriving DecidableEq
abbrev R := T × Fl
inductive Sl where
  | un | va (t : T) | ow (ts : List T)
abbrev Ro := List Sl

/-! ### the language -/
inductive BOp where
  | add | sub | mul | fdiv | mod | pow
  deriving DecidableEq
inductive COp where
  | eq | ne | lt | le | gt | ge | isin | notin
  deriving DecidableEq
inductive Bi where
  | len | int | abs | sum | all | any | tuple | list | sorted | ord | bytes
  deriving DecidableEq
inductive Ty where
  | int | bool | str | tuple | list | bytes
  deriving DecidableEq
inductive Mt where
  | lindex | tindex | sindex
  deriving DecidableEq
inductive IK where
  | seq | rng | enum | zip
  deriving DecidableEq
mutual
inductive Tg where
  | n (i : Nat)
  | tup (a : TgL)
inductive TgL where
  | nil
  | cons (a : Tg) (r : TgL)
end
mutual
inductive E where
  | v (i : Nat)
  | c (t : T)
  | g (k : Nat)
  | bin (op : BOp) (a b : E)
  | neg (a : E)
  | cmp (op : COp) (a b : E)
  | ch2 (op op' : COp) (a b c : E)
  | isn (y : Bool) (a : E)
  | isb (y k : Bool) (a : E)
  | and (a b : E)
  | or (a b : E)
  | not (a : E)
  | ife (c : B) (a b : E)
  | tup (es : EL)
  | lst (es : EL)
  | new (es : EL)
  | ix (a i : E)
  | sl (a : E) (lo hi : EO)
  | call (f : Nat) (es : EL)
  | bi (b : Bi) (es : EL)
  | isi (a : E) (t : Ty)
  | mt (m : Mt) (o : E) (es : EL)
  | meth (m : Nat) (o : E) (es : EL)
  | fld (o : E) (f : Nat)
  | mk (c : Nat) (es : EL)
  | lc (e : E) (tg : Tg) (ik : IK) (it : EL) (cs : B) (own : List Nat)
inductive EL where
  | nil
  | cons (e : E) (r : EL)
inductive EO where
  | none
  | some (e : E)
/-- tests -/
inductive B where
  | yes
  | of (e : E)
  | and (a b : B)
  | or (a b : B)
  | not (a : B)
end
inductive S where
  | pass
  | seq (a b : S)
  | asg (fz : List Nat) (tg : Tg) (e : E)
  | par (fz : List Nat) (is : List Nat) (es : EL)
  | aug (i : Nat) (op : BOp) (e : E)
  | setix (fz : List Nat) (o i e : E)
  | setfld (fz : List Nat) (o : E) (f : Nat) (e : E)
  | augfld (o : E) (f : Nat) (op : BOp) (e : E)
  | app (fz : List Nat) (i : Nat) (e : E)
  | ext (fz : List Nat) (i : Nat) (e : E)
  | pop (tg : Tg) (i : Nat)
  | ex (fz : List Nat) (e : E)
  | ret (fz : List Nat) (e : E)
  | retv (i : Nat)
  | retn
  | ite (fz : List Nat) (c : B) (a b : S)
  | while (c : B) (b : S)
  | for (fz : List Nat) (tg : Tg) (ik : IK) (it : EL) (b : S)
  | brk
  | cont
  | raise (x : Nat) (es : EL)
  | try (b : S) (x : Nat) (h : S)
inductive Fw where
  | nx | bk | ct | rt (r : R)

/-! ### tables -/
structure CD where
  name : Str
  init : Nat
  meths : List (Nat × Nat)
structure XD where
  name : Str
  flds : List Nat
structure FD where
  owner : Option Nat
  nm : Str
  N : List Str
  ps : List Str
  body : S
structure Gam where
  fds : List FD
  fnm : List Str
  mnm : List Str
  cls : List CD
  exs : List XD
  gls : List (Str × T)
  wf : Nat

/-! ### values' operations -/
def big : Nat := 16777216
def T.ints? : List T → Option (List Int)
  | [] => some []
  | .int i :: r => (T.ints? r).map (i :: ·)
  | _ => none
def T.bls? : List T → Option (List Bool)
  | [] => some []
  | .bl i :: r => (T.bls? r).map (i :: ·)
  | _ => none
def T.strs? : List T → Option (List (List Nat))
  | [] => some []
  | .str i :: r => (T.strs? r).map (i :: ·)
  | _ => none
def toS (l : List Nat) : Str := ⟨l.toArray⟩
mutual
/-- as the library's data -/
def T.D? : T → Option PyData
  | .non => some .none
  | .bl b => some (.bool b)
  | .int i => some (.int i)
  | .str l => some (.str (toS l))
  | .tup ts => (T.Ds? ts).map .tuple
  | .lst ts => (T.Ds? ts).map .list
  | _ => none
def T.Ds? : List T → Option (List PyData)
  | [] => some []
  | t :: r => match T.D? t, T.Ds? r with
    | some d, some ds => some (d :: ds)
    | _, _ => none
end
def T.flat : T → Bool
  | .non => true | .bl _ => true | .int _ => true | .str _ => true | _ => false
def T.eqf : T → T → Bool
  | .non, .non => true
  | .bl a, .bl b => a == b
  | .bl a, .int b => (if a then 1 else 0) == b
  | .int a, .bl b => a == (if b then 1 else 0)
  | .int a, .int b => a == b
  | .str a, .str b => a == b
  | _, _ => false
def cut {α : Type} (xs : List α) (lo hi : Option Int) : List α := (xs.drop (HT.sIx xs.length 0 lo)).take (HT.sIx xs.length xs.length hi - HT.sIx xs.length 0 lo)

def okv (t : T) : M R := .ok (t, .va)
def byt2 : T → T → Option Bool
  | .byt x, .byt y => some (x == y)
  | _, _ => none
def dat2 (a b : T) : Option Bool := match a.D?, b.D? with
  | some d, some e => if SeqAt.shaped d = true ∧ SeqAt.shaped e = true then some (PyData.eqv d e) else none
  | _, _ => none
def evEq (neg : Bool) (a b : T) : M R := match byt2 a b with
  | some k => okv (.bl (if neg = true then !k else k))
  | none => match dat2 a b with
    | some k => okv (.bl (if neg = true then !k else k))
    | none => .fail
def evIn (neg : Bool) (x y : T) : M R := match y with
  | .lst ys => if x.flat = true ∧ ys.all T.flat = true then okv (.bl (if neg = true then !(ys.any fun z => T.eqf z x) else ys.any fun z => T.eqf z x)) else .fail
  | .tup ys => if x.flat = true ∧ ys.all T.flat = true then okv (.bl (if neg = true then !(ys.any fun z => T.eqf z x) else ys.any fun z => T.eqf z x)) else .fail
  | .str l => match x with
    | .str [c] => okv (.bl (if neg = true then !(decide (c ∈ l)) else decide (c ∈ l)))
    | _ => .fail
  | _ => .fail
def evOrd (fi : Int → Int → Bool) (fs : List Nat → List Nat → Bool) (a b : T) : M R := match a, b with
  | .int i, .int j => okv (.bl (fi i j))
  | .str x, .str y => okv (.bl (fs x y))
  | _, _ => .fail
def evCmp : COp → T → T → M R
  | .eq, a, b => evEq false a b
  | .ne, a, b => evEq true a b
  | .lt, a, b => evOrd (fun i j => decide (i < j)) (fun x y => decide (x < y)) a b
  | .le, a, b => evOrd (fun i j => decide (i ≤ j)) (fun x y => !decide (y < x)) a b
  | .gt, a, b => evOrd (fun i j => decide (j < i)) (fun x y => decide (y < x)) a b
  | .ge, a, b => evOrd (fun i j => decide (j ≤ i)) (fun x y => !decide (x < y)) a b
  | .isin, a, b => evIn false a b
  | .notin, a, b => evIn true a b
def evBin : BOp → T → T → M R
  | .add, .int i, .int j => okv (.int (i + j))
  | .add, .str x, .str y => if x.length + y.length ≤ big then okv (.str (x ++ y)) else .fail
  | .add, .byt x, .byt y => if x.length + y.length ≤ big then okv (.byt (x ++ y)) else .fail
  | .add, .tup x, .tup y => if x.length + y.length ≤ big then okv (.tup (x ++ y)) else .fail
  | .add, .lst x, .lst y => if x.length + y.length ≤ big then .ok (.lst (x ++ y), .fr) else .fail
  | .sub, .int i, .int j => okv (.int (i - j))
  | .mul, .int i, .int j => if (-(2 ^ 64) < i ∧ i < 2 ^ 64) ∨ (-(2 ^ 64) < j ∧ j < 2 ^ 64) then okv (.int (i * j)) else .fail
  | .fdiv, .int i, .int j => if 0 < j ∧ j < 1073741824 then okv (.int (i / j)) else .fail
  | .mod, .int i, .int j => if 0 < j then okv (.int (i % j)) else .fail
  | .pow, .int i, .int j => if 0 ≤ j ∧ j ≤ 1000000 ∧ i.natAbs < 2 ^ 64 then okv (.int (i ^ j.toNat)) else .fail
  | _, _, _ => .fail
/-- an augmented operator -/
def evAug : BOp → T → T → Option T
  | .add, .int i, .int j => some (.int (i + j))
  | .add, .str x, .str y => if x.length + y.length ≤ big then some (.str (x ++ y)) else none
  | .sub, .int i, .int j => some (.int (i - j))
  | _, _, _ => none
def evIx (a i : T) : M R := match i with
  | .int i => match a with
    | .lst ts => (M.of (atI ts i)).bind okv
    | .tup ts => (M.of (atI ts i)).bind okv
    | .str l => if l.length ≤ big then (M.of (atI l i)).bind fun c => okv (.str [c]) else .fail
    | .byt l => if l.length ≤ big ∧ 0 ≤ i ∧ i < l.length then okv (.int ((l.getD i.toNat 0).toNat : Nat)) else .fail
    | .loc n => fun st => match st[n]? with
      | some (.lst ts) => (M.of (atI ts i)).bind okv st
      | _ => .fail
    | _ => .fail
  | _ => .fail
def evSl (a : T) (lo hi : Option Int) : M R := match a with
  | .lst ts => .ok (.lst (cut ts lo hi), .fr)
  | .scr ns => .ok (.lst ((cut ns lo hi).map .int), .fr)
  | .tup ts => okv (.tup (cut ts lo hi))
  | .str l => if l.length ≤ big then okv (.str (cut l lo hi)) else .fail
  | .byt l => if l.length ≤ big then okv (.byt (cut l lo hi)) else .fail
  | _ => .fail
def evLen (a : T) : M R := match a with
  | .lst ts => okv (.int ts.length)
  | .tup ts => okv (.int ts.length)
  | .scr ns => okv (.int ns.length)
  | .str l => if l.length ≤ big then okv (.int l.length) else .fail
  | .byt l => if l.length ≤ big then okv (.int l.length) else .fail
  | _ => .fail
def sortI (ns : List Int) : List Int := ns.mergeSort (fun a b => decide (a ≤ b))
def evBi : Bi → List T → M R
  | .len, [a] => evLen a
  | .int, [.int i] => okv (.int i)
  | .abs, [.int i] => okv (.int (if i < 0 then -i else i))
  | .sum, [.lst ts] => (M.of (T.ints? ts)).bind fun ns => okv (.int ns.sum)
  | .all, [.lst ts] => (M.of (T.bls? ts)).bind fun bs => okv (.bl (bs.all id))
  | .any, [.lst ts] => (M.of (T.bls? ts)).bind fun bs => okv (.bl (bs.any id))
  | .tuple, [.lst ts] => okv (.tup ts)
  | .tuple, [.tup ts] => okv (.tup ts)
  | .list, [.lst ts] => .ok (.lst ts, .fr)
  | .list, [.tup ts] => .ok (.lst ts, .fr)
  | .list, [.byt l] => if l.length ≤ big then .ok (.lst (l.map fun b => .int (b.toNat : Nat)), .fr) else .fail
  | .sorted, [.lst ts] => (M.of (T.ints? ts)).bind fun ns => .ok (.lst ((sortI ns).map .int), .fr)
  | .ord, [.str [c]] => okv (.int (c : Nat))
  | .bytes, [.lst ts] => (M.of (T.ints? ts)).bind fun ns => if ns.all (fun n => decide (0 ≤ n ∧ n < 256)) = true then okv (.byt (ns.map fun n => n.toNat.toUInt8)) else .fail
  | _, _ => .fail
def isTy : T → Ty → Option Bool
  | .non, _ => some false
  | .bl _, t => some (decide (t = .bool ∨ t = .int))
  | .int _, t => some (decide (t = .int))
  | .str _, t => some (decide (t = .str))
  | .byt _, t => some (decide (t = .bytes))
  | .tup _, t => some (decide (t = .tuple))
  | .lst _, t => some (decide (t = .list))
  | _, _ => none
def evMt : Mt → T → List T → M R
  | .lindex, .lst ts, [.str c] => (M.of (T.strs? ts)).bind fun l => if c ∈ l then okv (.int (l.idxOf c : Nat)) else .fail
  | .tindex, .tup ts, [.str c] => (M.of (T.strs? ts)).bind fun l => if c ∈ l then okv (.int (l.idxOf c : Nat)) else .fail
  | .sindex, .str l, [.str [c]] => if c ∈ l then okv (.int (l.idxOf c : Nat)) else .fail
  | _, _, _ => .fail
def mtOk : Mt → T → Bool
  | .lindex, .lst _ => true
  | .tindex, .tup _ => true
  | .sindex, .str _ => true
  | _, _ => false
def enumT : List T → Nat → List T
  | [], _ => []
  | t :: r, k => .tup [.int (k : Nat), t] :: enumT r (k + 1)
def zipT : List T → List T → List T
  | t :: r, u :: s => .tup [t, u] :: zipT r s
  | _, _ => []
/-- what a for, a comprehension walks -/
def items : IK → List T → M (List T)
  | .seq, [.lst ts] => .ok ts
  | .seq, [.tup ts] => .ok ts
  | .seq, [.scr ns] => .ok (ns.map .int)
  | .seq, [.str l] => .ok (l.map fun c => .str [c])
  | .rng, [.int j] => if j < 2 ^ 62 ∧ -(2 ^ 62) ≤ j then .ok ((List.range j.toNat).map fun (k : Nat) => .int (k : Int)) else .fail
  | .rng, [.int i, .int j] => if -(2 ^ 62) ≤ i ∧ i < 2 ^ 62 ∧ -(2 ^ 62) ≤ j ∧ j < 2 ^ 62 then .ok ((List.range (j - i).toNat).map fun (k : Nat) => .int (i + (k : Int))) else .fail
  | .enum, [.lst ts] => .ok (enumT ts 0)
  | .zip, [.lst ts, .lst us] => .ok (zipT ts us)
  | .zip, [.tup ts, .tup us] => .ok (zipT ts us)
  | _, _ => .fail
mutual
def bindTg : Tg → T → Ro → Option Ro
  | .n i, t, ρ => some (ρ.set i (.va t))
  | .tup a, .tup ts, ρ => bindTgL a ts ρ
  | .tup a, .lst ts, ρ => bindTgL a ts ρ
  | _, _, _ => none
def bindTgL : TgL → List T → Ro → Option Ro
  | .nil, [], ρ => some ρ
  | .cons a r, t :: ts, ρ => (bindTg a t ρ).bind fun ρ1 => bindTgL r ts ρ1
  | _, _, _ => none
end
def wipeR (ρ : Ro) : List Nat → Ro
  | [] => ρ
  | i :: r => (wipeR ρ r).set i .un
def frz (ρ : Ro) : List Nat → Ro
  | [] => ρ
  | i :: r => match (frz ρ r)[i]? with
    | some (.ow ts) => (frz ρ r).set i (.va (.lst ts))
    | _ => frz ρ r
def truth : T → M Bool
  | .non => .ok false
  | .bl b => .ok b
  | .int i => .ok (i != 0)
  | .str l => if l.length ≤ big then .ok ((l.length : Int) != 0) else .fail
  | .lst ts => .ok (!ts.isEmpty)
  | .tup ts => .ok (!ts.isEmpty)
  | _ => .fail
def lcGo (f : T → M (Option T)) : List T → List T → M (List T)
  | acc, [] => .ok acc
  | acc, x :: xs => (f x).bind fun o => match o with
    | some y => if acc.length < big then lcGo f (acc ++ [y]) xs else .fail
    | none => lcGo f acc xs
/-- a value that stays -/
def keepR (r : R) : M T := match r with
  | (_, .bo) => .fail
  | (t, _) => .ok t
structure Or where
  c1 : Nat → List T → M R
  c2 : Nat → List T → M R
section
variable (Γ : Gam) (O : Or)
mutual
def ev : E → Ro → M R
  | .v i, ρ => match ρ[i]? with
    | some (.va t) => okv t
    | some (.ow ts) => .ok (.lst ts, .bo)
    | _ => .fail
  | .c t, _ => okv t
  | .g k, _ => (M.of Γ.gls[k]?).bind fun p => okv p.2
  | .bin op a b, ρ => (ev a ρ).bind fun x => (ev b ρ).bind fun y => evBin op x.1 y.1
  | .neg a, ρ => (ev a ρ).bind fun x => match x.1 with
    | .int i => okv (.int (-i))
    | _ => .fail
  | .cmp op a b, ρ => (ev a ρ).bind fun x => (ev b ρ).bind fun y => evCmp op x.1 y.1
  | .ch2 op op' a b c, ρ => (ev a ρ).bind fun x => (ev b ρ).bind fun y => (evCmp op x.1 y.1).bind fun z => match z.1 with
    | .bl true => (ev c ρ).bind fun u => evCmp op' y.1 u.1
    | .bl false => okv (.bl false)
    | _ => .fail
  | .isn y a, ρ => (ev a ρ).bind fun x => match x.1 with
    | .non => okv (.bl y)
    | _ => okv (.bl (!y))
  | .isb y k a, ρ => (ev a ρ).bind fun x => match x.1 with
    | .bl b => okv (.bl (if y = true then b == k else !(b == k)))
    | _ => .fail
  | .and a b, ρ => (ev a ρ).bind fun x => match x.1 with
    | .bl true => ev b ρ
    | .bl false => okv (.bl false)
    | _ => .fail
  | .or a b, ρ => (ev a ρ).bind fun x => match x.1 with
    | .bl true => okv (.bl true)
    | .bl false => ev b ρ
    | _ => .fail
  | .not a, ρ => (ev a ρ).bind fun x => match x.1 with
    | .bl b => okv (.bl (!b))
    | _ => .fail
  | .ife c a b, ρ => (tst c ρ).bind fun k => if k then ev a ρ else ev b ρ
  | .tup es, ρ => (evA es ρ).bind fun ts => if ts.length ≤ big then okv (.tup ts) else .fail
  | .lst es, ρ => (evA es ρ).bind fun ts => if ts.length ≤ big then .ok (.lst ts, .fr) else .fail
  | .new es, ρ => (evA es ρ).bind fun ts st => if ts.length ≤ big then .ok (.loc st.length, .va) (st ++ [.lst ts]) else .fail
  | .ix a i, ρ => (ev a ρ).bind fun x => (ev i ρ).bind fun y => evIx x.1 y.1
  | .sl a lo hi, ρ => (ev a ρ).bind fun x => (evO lo ρ).bind fun l => (evO hi ρ).bind fun h => evSl x.1 l h
  | .call f es, ρ => (evA es ρ).bind fun ts => O.c1 f ts
  | .bi b es, ρ => (evRs es ρ).bind fun ts => evBi b ts
  | .isi a t, ρ => (ev a ρ).bind fun x => (M.of (isTy x.1 t)).bind fun b => okv (.bl b)
  | .mt m o es, ρ => (ev o ρ).bind fun x => if mtOk m x.1 = true then (evRs es ρ).bind fun ts => evMt m x.1 ts else .fail
  | .meth m o es, ρ => (ev o ρ).bind fun x => match x.1 with
    | .loc n => fun st => match st[n]? with
      | some (.ins c fs) => (M.of ((Γ.cls[c]?).bind fun C => C.meths.lookup m)).bind (fun f => (evA es ρ).bind fun ts => O.c1 f (.loc n :: ts)) st
      | _ => .fail
    | _ => .fail
  | .fld o f, ρ => (ev o ρ).bind fun x => match x.1 with
    | .loc n => fun st => match st[n]? with
      | some (.ins c fs) => (M.of (fs.lookup f)).bind okv st
      | _ => .fail
    | _ => .fail
  | .mk c es, ρ => (M.of (Γ.cls[c]?)).bind fun C => (evA es ρ).bind fun ts st => ((O.c2 C.init (.loc st.length :: ts)).bind fun r => match r.1 with
    | .non => okv (.loc st.length)
    | _ => .fail) (st ++ [.ins c []])
  | .lc e tg ik it cs own, ρ => (evRs it ρ).bind fun ts => (items ik ts).bind fun xs => M.nox ((lcGo (fun x => (M.of (bindTg tg x (wipeR ρ own))).bind fun ρ1 => (tst cs ρ1).bind fun k => if k then ((ev e ρ1).bind keepR).bind fun t => .ok (some t) else .ok none) [] xs).bind fun ys => .ok (.lst ys, .fr))
def evO : EO → Ro → M (Option Int)
  | .none, _ => .ok none
  | .some e, ρ => (ev e ρ).bind fun x => match x.1 with
    | .int i => .ok (some i)
    | _ => .fail
/-- values that stay -/
def evA : EL → Ro → M (List T)
  | .nil, _ => .ok []
  | .cons e r, ρ => ((ev e ρ).bind keepR).bind fun t => (evA r ρ).bind fun ts => .ok (t :: ts)
/-- values that are read -/
def evRs : EL → Ro → M (List T)
  | .nil, _ => .ok []
  | .cons e r, ρ => (ev e ρ).bind fun x => (evRs r ρ).bind fun ts => .ok (x.1 :: ts)
def tst : B → Ro → M Bool
  | .yes, _ => .ok true
  | .of e, ρ => (ev e ρ).bind fun x => truth x.1
  | .and a b, ρ => (tst a ρ).bind fun k => if k then tst b ρ else .ok false
  | .or a b, ρ => (tst a ρ).bind fun k => if k then .ok true else tst b ρ
  | .not a, ρ => (tst a ρ).bind fun k => .ok (!k)
end
end

/-! ### statements -/
inductive RS where
  | ok (f : Fw) (ρ : Ro) (st : Store)
  | exn (x : Nat) (fs : List (Nat × T)) (ρ : Ro) (st : Store)
  | fail
abbrev MS := Store → RS
def MS.fail : MS := fun _ => .fail
/-- an expression's value, then on; an exception at the slots ρ -/
def M.then {α : Type} (m : M α) (ρ : Ro) (k : α → MS) : MS := fun st => match m st with
  | .ok a st' => k a st'
  | .exn x fs st' => .exn x fs ρ st'
  | .fail => .fail
def MS.seq (m : MS) (k : Ro → MS) : MS := fun st => match m st with
  | .ok .nx ρ st' => k ρ st'
  | r => r
def nxt (ρ : Ro) : MS := fun st => .ok .nx ρ st
def putN (f : Nat) (t : T) : List (Nat × T) → List (Nat × T)
  | [] => [(f, t)]
  | (g, x) :: r => if g = f then (g, t) :: r else (g, x) :: putN f t r
def setTg (tg : Tg) (r : R) (ρ : Ro) : Option Ro := match tg, r with
  | .n i, (.lst ts, .fr) => some (ρ.set i (.ow ts))
  | .n i, (t, .va) => some (ρ.set i (.va t))
  | .tup a, (t, .va) => bindTg (.tup a) t ρ
  | _, _ => none
/-- the slots is take the values of a row, fresh lists their own -/
def setRow : List Nat → List R → Ro → Option Ro
  | [], [], ρ => some ρ
  | i :: is, r :: rs, ρ => (setTg (.n i) r ρ).bind fun ρ1 => setRow is rs ρ1
  | _, _, _ => none
def whileGo (c : Ro → M Bool) (b : Ro → MS) : Nat → Ro → MS
  | 0, _ => .fail
  | n + 1, ρ => (c ρ).then ρ fun k => if k = true then (fun st => match b ρ st with
      | .ok .nx ρ1 st' => whileGo c b n ρ1 st'
      | .ok .ct ρ1 st' => whileGo c b n ρ1 st'
      | .ok .bk ρ1 st' => .ok .nx ρ1 st'
      | r => r) else nxt ρ
def forGo (tg : Tg) (b : Ro → MS) : List T → Ro → MS
  | [], ρ => nxt ρ
  | x :: xs, ρ => match bindTg tg x ρ with
    | none => .fail
    | some ρ0 => fun st => match b ρ0 st with
      | .ok .nx ρ1 st' => forGo tg b xs ρ1 st'
      | .ok .ct ρ1 st' => forGo tg b xs ρ1 st'
      | .ok .bk ρ1 st' => .ok .nx ρ1 st'
      | r => r
section
variable (Γ : Gam) (O : Or)
/-- values with their flags, none borrowed -/
def evF : EL → Ro → M (List R)
  | .nil, _ => .ok []
  | .cons e r, ρ => (ev Γ O e ρ).bind fun x => if x.2 = .bo then .fail else (evF r ρ).bind fun ts => .ok (x :: ts)
def evS : S → Ro → MS
  | .pass, ρ => nxt ρ
  | .seq a b, ρ => (evS a ρ).seq (evS b)
  | .asg fz tg e, ρ => (ev Γ O e (frz ρ fz)).then (frz ρ fz) fun r => match setTg tg r (frz ρ fz) with
    | some ρ1 => nxt ρ1
    | none => .fail
  | .par fz is es, ρ => (evF Γ O es (frz ρ fz)).then (frz ρ fz) fun rs => match setRow is rs (frz ρ fz) with
    | some ρ1 => nxt ρ1
    | none => .fail
  | .aug i op e, ρ => match ρ[i]? with
    | some (.va t) => (ev Γ O e ρ).then ρ fun y => match evAug op t y.1 with
      | some z => nxt (ρ.set i (.va z))
      | none => .fail
    | _ => .fail
  | .setix fz o i e, ρ => ((ev Γ O e (frz ρ fz)).bind keepR).then (frz ρ fz) fun t => (ev Γ O o (frz ρ fz)).then (frz ρ fz) fun x => (ev Γ O i (frz ρ fz)).then (frz ρ fz) fun y => match x.1, y.1 with
    | .loc n, .int k => fun st => match st[n]? with
      | some (.lst ts) => match ixN ts.length k with
        | some j => .ok .nx (frz ρ fz) (st.set n (.lst (ts.set j t)))
        | none => .fail
      | _ => .fail
    | _, _ => .fail
  | .setfld fz o f e, ρ => ((ev Γ O e (frz ρ fz)).bind keepR).then (frz ρ fz) fun t => (ev Γ O o (frz ρ fz)).then (frz ρ fz) fun x => match x.1 with
    | .loc n => fun st => match st[n]? with
      | some (.ins c fs) => if fs.length < 900 then .ok .nx (frz ρ fz) (st.set n (.ins c (putN f t fs))) else .fail
      | _ => .fail
    | _ => .fail
  | .augfld o f op e, ρ => (ev Γ O o ρ).then ρ fun x => match x.1 with
    | .loc n => fun st => match st[n]? with
      | some (.ins c0 fs) => (match fs.lookup f with
        | some t => (ev Γ O e ρ).then ρ fun y st' => match evAug op t y.1, st'[n]? with
          | some z, some (.ins c fs') => if c = c0 ∧ fs'.length < 900 then .ok .nx ρ (st'.set n (.ins c (putN f z fs'))) else .fail
          | _, _ => .fail
        | none => .fail) st
      | _ => .fail
    | _ => .fail
  | .app fz i e, ρ => match (frz ρ fz)[i]? with
    | some (.ow ts) => ((ev Γ O e (frz ρ fz)).bind keepR).then (frz ρ fz) fun t => if ts.length < big then nxt ((frz ρ fz).set i (.ow (ts ++ [t]))) else .fail
    | _ => .fail
  | .ext fz i e, ρ => match (frz ρ fz)[i]? with
    | some (.ow ts) => (ev Γ O e (frz ρ fz)).then (frz ρ fz) fun x => match x.1 with
      | .lst us => if ts.length + us.length ≤ big then nxt ((frz ρ fz).set i (.ow (ts ++ us))) else .fail
      | _ => .fail
    | _ => .fail
  | .pop tg i, ρ => match ρ[i]? with
    | some (.ow ts) => match ts.getLast? with
      | some t => match setTg tg (t, .va) (ρ.set i (.ow ts.dropLast)) with
        | some ρ1 => nxt ρ1
        | none => .fail
      | none => .fail
    | _ => .fail
  | .ex fz e, ρ => (ev Γ O e (frz ρ fz)).then (frz ρ fz) fun _ => nxt (frz ρ fz)
  | .ret fz e, ρ => (ev Γ O e (frz ρ fz)).then (frz ρ fz) fun r => match r with
    | (_, .bo) => .fail
    | r => fun st => .ok (.rt r) (frz ρ fz) st
  | .retv i, ρ => match ρ[i]? with
    | some (.ow ts) => fun st => .ok (.rt (.lst ts, .fr)) ρ st
    | some (.va t) => fun st => .ok (.rt (t, .va)) ρ st
    | _ => .fail
  | .retn, ρ => fun st => .ok (.rt (.non, .va)) ρ st
  | .ite fz c a b, ρ => (tst Γ O c (frz ρ fz)).then (frz ρ fz) fun k => if k = true then evS a (frz ρ fz) else evS b (frz ρ fz)
  | .while c b, ρ => whileGo (tst Γ O c) (evS b) Γ.wf ρ
  | .for fz tg ik it b, ρ => (evA Γ O it (frz ρ fz)).then (frz ρ fz) fun ts => (items ik ts).then (frz ρ fz) fun xs => forGo tg (evS b) xs (frz ρ fz)
  | .brk, ρ => fun st => .ok .bk ρ st
  | .cont, ρ => fun st => .ok .ct ρ st
  | .raise x es, ρ => match es, Γ.exs[x]? with
    | .nil, some X => if X.flds = [] then fun st => .exn x [] ρ st else .fail
    | _, _ => .fail
  | .try b x h, ρ => fun st => match evS b ρ st with
    | .exn y _ ρ1 st1 => if y = x then (match evS h ρ1 st1 with
      | .exn _ _ _ _ => .fail
      | r => r) else .fail
    | r => r
end
/-! ### calls -/
def start0 (fd : FD) (args : List T) : Ro := args.map Sl.va ++ List.replicate (fd.N.length - args.length) Sl.un
def retOf (m : MS) : M R := fun st => match m st with
  | .ok (.rt r) _ st' => .ok r st'
  | .ok .nx _ st' => .ok (.non, .va) st'
  | .ok _ _ _ => .fail
  | .exn x fs _ st' => .exn x fs st'
  | .fail => .fail
def runF (Γ : Gam) (O : Or) (f : Nat) (args : List T) : M R := match Γ.fds[f]? with
  | some fd => if args.length = fd.ps.length then retOf (evS Γ O fd.body (start0 fd args)) else .fail
  | none => .fail
def callF (Γ : Gam) : Nat → Nat → List T → M R
  | 0, _, _ => .fail
  | 1, f, args => runF Γ ⟨fun _ _ => .fail, fun _ _ => .fail⟩ f args
  | n + 2, f, args => runF Γ ⟨callF Γ (n + 1), callF Γ n⟩ f args
theorem callF_succ (Γ : Gam) (n : Nat) (f : Nat) (args : List T) : callF Γ (n + 1) f args = runF Γ ⟨callF Γ n, callF Γ (n - 1)⟩ f args := by
  cases n with
  | zero =>
    have e : callF Γ 0 = fun _ _ => M.fail := by funext f args; rfl
    show runF Γ ⟨fun _ _ => M.fail, fun _ _ => M.fail⟩ f args = runF Γ ⟨callF Γ 0, callF Γ 0⟩ f args
    rw [e]
  | succ n => rfl
end G

set_option Elab.async false
set_option linter.all false
set_option maxRecDepth 100000
set_option maxHeartbeats 1000000
/-! What a tree of values stands for in the abstract heap. -/
namespace G
open PySem PySem.Spec PyProof.Rows L2

abbrev St := L2.St
/-- the frozen lists, the cells' addresses -/
structure Gh where
  F : Addr → Prop
  η : List Addr
/-- a list that was handed in -/
def Scr (K : PySem.W.Frag) (H : Hp) (a : Addr) (xs : List V) : Prop :=
  (∃ o, H a = some (.frz o (.lst xs))) ∨ ∃ (o : Obj) (its : Array Value) (n : Nat), K.lookup a = some o ∧ o.cls = .type "list" ∧ o.dict = none ∧ o.data = .seq its n ∧ its.size ≤ sizeLine ∧ Vals xs its.toList
theorem Scr.sq {K : PySem.W.Frag} {H : Hp} {a : Addr} {xs : List V} (h : Scr K H a xs) : SqL K H a xs := by
  rcases h with h | h
  · exact .inl (.inr h)
  · exact .inr h
mutual
inductive RelT (K : PySem.W.Frag) (g : Gh) (H : Hp) : T → V → Prop
  | non : RelT K g H .non .non
  | bl (b : Bool) : RelT K g H (.bl b) (.bl b)
  | int (i : Int) : RelT K g H (.int i) (.int i)
  | str (l : List Nat) : RelT K g H (.str l) (.str (toS l))
  | byt (l : List UInt8) : RelT K g H (.byt l) (.byt l.toArray)
  | tup {a : Addr} {xs : List V} {ts : List T} : SqT K H a xs → RelTs K g H ts xs → RelT K g H (.tup ts) (.ref a)
  | lst {a : Addr} {xs : List V} {ts : List T} : g.F a → H a = some (.lst xs) → RelTs K g H ts xs → RelT K g H (.lst ts) (.ref a)
  | scr {a : Addr} {ns : List Int} : Scr K H a (ns.map V.int) → RelT K g H (.scr ns) (.ref a)
  | loc {n : Nat} {a : Addr} : g.η[n]? = some a → RelT K g H (.loc n) (.ref a)
inductive RelTs (K : PySem.W.Frag) (g : Gh) (H : Hp) : List T → List V → Prop
  | nil : RelTs K g H [] []
  | cons {t : T} {v : V} {ts : List T} {vs : List V} : RelT K g H t v → RelTs K g H ts vs → RelTs K g H (t :: ts) (v :: vs)
end
/-- what stands -/
structure Mono (K : PySem.W.Frag) (g : Gh) (H : Hp) (g' : Gh) (H' : Hp) : Prop where
  lst : ∀ a xs, g.F a → H a = some (.lst xs) → g'.F a ∧ H' a = some (.lst xs)
  tup : ∀ a xs, SqT K H a xs → SqT K H' a xs
  scr : ∀ a xs, Scr K H a xs → Scr K H' a xs
  loc : ∀ (n : Nat) a, g.η[n]? = some a → g'.η[n]? = some a
section
variable {K : PySem.W.Frag} {g g' : Gh} {H H' : Hp}
mutual
theorem RelT.mono (m : Mono K g H g' H') : ∀ (t : T) (v : V), RelT K g H t v → RelT K g' H' t v
  | .non, _, h => by cases h; exact .non
  | .bl _, _, h => by cases h; exact .bl _
  | .int _, _, h => by cases h; exact .int _
  | .str _, _, h => by cases h; exact .str _
  | .byt _, _, h => by cases h; exact .byt _
  | .tup ts, _, h => by
    cases h with
    | tup a b => exact .tup (m.tup _ _ a) (RelTs.mono m ts _ b)
  | .lst ts, _, h => by
    cases h with
    | lst a b c =>
      obtain ⟨p, q⟩ := m.lst _ _ a b
      exact .lst p q (RelTs.mono m ts _ c)
  | .scr _, _, h => by
    cases h with
    | scr a => exact .scr (m.scr _ _ a)
  | .loc _, _, h => by
    cases h with
    | loc a => exact .loc (m.loc _ _ a)
  | .met _ _, _, h => by cases h
theorem RelTs.mono (m : Mono K g H g' H') : ∀ (ts : List T) (vs : List V), RelTs K g H ts vs → RelTs K g' H' ts vs
  | [], _, h => by cases h; exact .nil
  | t :: ts, _, h => by
    cases h with
    | cons a b => exact .cons (RelT.mono m t _ a) (RelTs.mono m ts _ b)
end
theorem RelTs.length : ∀ {ts : List T} {vs : List V}, RelTs K g H ts vs → ts.length = vs.length
  | [], _, h => by cases h; rfl
  | t :: ts, _, h => by
    cases h with
    | cons a b => simp [RelTs.length b]
theorem RelTs.get : ∀ {ts : List T} {vs : List V} {i : Nat} {t : T}, RelTs K g H ts vs → ts[i]? = some t → ∃ v, vs[i]? = some v ∧ RelT K g H t v
  | [], _, i, t, h, e => by simp at e
  | t :: ts, _, 0, u, h, e => by
    cases h with
    | cons a b => simp at e; subst e; exact ⟨_, rfl, a⟩
  | t :: ts, _, i + 1, u, h, e => by
    cases h with
    | cons a b =>
      obtain ⟨v, h1, h2⟩ := RelTs.get (i := i) b (by simpa using e)
      exact ⟨v, by simpa using h1, h2⟩
theorem RelTs.get' : ∀ {ts : List T} {vs : List V} {i : Nat} {v : V}, RelTs K g H ts vs → vs[i]? = some v → ∃ t, ts[i]? = some t ∧ RelT K g H t v
  | [], _, i, t, h, e => by cases h; simp at e
  | t :: ts, _, 0, u, h, e => by
    cases h with
    | cons a b => simp at e; subst e; exact ⟨_, rfl, a⟩
  | t :: ts, _, i + 1, u, h, e => by
    cases h with
    | cons a b =>
      obtain ⟨v, h1, h2⟩ := RelTs.get' (i := i) b (by simpa using e)
      exact ⟨v, by simpa using h1, h2⟩
theorem RelTs.append : ∀ {ts us : List T} {vs ws : List V}, RelTs K g H ts vs → RelTs K g H us ws → RelTs K g H (ts ++ us) (vs ++ ws)
  | [], _, _, _, h, k => by cases h; exact k
  | t :: ts, _, _, _, h, k => by
    cases h with
    | cons a b => exact .cons a (RelTs.append b k)
theorem RelTs.take : ∀ {ts : List T} {vs : List V} (n : Nat), RelTs K g H ts vs → RelTs K g H (ts.take n) (vs.take n)
  | _, _, 0, _ => .nil
  | [], _, _ + 1, h => by cases h; exact .nil
  | t :: ts, _, n + 1, h => by
    cases h with
    | cons a b => exact .cons a (RelTs.take n b)
theorem RelTs.drop : ∀ {ts : List T} {vs : List V} (n : Nat), RelTs K g H ts vs → RelTs K g H (ts.drop n) (vs.drop n)
  | _, _, 0, h => h
  | [], _, _ + 1, h => by cases h; exact .nil
  | t :: ts, _, n + 1, h => by
    cases h with
    | cons a b => exact RelTs.drop n b
theorem RelTs.set {t : T} {v : V} (r : RelT K g H t v) : ∀ {ts : List T} {vs : List V} (i : Nat), RelTs K g H ts vs → RelTs K g H (ts.set i t) (vs.set i v)
  | [], _, _, h => by cases h; exact .nil
  | _ :: _, _, 0, h => by
    cases h with
    | cons a b => exact .cons r b
  | _ :: _, _, i + 1, h => by
    cases h with
    | cons a b => exact .cons a (RelTs.set r i b)
theorem RelTs.dropLast {ts : List T} {vs : List V} (h : RelTs K g H ts vs) : RelTs K g H ts.dropLast vs.dropLast := by
  rw [List.dropLast_eq_take, List.dropLast_eq_take, h.length]
  exact h.take _
theorem RelTs.cut {ts : List T} {vs : List V} (h : RelTs K g H ts vs) (lo hi : Option Int) : RelTs K g H (cut ts lo hi) (cutV vs lo hi) := by
  unfold G.cut cutV
  rw [h.length]
  exact (h.drop _).take _
theorem RelTs.at {ts : List T} {vs : List V} {i : Int} {t : T} (h : RelTs K g H ts vs) (e : atI ts i = some t) : ∃ v, atI vs i = some v ∧ RelT K g H t v := by
  unfold atI at e ⊢
  rw [← h.length]
  cases q : ixN ts.length i with
  | none => rw [q] at e; cases e
  | some j =>
    rw [q] at e
    exact h.get e
theorem RelTs.ints : ∀ {ts : List T} {vs : List V} {ns : List Int}, RelTs K g H ts vs → T.ints? ts = some ns → vs = ns.map V.int
  | [], _, _, h, e => by
    cases h
    have e' : some [] = some _ := e
    cases e'
    rfl
  | t :: ts, _, _, h, e => by
    cases h with
    | cons a b =>
      cases t with
      | int i =>
        have e' : (T.ints? ts).map (i :: ·) = some _ := e
        cases q : T.ints? ts with
        | none => rw [q] at e'; cases e'
        | some ms =>
          rw [q] at e'
          cases e'
          cases a
          rw [RelTs.ints b q]
          rfl
      | _ => cases e
theorem RelTs.bls : ∀ {ts : List T} {vs : List V} {ns : List Bool}, RelTs K g H ts vs → T.bls? ts = some ns → vs = ns.map V.bl
  | [], _, _, h, e => by
    cases h
    have e' : some [] = some _ := e
    cases e'
    rfl
  | t :: ts, _, _, h, e => by
    cases h with
    | cons a b =>
      cases t with
      | bl i =>
        have e' : (T.bls? ts).map (i :: ·) = some _ := e
        cases q : T.bls? ts with
        | none => rw [q] at e'; cases e'
        | some ms =>
          rw [q] at e'
          cases e'
          cases a
          rw [RelTs.bls b q]
          rfl
      | _ => cases e
theorem relTs_ints : ∀ (ns : List Int), RelTs K g H (ns.map T.int) (ns.map V.int)
  | [] => .nil
  | i :: r => .cons (.int i) (relTs_ints r)
mutual
theorem RelT.D : ∀ (t : T) (v : V) (d : PyData), RelT K g H t v → t.D? = some d → Dp K H v d
  | .non, _, _, h, e => by cases h; simp [T.D?] at e; subst e; exact .non
  | .bl _, _, _, h, e => by cases h; simp [T.D?] at e; subst e; exact .bl _
  | .int _, _, _, h, e => by cases h; simp [T.D?] at e; subst e; exact .int _
  | .str _, _, _, h, e => by cases h; simp [T.D?] at e; subst e; exact .str _
  | .byt _, _, _, h, e => by simp [T.D?] at e
  | .tup ts, _, _, h, e => by
    cases h with
    | tup a b =>
      cases q : T.Ds? ts with
      | none => simp [T.D?, q] at e
      | some ds =>
        simp [T.D?, q] at e
        subst e
        exact .tup a (RelTs.Ds ts _ ds b q)
  | .lst ts, _, _, h, e => by
    cases h with
    | lst a b c =>
      cases q : T.Ds? ts with
      | none => simp [T.D?, q] at e
      | some ds =>
        simp [T.D?, q] at e
        subst e
        exact .lst (SqL.of b) (RelTs.Ds ts _ ds c q)
  | .scr _, _, _, h, e => by simp [T.D?] at e
  | .loc _, _, _, h, e => by simp [T.D?] at e
  | .met _ _, _, _, h, e => by simp [T.D?] at e
theorem RelTs.Ds : ∀ (ts : List T) (vs : List V) (ds : List PyData), RelTs K g H ts vs → T.Ds? ts = some ds → DpAll K H vs ds
  | [], _, _, h, e => by cases h; simp [T.Ds?] at e; subst e; exact .nil
  | t :: ts, _, _, h, e => by
    cases h with
    | cons a b =>
      cases q : T.D? t with
      | none => simp [T.Ds?, q] at e
      | some d =>
        cases q2 : T.Ds? ts with
        | none => simp [T.Ds?, q, q2] at e
        | some ds =>
          simp [T.Ds?, q, q2] at e
          subst e
          exact .cons (RelT.D t _ d a q) (RelTs.Ds ts _ ds b q2)
end
end

/-! ### cells, the whole state -/
inductive RelFs (Γ : Gam) (K : PySem.W.Frag) (g : Gh) (H : Hp) : List (Nat × T) → List (Str × V) → Prop
  | nil : RelFs Γ K g H [] []
  | cons {f : Nat} {s : Str} {t : T} {v : V} {fs : List (Nat × T)} {vs : List (Str × V)} : Γ.fnm[f]? = some s → RelT K g H t v → RelFs Γ K g H fs vs → RelFs Γ K g H ((f, t) :: fs) ((s, v) :: vs)
def clsA (Γ : Gam) (K : PySem.W.Frag) (c : Nat) : Addr := match Γ.cls[c]? with
  | some C => He.ga K C.name
  | none => 0
inductive CellAt (Γ : Gam) (K : PySem.W.Frag) (g : Gh) (H : Hp) : Cell → Addr → Prop
  | lst {a : Addr} {ts : List T} {xs : List V} : H a = some (.lst xs) → RelTs K g H ts xs → CellAt Γ K g H (.lst ts) a
  | ins {a dx : Addr} {c : Nat} {C : CD} {fs : List (Nat × T)} {vs : List (Str × V)} : Γ.cls[c]? = some C → H a = some (.ins (clsA Γ K c) dx vs) → RelFs Γ K g H fs vs → CellAt Γ K g H (.ins c fs) a
structure WF (Γ : Gam) (K : PySem.W.Frag) (g : Gh) (st : Store) (H : Hp) : Prop where
  fl : ∀ a, g.F a → (∃ xs, H a = some (.lst xs)) ∧ a ∉ g.η
  nd : g.η.Nodup
  len : st.length = g.η.length
  ce : ∀ (k : Nat) c a, st[k]? = some c → g.η[k]? = some a → CellAt Γ K g H c a
structure Step (g : Gh) (H : Hp) (g' : Gh) (H' : Hp) : Prop where
  mono : ∀ a, g.F a → g'.F a
  new : ∀ a, g'.F a → g.F a ∨ H a = none
  ext : ∃ e, g'.η = g.η ++ e ∧ ∀ a ∈ e, H a = none
  keep : ∀ a o, H a = some o → a ∉ g.η → H' a = some o
  dom : ∀ a o, H a = some o → ∃ o', H' a = some o'
section
variable {Γ : Gam} {K : PySem.W.Frag} {g g1 g' : Gh} {st st' : Store} {H H1 H' : Hp}
theorem Step.refl : Step g H g H := ⟨fun _ h => h, fun _ h => .inl h, ⟨[], by simp⟩, fun _ _ h _ => h, fun _ _ h => ⟨_, h⟩⟩
theorem Step.back {a : Addr} (s : Step g H g' H') (h : H' a = none) : H a = none := by
  cases q : H a with
  | none => rfl
  | some o =>
    obtain ⟨o', e⟩ := s.dom a o q
    rw [h] at e; cases e
theorem Step.trans (s : Step g H g1 H1) (s' : Step g1 H1 g' H') : Step g H g' H' := by
  refine ⟨fun a h => s'.mono a (s.mono a h), fun a h => ?_, ?_, fun a o h n => ?_, fun a o h => ?_⟩
  · rcases s'.new a h with h | h
    · exact s.new a h
    · exact .inr (s.back h)
  · obtain ⟨e, h1, h2⟩ := s.ext
    obtain ⟨e', h1', h2'⟩ := s'.ext
    refine ⟨e ++ e', by rw [h1', h1, List.append_assoc], fun a h => ?_⟩
    rcases List.mem_append.mp h with h | h
    · exact h2 a h
    · exact s.back (h2' a h)
  · refine s'.keep a o (s.keep a o h n) fun z => ?_
    obtain ⟨e, h1, h2⟩ := s.ext
    rw [h1] at z
    rcases List.mem_append.mp z with z | z
    · exact n z
    · rw [h2 a z] at h; cases h
  · obtain ⟨o', e⟩ := s.dom a o h
    exact s'.dom a o' e
theorem WF.cellO (w : WF Γ K g st H) {a : Addr} (h : a ∈ g.η) : (∃ xs, H a = some (.lst xs)) ∨ ∃ C dx vs, H a = some (.ins C dx vs) := by
  obtain ⟨k, hk⟩ := List.getElem?_of_mem h
  have hl : k < st.length := by rw [w.len]; exact (List.getElem?_eq_some_iff.mp hk).1
  have := w.ce k st[k] a (by simp [hl]) hk
  cases hc : st[k] with
  | lst ts =>
    rw [hc] at this
    cases this with
    | lst h1 _ => exact .inl ⟨_, h1⟩
  | ins c fs =>
    rw [hc] at this
    cases this with
    | ins _ h1 _ => exact .inr ⟨_, _, _, h1⟩
theorem WF.tupN (w : WF Γ K g st H) {a : Addr} {xs : List V} (h : H a = some (.tup xs)) : a ∉ g.η := fun z => by
  rcases w.cellO z with ⟨_, e⟩ | ⟨_, _, _, e⟩ <;> rw [h] at e <;> cases e
theorem WF.frzN (w : WF Γ K g st H) {a : Addr} {o : Obj} {u : HO} (h : H a = some (.frz o u)) : a ∉ g.η := fun z => by
  rcases w.cellO z with ⟨_, e⟩ | ⟨_, _, _, e⟩ <;> rw [h] at e <;> cases e
theorem Step.mon (s : Step g H g' H') (w : WF Γ K g st H) : Mono K g H g' H' := by
  refine ⟨fun a xs f h => ⟨s.mono a f, s.keep a _ h (w.fl a f).2⟩, fun a xs h => ?_, fun a xs h => ?_, fun n a h => ?_⟩
  · rcases h with (h | ⟨o, h⟩) | h
    · exact .inl (.inl (s.keep a _ h (w.tupN h)))
    · exact .inl (.inr ⟨o, s.keep a _ h (w.frzN h)⟩)
    · exact .inr h
  · rcases h with ⟨o, h⟩ | h
    · exact .inl ⟨o, s.keep a _ h (w.frzN h)⟩
    · exact .inr h
  · obtain ⟨e, h1, _⟩ := s.ext
    rw [h1, List.getElem?_append_left (List.getElem?_eq_some_iff.mp h).1]
    exact h
theorem RelT.step {t : T} {v : V} (r : RelT K g H t v) (s : Step g H g' H') (w : WF Γ K g st H) : RelT K g' H' t v := RelT.mono (s.mon w) t v r
theorem RelTs.step {t : List T} {v : List V} (r : RelTs K g H t v) (s : Step g H g' H') (w : WF Γ K g st H) : RelTs K g' H' t v := RelTs.mono (s.mon w) t v r
theorem RelFs.mono (m : Mono K g H g' H') : ∀ {fs : List (Nat × T)} {vs : List (Str × V)}, RelFs Γ K g H fs vs → RelFs Γ K g' H' fs vs := by
  intro fs vs h
  induction h with
  | nil => exact .nil
  | cons a b _ ih => exact .cons a (RelT.mono m _ _ b) ih

/-! ### readable lists -/
/-- at v a list of ts is to be read -/
def RdL (K : PySem.W.Frag) (g : Gh) (H : Hp) (ts : List T) (v : V) : Prop := ∃ a xs, v = .ref a ∧ H a = some (.lst xs) ∧ a ∉ g.η ∧ RelTs K g H ts xs
def RelRd (K : PySem.W.Frag) (g : Gh) (H : Hp) (t : T) (v : V) : Prop := RelT K g H t v ∨ ∃ ts, t = .lst ts ∧ RdL K g H ts v
theorem RelRd.lst {ts : List T} {v : V} (r : RelRd K g H (.lst ts) v) (w : WF Γ K g st H) : RdL K g H ts v := by
  rcases r with r | ⟨us, e, r⟩
  · cases r with
    | lst f h b => exact ⟨_, _, rfl, h, (w.fl _ f).2, b⟩
  · cases e; exact r
theorem RdL.step {ts : List T} {v : V} (r : RdL K g H ts v) (s : Step g H g' H') (w : WF Γ K g st H) : RdL K g' H' ts v := by
  obtain ⟨a, xs, e, h, n, b⟩ := r
  refine ⟨a, xs, e, s.keep a _ h n, fun z => ?_, b.step s w⟩
  obtain ⟨ex, h1, h2⟩ := s.ext
  rw [h1] at z
  rcases List.mem_append.mp z with z | z
  · exact n z
  · rw [h2 a z] at h; cases h
theorem RelRd.step {t : T} {v : V} (r : RelRd K g H t v) (s : Step g H g' H') (w : WF Γ K g st H) : RelRd K g' H' t v := by
  rcases r with r | ⟨us, e, r⟩
  · exact .inl (r.step s w)
  · exact .inr ⟨us, e, r.step s w⟩
/-- what is no list is as it is -/
theorem RelRd.tup {ts : List T} {v : V} (r : RelRd K g H (.tup ts) v) : RelT K g H (.tup ts) v := by
  rcases r with r | ⟨us, e, r⟩
  · exact r
  · cases e
inductive RelRds (K : PySem.W.Frag) (g : Gh) (H : Hp) : List T → List V → Prop
  | nil : RelRds K g H [] []
  | cons {t : T} {v : V} {ts : List T} {vs : List V} : RelRd K g H t v → RelRds K g H ts vs → RelRds K g H (t :: ts) (v :: vs)
theorem RelRds.step {t : List T} {v : List V} (r : RelRds K g H t v) (s : Step g H g' H') (w : WF Γ K g st H) : RelRds K g' H' t v := by
  induction r with
  | nil => exact .nil
  | cons a _ ih => exact .cons (a.step s w) ih
/-- a result by its flag; g, H: where it began -/
def RelR (K : PySem.W.Frag) (H : Hp) (g' : Gh) (H' : Hp) (r : R) (v : V) : Prop := match r.2 with
  | .va => RelT K g' H' r.1 v
  | .bo => RelRd K g' H' r.1 v
  | .fr => ∃ ts a xs, r.1 = .lst ts ∧ v = .ref a ∧ H' a = some (.lst xs) ∧ RelTs K g' H' ts xs ∧ ¬ g'.F a ∧ a ∉ g'.η ∧ H a = none
theorem RelR.rd {r : R} {v : V} (h : RelR K H g' H' r v) : RelRd K g' H' r.1 v := by
  obtain ⟨t, fl⟩ := r
  cases fl with
  | va => exact .inl h
  | bo => exact h
  | fr =>
    obtain ⟨ts, a, xs, e1, e2, e3, e4, e5, e6, e7⟩ := h
    exact .inr ⟨ts, e1, a, xs, e2, e3, e6, e4⟩
theorem RelR.restart {r : R} {v : V} (h : RelR K H1 g' H' r v) (s : Step g H g1 H1) : RelR K H g' H' r v := by
  obtain ⟨t, fl⟩ := r
  cases fl with
  | va => exact h
  | bo => exact h
  | fr =>
    obtain ⟨ts, a, xs, e1, e2, e3, e4, e5, e6, e7⟩ := h
    exact ⟨ts, a, xs, e1, e2, e3, e4, e5, e6, s.back e7⟩
/-! ### new objects -/
theorem Step.alloc {a : Addr} {o : HO} (n : H a = none) : Step g H g (upd H a o) :=
  ⟨fun _ h => h, fun _ h => .inl h, ⟨[], by simp⟩, fun b u h _ => by rw [upd_ne (ne_of_none h n)]; exact h, fun b u h => ⟨u, by rw [upd_ne (ne_of_none h n)]; exact h⟩⟩
theorem Mono.alloc {a : Addr} {o : HO} (n : H a = none) : Mono K g H g (upd H a o) := by
  refine ⟨fun b xs f h => ⟨f, by rw [upd_ne (ne_of_none h n)]; exact h⟩, fun b xs h => ?_, fun b xs h => ?_, fun _ _ h => h⟩
  · rcases h with (h | ⟨o, h⟩) | h
    · exact .inl (.inl (by rw [upd_ne (ne_of_none h n)]; exact h))
    · exact .inl (.inr ⟨o, by rw [upd_ne (ne_of_none h n)]; exact h⟩)
    · exact .inr h
  · rcases h with ⟨o, h⟩ | h
    · exact .inl ⟨o, by rw [upd_ne (ne_of_none h n)]; exact h⟩
    · exact .inr h
theorem CellAt.mono {c : Cell} {a : Addr} (h : CellAt Γ K g H c a) (m : Mono K g H g' H') (e : ∀ o, H a = some o → H' a = some o) : CellAt Γ K g' H' c a := by
  cases h with
  | lst h1 h2 => exact .lst (e _ h1) (RelTs.mono m _ _ h2)
  | ins h0 h1 h2 => exact .ins h0 (e _ h1) (h2.mono m)
theorem WF.alloc {a : Addr} {o : HO} (w : WF Γ K g st H) (n : H a = none) : WF Γ K g st (upd H a o) := by
  have up : ∀ b u, H b = some u → upd H a o b = some u := fun b u h => by rw [upd_ne (ne_of_none h n)]; exact h
  refine ⟨fun b f => ?_, w.nd, w.len, fun k c b h1 h2 => (w.ce k c b h1 h2).mono (Mono.alloc n) (up b)⟩
  obtain ⟨⟨xs, h⟩, h2⟩ := w.fl b f
  exact ⟨⟨xs, up b _ h⟩, h2⟩
/-- a fresh list is frozen -/
def Gh.frz (g : Gh) (a : Addr) : Gh := ⟨fun b => g.F b ∨ b = a, g.η⟩
theorem Mono.frz {a : Addr} : Mono K g H (g.frz a) H := ⟨fun b xs f h => ⟨.inl f, h⟩, fun _ _ h => h, fun _ _ h => h, fun _ _ h => h⟩
theorem WF.frz {a : Addr} {xs : List V} (w : WF Γ K g st H) (h : H a = some (.lst xs)) (n : a ∉ g.η) : WF Γ K (g.frz a) st H := by
  refine ⟨fun b f => ?_, w.nd, w.len, fun k c b h1 h2 => (w.ce k c b h1 h2).mono Mono.frz fun _ h => h⟩
  rcases f with f | rfl
  · exact w.fl b f
  · exact ⟨⟨xs, h⟩, n⟩
theorem Step.frz {a : Addr} (s : Step g H g' H') (n : H a = none) : Step g H (g'.frz a) H' :=
  ⟨fun b h => .inl (s.mono b h), fun b h => by
    rcases h with h | rfl
    · exact s.new b h
    · exact .inr n, s.ext, s.keep, s.dom⟩
/-- a result that stays -/
theorem RelR.stay {r : R} {t : T} {v : V} {st0 st1 : Store} (h : RelR K H g' H' r v) (s : Step g H g' H') (w : WF Γ K g' st H') (k : keepR r st0 = .ok t st1) :
    st1 = st0 ∧ t = r.1 ∧ ∃ g2, Step g H g2 H' ∧ WF Γ K g2 st H' ∧ RelT K g2 H' r.1 v ∧ Mono K g' H' g2 H' := by
  obtain ⟨u, fl⟩ := r
  cases fl with
  | va =>
    have k' : Res.ok u st0 = .ok t st1 := k
    cases k'
    exact ⟨rfl, rfl, g', s, w, h, ⟨fun _ _ f h => ⟨f, h⟩, fun _ _ h => h, fun _ _ h => h, fun _ _ h => h⟩⟩
  | bo =>
    have k' : (Res.fail : Res T) = .ok t st1 := k
    cases k'
  | fr =>
    have k' : Res.ok u st0 = .ok t st1 := k
    cases k'
    obtain ⟨ts, a, xs, e1, e2, e3, e4, e5, e6, e7⟩ := h
    refine ⟨rfl, rfl, g'.frz a, s.frz e7, w.frz e3 e6, ?_, Mono.frz⟩
    subst e2
    have q : RelT K (g'.frz a) H' (.lst ts) (.ref a) := .lst (.inr rfl) e3 (RelTs.mono Mono.frz _ _ e4)
    rw [← e1] at q
    exact q
end
end G

set_option Elab.async false
set_option linter.all false
set_option maxRecDepth 100000
set_option maxHeartbeats 1000000
/-! The evaluator's readings; expressions. -/
namespace G
open PySem PySem.Spec PyProof.Rows L2

theorem _root_.L2.PE.imp {X : Cx} {e : Expr} {t t' : TE} (h : PE X e t) (k : ∀ σ H Q, t' σ H Q → t σ H Q) : PE X e t' := ⟨fun pins s σ H Q I hw => h.run pins s σ H Q I (k σ H Q hw)⟩
theorem _root_.L2.PT.imp {X : Cx} {e : Expr} {t t' : TT} (h : PT X e t) (k : ∀ σ H Q, t' σ H Q → t σ H Q) : PT X e t' := ⟨fun pins s σ H Q I hw => h.run pins s σ H Q I (k σ H Q hw)⟩
theorem _root_.L2.PA.imp {X : Cx} {e : List Expr} {t t' : TA} (h : PA X e t) (k : ∀ σ H Q, t' σ H Q → t σ H Q) : PA X e t' := ⟨fun pos pins s σ H Q I hw => h.run pos pins s σ H Q I (k σ H Q hw)⟩
theorem _root_.L2.PO.imp {X : Cx} {e : Option Expr} {t t' : TO} (h : PO X e t) (k : ∀ σ H Q, t' σ H Q → t σ H Q) : PO X e t' := ⟨fun pins s σ H Q I hw => h.run pins s σ H Q I (k σ H Q hw)⟩
theorem _root_.L2.PS.imp {X : Cx} {e : Stmt} {t t' : TS} (h : PS X e t) (k : ∀ D σ H, t' D σ H → t D σ H) : PS X e t' := ⟨fun pins s σ H D I hw => h.run pins s σ H D I (k D σ H hw)⟩
theorem _root_.L2.PSs.imp {X : Cx} {e : List Stmt} {t t' : TS} (h : PSs X e t) (k : ∀ D σ H, t' D σ H → t D σ H) : PSs X e t' := ⟨fun pins s σ H D I hw => h.run pins s σ H D I (k D σ H hw)⟩

theorem M.bind_assoc {α β γ : Type} (m : M α) (f : α → M β) (k : β → M γ) (st : Store) : M.bind (M.bind m f) k st = M.bind m (fun a => M.bind (f a) k) st := by
  show (match (match m st with | .ok a st' => f a st' | .exn x fs st' => .exn x fs st' | .fail => .fail : Res β) with | .ok a st' => k a st' | .exn x fs st' => .exn x fs st' | .fail => .fail : Res γ) = (match m st with | .ok a st' => M.bind (f a) k st' | .exn x fs st' => .exn x fs st' | .fail => .fail)
  cases m st <;> rfl
theorem bind_ok {α β : Type} {m : M α} {k : α → M β} {st st1 : Store} {a : α} (h : m st = .ok a st1) : M.bind m k st = k a st1 := by
  unfold M.bind; rw [h]
theorem bind_exn {α β : Type} {m : M α} {k : α → M β} {st st1 : Store} {x : Nat} {fs : List (Nat × T)} (h : m st = .exn x fs st1) : M.bind m k st = .exn x fs st1 := by
  unfold M.bind; rw [h]
theorem bind_fail {α β : Type} {m : M α} {k : α → M β} {st : Store} (h : m st = .fail) : M.bind m k st = .fail := by
  unfold M.bind; rw [h]
theorem big_eq : big = sizeLine := by rw [sizeLine_eq]; rfl

section
variable (Γ : Gam) (K : PySem.W.Frag)
def excA (x : Nat) : Addr := match Γ.exs[x]? with
  | some C => He.ga K C.name
  | none => 0
/-- an exception's fields -/
def RelX (g : Gh) (H : Hp) (fs : List (Nat × T)) (d : Option Addr) : Prop :=
  (fs = [] ∧ d = none) ∨ ∃ dd vs, d = some dd ∧ H dd = some (.xd vs) ∧ RelFs Γ K g H fs vs
/-- what is wanted behind a result -/
def Wg {α β : Type} (rel : Gh → Hp → α → β → Prop) (E : XK) (g : Gh) (H : Hp) (r : Res α) (Q : β → Hp → Prop) : Prop := match r with
  | .ok a st' => ∀ g' H' b, Step g H g' H' → WF Γ K g' st' H' → rel g' H' a b → Q b H'
  | .exn x fs st' => ∀ g' H' d, Step g H g' H' → WF Γ K g' st' H' → RelX Γ K g' H' fs d → E (.ref (excA Γ K x)) d H'
  | .fail => False
structure RepE (g : Gh) (st : Store) (ρ : Ro) (σ : St) (H : Hp) : Prop where
  wf : WF Γ K g st H
  len : ρ.length = σ.length
  va : ∀ (i : Nat) t, ρ[i]? = some (.va t) → ∃ v, σ[i]? = some (some v) ∧ RelT K g H t v
  ow : ∀ (i : Nat) ts, ρ[i]? = some (.ow ts) → ∃ v, σ[i]? = some (some v) ∧ RdL K g H ts v
end
section
variable {Γ : Gam} {K : PySem.W.Frag} {α β γ δ : Type} {E : XK} {g g1 g2 g' : Gh} {H H1 H' : Hp} {st st1 : Store} {ρ : Ro} {σ : St}
theorem RepE.step (r : RepE Γ K g st ρ σ H) (s : Step g H g1 H1) (w : WF Γ K g1 st1 H1) : RepE Γ K g1 st1 ρ σ H1 :=
  ⟨w, r.len, fun i t e => let ⟨v, h1, h2⟩ := r.va i t e; ⟨v, h1, h2.step s r.wf⟩, fun i t e => let ⟨v, h1, h2⟩ := r.ow i t e; ⟨v, h1, h2.step s r.wf⟩⟩
theorem RdL.mono {ts : List T} {v : V} (r : RdL K g H ts v) (m : Mono K g H g2 H) (e : g2.η = g.η) : RdL K g2 H ts v := by
  obtain ⟨a, xs, h1, h2, h3, h4⟩ := r
  exact ⟨a, xs, h1, h2, by rw [e]; exact h3, RelTs.mono m _ _ h4⟩
theorem RelRd.mono {t : T} {v : V} (r : RelRd K g H t v) (m : Mono K g H g2 H) (e : g2.η = g.η) : RelRd K g2 H t v := by
  rcases r with r | ⟨ts, h, r⟩
  · exact .inl (RelT.mono m _ _ r)
  · exact .inr ⟨ts, h, r.mono m e⟩
theorem RepE.mono (r : RepE Γ K g st ρ σ H) (m : Mono K g H g2 H) (e : g2.η = g.η) (w : WF Γ K g2 st1 H) : RepE Γ K g2 st1 ρ σ H :=
  ⟨w, r.len, fun i t q => let ⟨v, h1, h2⟩ := r.va i t q; ⟨v, h1, RelT.mono m _ _ h2⟩, fun i t q => let ⟨v, h1, h2⟩ := r.ow i t q; ⟨v, h1, h2.mono m e⟩⟩
theorem Wg.split {rel : Gh → Hp → β → δ → Prop} {relA : Gh → Hp → α → γ → Prop} {m : M α} {k : α → M β} {Q : δ → Hp → Prop} {R : γ → Hp → Prop} (h : Wg Γ K rel E g H (M.bind m k st) Q)
    (hk : ∀ a st1 g1 H1 b, Step g H g1 H1 → WF Γ K g1 st1 H1 → relA g1 H1 a b → Wg Γ K rel E g H (k a st1) Q → R b H1) : Wg Γ K relA E g H (m st) R := by
  have h' : Wg Γ K rel E g H (match m st with | .ok a st' => k a st' | .exn x fs st' => .exn x fs st' | .fail => .fail) Q := h
  cases e : m st with
  | ok a st1 =>
    rw [e] at h'
    exact fun g1 H1 b s w r => hk a st1 g1 H1 b s w r h'
  | exn x fs st1 =>
    rw [e] at h'
    exact h'
  | fail =>
    rw [e] at h'
    exact h'
theorem Wg.restart {rel rel' : Gh → Hp → α → β → Prop} {r : Res α} {Q : β → Hp → Prop} (h : Wg Γ K rel E g H r Q) (s : Step g H g1 H1) (hr : ∀ g' H' a b, rel' g' H' a b → rel g' H' a b) : Wg Γ K rel' E g1 H1 r Q := by
  cases r with
  | ok a st1 => exact fun g' H' b s' w q => h g' H' b (s.trans s') w (hr _ _ _ _ q)
  | exn x fs st1 => exact fun g' H' d s' w q => h g' H' d (s.trans s') w q
  | fail => exact h
theorem Wg.again {r : Res R} {Q : VK} (h : Wg Γ K (RelR K H) E g H r Q) (s : Step g H g1 H1) : Wg Γ K (RelR K H1) E g1 H1 r Q := h.restart s fun _ _ _ _ q => q.restart s
theorem Wg.okv {t : T} {v : V} {Q : VK} (h : Wg Γ K (RelR K H) E g H (okv t st) Q) (w : WF Γ K g st H) (r : RelT K g H t v) : Q v H := h g H v Step.refl w r
theorem Wg.some {α : Type} {o : Option α} {k : α → M β} {rel : Gh → Hp → β → δ → Prop} {Q : δ → Hp → Prop} (h : Wg Γ K rel E g H (M.bind (M.of o) k st) Q) : ∃ a, o = some a ∧ Wg Γ K rel E g H (k a st) Q := by
  cases o with
  | none => exact False.elim h
  | some a => exact ⟨a, rfl, h⟩
/-- a result is to stay -/
theorem Wg.stay {x : R} {v : V} {k : T → M β} {rel : Gh → Hp → β → δ → Prop} {Q : δ → Hp → Prop} (h : Wg Γ K rel E g H (M.bind (keepR x) k st) Q) (s : Step g H g1 H1) (w : WF Γ K g1 st H1) (r : RelR K H g1 H1 x v) :
    ∃ g2, Step g H g2 H1 ∧ WF Γ K g2 st H1 ∧ RelT K g2 H1 x.1 v ∧ Mono K g1 H1 g2 H1 ∧ g2.η = g1.η ∧ Wg Γ K rel E g H (k x.1 st) Q := by
  obtain ⟨t, fl⟩ := x
  cases fl with
  | va => exact ⟨g1, s, w, r, ⟨fun _ _ f h => ⟨f, h⟩, fun _ _ h => h, fun _ _ h => h, fun _ _ h => h⟩, rfl, h⟩
  | bo => exact False.elim h
  | fr =>
    obtain ⟨ts, a, xs, e1, e2, e3, e4, e5, e6, e7⟩ := r
    refine ⟨g1.frz a, s.frz e7, w.frz e3 e6, ?_, Mono.frz, rfl, h⟩
    subst e2
    have q : RelT K (g1.frz a) H1 (.lst ts) (.ref a) := .lst (.inr rfl) e3 (RelTs.mono Mono.frz _ _ e4)
    have e1' : t = .lst ts := e1
    rw [← e1'] at q
    exact q
end

/-! ### the readings -/
abbrev orc (Γ : Gam) (n : Nat) : Or := ⟨callF Γ n, callF Γ (n - 1)⟩
section
variable (Γ : Gam) (K : PySem.W.Frag) (n : Nat) (W : WX)
def tE (m : E) : TE := fun σ H Q => ∃ g st ρ, RepE Γ K g st ρ σ H ∧ Wg Γ K (RelR K H) (fun c d H' => W c d σ H') g H (ev Γ (orc Γ n) m ρ st) Q
def tA (m : EL) : TA := fun σ H Q => ∃ g st ρ, RepE Γ K g st ρ σ H ∧ Wg Γ K (fun g' H' ts vs => RelTs K g' H' ts vs) (fun c d H' => W c d σ H') g H (evA Γ (orc Γ n) m ρ st) Q
def tR (m : EL) : TA := fun σ H Q => ∃ g st ρ, RepE Γ K g st ρ σ H ∧ Wg Γ K (fun g' H' ts vs => RelRds K g' H' ts vs) (fun c d H' => W c d σ H') g H (evRs Γ (orc Γ n) m ρ st) Q
def tO (m : EO) : TO := fun σ H Q => ∃ g st ρ, RepE Γ K g st ρ σ H ∧ Wg Γ K (fun _ _ a b => a = b) (fun c d H' => W c d σ H') g H (evO Γ (orc Γ n) m ρ st) Q
def tB (m : B) : TT := fun σ H Q => ∃ g st ρ, RepE Γ K g st ρ σ H ∧ Wg Γ K (fun _ _ a b => a = b) (fun c d H' => W c d σ H') g H (tst Γ (orc Γ n) m ρ st) Q
end
section
variable {Γ : Gam} {X : Cx} {n : Nat} {W : WX} {pos p : Pos} {l r e : Expr} {a b c : E}

theorem snd_v {i : Nat} {x : Str} (hN : X.N[i]? = some x) (hv : Vis X.env.scope x) (hd : (x == ("__debug__" : Str)) = false) (hcd : (x == ("__classdict__" : Str)) = false) : PE X (.Name x pos) (tE Γ X.K n W (.v i)) := by
  refine (pe_var (i := i) hN hv hd hcd).imp fun σ H Q h => ?_
  obtain ⟨g, st, ρ, rp, q⟩ := h
  unfold ev at q
  cases e : ρ[i]? with
  | none => rw [e] at q; exact False.elim q
  | some s =>
    rw [e] at q
    cases s with
    | un => exact False.elim q
    | va t =>
      obtain ⟨v, h1, h2⟩ := rp.va i t e
      exact ⟨v, h1, q g H v Step.refl rp.wf h2⟩
    | ow ts =>
      obtain ⟨v, h1, h2⟩ := rp.ow i ts e
      exact ⟨v, h1, q g H v Step.refl rp.wf (.inr ⟨ts, rfl, h2⟩)⟩
theorem snd_non {j} : PE X (.Constant .none j pos) (tE Γ X.K n W (.c .non)) := pe_non.imp fun σ H Q ⟨g, st, ρ, rp, q⟩ => Wg.okv q rp.wf .non
theorem snd_bl {b j} : PE X (.Constant (.bool b) j pos) (tE Γ X.K n W (.c (.bl b))) := pe_bl.imp fun σ H Q ⟨g, st, ρ, rp, q⟩ => Wg.okv q rp.wf (.bl b)
theorem snd_int {i j} : PE X (.Constant (.int i) j pos) (tE Γ X.K n W (.c (.int i))) := pe_int.imp fun σ H Q ⟨g, st, ρ, rp, q⟩ => Wg.okv q rp.wf (.int i)
theorem snd_str {s : Str} {l : List Nat} {j} (e : s = toS l) : PE X (.Constant (.str s) j pos) (tE Γ X.K n W (.c (.str l))) := by
  subst e
  exact pe_str.imp fun σ H Q ⟨g, st, ρ, rp, q⟩ => Wg.okv q rp.wf (.str l)
theorem snd_byt {l : List UInt8} {j} : PE X (.Constant (.bytes l) j pos) (tE Γ X.K n W (.c (.byt l))) := pe_byt.imp fun σ H Q ⟨g, st, ρ, rp, q⟩ => Wg.okv q rp.wf (.byt l)
theorem snd_g {k : Nat} {x : Str} {t : T} {v : V} {u : Value} (hk : Γ.gls[k]? = some (x, t)) (hg : Gl X x) (hm : X.mg x = some u) (r : RelV v u) (rt : ∀ g H, RelT X.K g H t v) (hd : (x == ("__debug__" : Str)) = false) :
    PE X (.Name x pos) (tE Γ X.K n W (.g k)) := by
  refine (pe_glob hg hm r hd).imp fun σ H Q h => ?_
  obtain ⟨g, st, ρ, rp, q⟩ := h
  unfold ev at q
  rw [hk] at q
  exact Wg.okv q rp.wf (rt g H)

/-- two parts, one behind the other -/
theorem two {R : V → V → Hp → Prop} {k : PySem.Expr → Unit} {f : T → T → M G.R} {σ : St} {H : Hp} {Q : VK} {g : Gh} {st : Store} {ρ : Ro} (rp : RepE Γ X.K g st ρ σ H)
    (q : Wg Γ X.K (RelR X.K H) (fun c d H' => W c d σ H') g H (M.bind (ev Γ (orc Γ n) a ρ) (fun x => M.bind (ev Γ (orc Γ n) b ρ) (fun y => f x.1 y.1)) st) Q)
    (hf : ∀ g2 st2 H2 ta tb x y, WF Γ X.K g2 st2 H2 → RepE Γ X.K g2 st2 ρ σ H2 → RelRd X.K g2 H2 ta x → RelRd X.K g2 H2 tb y → Wg Γ X.K (RelR X.K H2) (fun c d H' => W c d σ H') g2 H2 (f ta tb st2) Q → R x y H2) :
    tE Γ X.K n W a σ H fun x H1 => tE Γ X.K n W b σ H1 fun y H2 => R x y H2 := by
  refine ⟨g, st, ρ, rp, q.split fun x st1 g1 H1 v s1 w1 r1 q1 => ?_⟩
  have rp1 := rp.step s1 w1
  refine ⟨g1, st1, ρ, rp1, (q1.again s1).split fun y st2 g2 H2 u s2 w2 r2 q2 => ?_⟩
  exact hf g2 st2 H2 x.1 y.1 v u w2 (rp1.step s2 w2) (r1.rd.step s2 w1) r2.rd (q2.again s2)
/-- the reading of an operation on values -/
def rOp2 (Γ : Gam) (K : PySem.W.Frag) (f : T → T → M G.R) : R2 := fun x y H Q => ∃ g st ta tb E, WF Γ K g st H ∧ RelRd K g H ta x ∧ RelRd K g H tb y ∧ Wg Γ K (RelR K H) E g H (f ta tb st) Q
theorem two_op {f : T → T → M G.R} {σ : St} {H : Hp} {Q : VK} {g : Gh} {st : Store} {ρ : Ro} (rp : RepE Γ X.K g st ρ σ H)
    (q : Wg Γ X.K (RelR X.K H) (fun c d H' => W c d σ H') g H (M.bind (ev Γ (orc Γ n) a ρ) (fun x => M.bind (ev Γ (orc Γ n) b ρ) (fun y => f x.1 y.1)) st) Q) :
    tOp (rOp2 Γ X.K f) (tE Γ X.K n W a) (tE Γ X.K n W b) σ H Q :=
  two (k := fun _ => ()) rp q fun g2 st2 H2 ta tb x y w2 _ r1 r2 q2 => ⟨g2, st2, ta, tb, _, w2, r1, r2, q2⟩
end
end G

set_option Elab.async false
set_option linter.all false
set_option maxRecDepth 100000
set_option maxHeartbeats 1000000
/-! Operators, comparisons, indices, slices. -/
namespace G
open PySem PySem.Spec PyProof.Rows L2

section
variable {K : PySem.W.Frag} {g : Gh} {H : Hp} {Γ : Gam} {st : Store}
theorem RelRd.int {i : Int} {x : V} (r : RelRd K g H (.int i) x) : x = .int i := by
  rcases r with r | ⟨us, e, _⟩
  · cases r; rfl
  · cases e
theorem RelRd.bl {i : Bool} {x : V} (r : RelRd K g H (.bl i) x) : x = .bl i := by
  rcases r with r | ⟨us, e, _⟩
  · cases r; rfl
  · cases e
theorem RelRd.non {x : V} (r : RelRd K g H .non x) : x = .non := by
  rcases r with r | ⟨us, e, _⟩
  · cases r; rfl
  · cases e
theorem RelRd.str {i : List Nat} {x : V} (r : RelRd K g H (.str i) x) : x = .str (toS i) := by
  rcases r with r | ⟨us, e, _⟩
  · cases r; rfl
  · cases e
theorem RelRd.byt {i : List UInt8} {x : V} (r : RelRd K g H (.byt i) x) : x = .byt i.toArray := by
  rcases r with r | ⟨us, e, _⟩
  · cases r; rfl
  · cases e
theorem RelRd.tup' {ts : List T} {x : V} (r : RelRd K g H (.tup ts) x) : ∃ a xs, x = .ref a ∧ SqT K H a xs ∧ RelTs K g H ts xs := by
  rcases r with r | ⟨us, e, _⟩
  · cases r with
    | tup a b => exact ⟨_, _, rfl, a, b⟩
  · cases e
theorem RelRd.loc {n : Nat} {x : V} (r : RelRd K g H (.loc n) x) : ∃ a, x = .ref a ∧ g.η[n]? = some a := by
  rcases r with r | ⟨us, e, _⟩
  · cases r with
    | loc a => exact ⟨_, rfl, a⟩
  · cases e
theorem RelRd.scr {ns : List Int} {x : V} (r : RelRd K g H (.scr ns) x) : ∃ a, x = .ref a ∧ Scr K H a (ns.map V.int) := by
  rcases r with r | ⟨us, e, _⟩
  · cases r with
    | scr a => exact ⟨_, rfl, a⟩
  · cases e
theorem toS_len (l : List Nat) : (toS l).length = l.length := by simp [toS, Str.length]
theorem toS_app (a b : List Nat) : toS a ++ toS b = toS (a ++ b) := by
  show (⟨(toS a).cps ++ (toS b).cps⟩ : Str) = toS (a ++ b)
  simp [toS]
theorem toS_inj {a b : List Nat} (h : toS a = toS b) : a = b := by
  have e : a.toArray = b.toArray := congrArg Str.cps h
  simpa using e
theorem toS_list (a : List Nat) : (toS a).cps.toList = a := by simp [toS]
theorem relV_D {t : T} {x : V} {d : PyData} (r : RelRd K g H t x) (w : WF Γ K g st H) (e : t.D? = some d) : Dp K H x d := by
  rcases r with r | ⟨us, rfl, a, xs, rfl, h, n, b⟩
  · exact RelT.D t x d r e
  · cases q : T.Ds? us with
    | none => simp [T.D?, q] at e
    | some ds =>
      simp [T.D?, q] at e
      subst e
      exact .lst (SqL.of h) (RelTs.Ds us _ ds b q)
/-- a fresh tuple, list as a result -/
theorem Wg.newT {ts : List T} {xs : List V} {E : XK} {Q : VK} (q : Wg Γ K (RelR K H) E g H (.ok (.tup ts, .va) st) Q) (w : WF Γ K g st H) (r : RelTs K g H ts xs) : ∀ p, H p = none → Q (.ref p) (upd H p (.tup xs)) := fun p hp =>
  q g _ (.ref p) (Step.alloc hp) (w.alloc hp) (.tup (SqT.of upd_same) (RelTs.mono (Mono.alloc hp) _ _ r))
theorem WF.notη {a : Addr} (w : WF Γ K g st H) (h : H a = none) : a ∉ g.η := fun z => by
  rcases w.cellO z with ⟨_, e⟩ | ⟨_, _, _, e⟩ <;> rw [h] at e <;> cases e
theorem WF.notF {a : Addr} (w : WF Γ K g st H) (h : H a = none) : ¬ g.F a := fun z => by
  obtain ⟨⟨_, e⟩, _⟩ := w.fl a z
  rw [h] at e; cases e
theorem Wg.newL {ts : List T} {xs : List V} {E : XK} {Q : VK} (q : Wg Γ K (RelR K H) E g H (.ok (.lst ts, .fr) st) Q) (w : WF Γ K g st H) (r : RelTs K g H ts xs) : ∀ p, H p = none → Q (.ref p) (upd H p (.lst xs)) := fun p hp =>
  q g _ (.ref p) (Step.alloc hp) (w.alloc hp) ⟨ts, p, xs, rfl, rfl, upd_same, RelTs.mono (Mono.alloc hp) _ _ r, w.notF hp, w.notη hp, hp⟩
theorem cut_cutS (l : List Nat) (lo hi : Option Int) : cutS (toS l) lo hi = toS (cut l lo hi) := by
  unfold cutS cut
  rw [toS_list, toS_len]
  rfl
end
section
variable {Γ : Gam} {X : Cx} {n : Nat} {W : WX} {pos p : Pos} {l r e : Expr} {a b c : E}

theorem or_add : OpR X (binaryOp .Add) (rOp2 Γ X.K (evBin .add)) := by
  intro pins s σ H x y v u Q I rx ry h
  obtain ⟨g, st, ta, tb, E, w, r1, r2, q⟩ := h
  cases ta with
  | int i => cases tb with
    | int j =>
      cases r1.int; cases r2.int
      exact op_add pins s σ H _ _ v u Q I rx ry ⟨i, j, rfl, rfl, q.okv w (.int _)⟩
    | _ => exact False.elim q
  | str i => cases tb with
    | str j =>
      cases r1.str; cases r2.str
      have q' : Wg Γ X.K (RelR X.K H) E g H ((if i.length + j.length ≤ big then okv (.str (i ++ j)) else M.fail : M G.R) st) Q := q
      by_cases hl : i.length + j.length ≤ big
      · rw [if_pos hl] at q'
        refine op_add_str pins s σ H _ _ v u Q I rx ry ⟨_, _, rfl, rfl, ?_, ?_⟩
        · rw [toS_len, toS_len, ← big_eq]; exact hl
        · rw [toS_app]; exact q'.okv w (.str _)
      · rw [if_neg hl] at q'
        exact False.elim q'
    | _ => exact False.elim q
  | byt i => cases tb with
    | byt j =>
      cases r1.byt; cases r2.byt
      have q' : Wg Γ X.K (RelR X.K H) E g H ((if i.length + j.length ≤ big then okv (.byt (i ++ j)) else M.fail : M G.R) st) Q := q
      by_cases hl : i.length + j.length ≤ big
      · rw [if_pos hl] at q'
        refine op_add_byt pins s σ H _ _ v u Q I rx ry ⟨_, _, rfl, rfl, ?_, ?_⟩
        · have hl' : i.length + j.length ≤ 16777216 := hl
          simpa using hl'
        · have e : i.toArray ++ j.toArray = (i ++ j).toArray := by simp
          rw [e]; exact q'.okv w (.byt _)
      · rw [if_neg hl] at q'
        exact False.elim q'
    | _ => exact False.elim q
  | tup i => cases tb with
    | tup j =>
      obtain ⟨a, xs, e1, h1, k1⟩ := r1.tup'
      obtain ⟨b, ys, e2, h2, k2⟩ := r2.tup'
      subst e1 e2
      have q' : Wg Γ X.K (RelR X.K H) E g H ((if i.length + j.length ≤ big then okv (.tup (i ++ j)) else M.fail : M G.R) st) Q := q
      by_cases hl : i.length + j.length ≤ big
      · rw [if_pos hl] at q'
        refine op_catA pins s σ H _ _ v u Q I rx ry ⟨_, _, xs, ys, rfl, rfl, h1, h2, ?_, fun z => ?_, fun _ z => ?_, fun _ _ => ?_⟩
        · rw [← k1.length, ← k2.length, ← big_eq]; exact hl
        · subst z
          have z2 : i = [] := List.length_eq_zero_iff.mp k1.length
          subst z2
          exact q'.okv w (.tup h2 k2)
        · subst z
          have z2 : j = [] := List.length_eq_zero_iff.mp k2.length
          subst z2
          rw [List.append_nil] at q'
          exact q'.okv w (.tup h1 k1)
        · exact Wg.newT q' w (k1.append k2)
      · rw [if_neg hl] at q'
        exact False.elim q'
    | _ => exact False.elim q
  | lst i => cases tb with
    | lst j =>
      obtain ⟨a, xs, e1, h1, n1, k1⟩ := r1.lst w
      obtain ⟨b, ys, e2, h2, n2, k2⟩ := r2.lst w
      subst e1 e2
      have q' : Wg Γ X.K (RelR X.K H) E g H ((if i.length + j.length ≤ big then M.ok (.lst (i ++ j), .fr) else M.fail : M G.R) st) Q := q
      by_cases hl : i.length + j.length ≤ big
      · rw [if_pos hl] at q'
        refine op_cat pins s σ H _ _ v u Q I rx ry ⟨_, _, xs, ys, rfl, rfl, h1, h2, ?_, ?_⟩
        · rw [← k1.length, ← k2.length, ← big_eq]; exact hl
        · exact Wg.newL q' w (k1.append k2)
      · rw [if_neg hl] at q'
        exact False.elim q'
    | _ => exact False.elim q
  | _ => exact False.elim q
theorem or_sub : OpR X (binaryOp .Sub) (rOp2 Γ X.K (evBin .sub)) := by
  intro pins s σ H x y v u Q I rx ry h
  obtain ⟨g, st, ta, tb, E, w, r1, r2, q⟩ := h
  cases ta with
  | int i => cases tb with
    | int j =>
      cases r1.int; cases r2.int
      exact op_sub pins s σ H _ _ v u Q I rx ry ⟨i, j, rfl, rfl, q.okv w (.int _)⟩
    | _ => exact False.elim q
  | _ => exact False.elim q
/-- a guarded integer operation -/
theorem or_intC {f : Value → Value → Sem Value} {op : BOp} {C D : Int → Int → Prop} [∀ i j, Decidable (D i j)] {z : Int → Int → Int} (hr : OpR X f (rI C fun i j => .int (z i j))) (hc : ∀ i j, D i j → C i j)
    (he : ∀ i j, evBin op (.int i) (.int j) = if D i j then okv (.int (z i j)) else M.fail) (hn : ∀ a b, (∀ i j, ¬ (a = .int i ∧ b = .int j)) → evBin op a b = M.fail) : OpR X f (rOp2 Γ X.K (evBin op)) := by
  intro pins s σ H x y v u Q I rx ry h
  obtain ⟨g, st, ta, tb, E, w, r1, r2, q⟩ := h
  by_cases hi : ∃ i j, ta = .int i ∧ tb = .int j
  · obtain ⟨i, j, rfl, rfl⟩ := hi
    cases r1.int; cases r2.int
    rw [he] at q
    by_cases hd : D i j
    · rw [if_pos hd] at q
      exact hr pins s σ H _ _ v u Q I rx ry ⟨i, j, rfl, rfl, hc i j hd, q.okv w (.int _)⟩
    · rw [if_neg hd] at q
      exact False.elim q
  · rw [hn ta tb fun i j z => hi ⟨i, j, z⟩] at q
    exact False.elim q
theorem or_mul : OpR X (binaryOp .Mult) (rOp2 Γ X.K (evBin .mul)) := or_intC (D := fun i j => (-(2 ^ 64) < i ∧ i < 2 ^ 64) ∨ (-(2 ^ 64) < j ∧ j < 2 ^ 64)) op_mul (fun _ _ h => h) (fun _ _ => rfl) fun a b h => by
  cases a with
  | int i => cases b with
    | int j => exact absurd ⟨rfl, rfl⟩ (h i j)
    | _ => rfl
  | _ => rfl
theorem or_fdiv : OpR X (binaryOp .FloorDiv) (rOp2 Γ X.K (evBin .fdiv)) := or_intC (D := fun i j => 0 < j ∧ j < 1073741824) op_fdiv (fun _ _ h => h) (fun _ _ => rfl) fun a b h => by
  cases a with
  | int i => cases b with
    | int j => exact absurd ⟨rfl, rfl⟩ (h i j)
    | _ => rfl
  | _ => rfl
theorem or_mod : OpR X (binaryOp .Mod) (rOp2 Γ X.K (evBin .mod)) := or_intC (D := fun i j => 0 < j) op_mod (fun _ _ h => h) (fun _ _ => rfl) fun a b h => by
  cases a with
  | int i => cases b with
    | int j => exact absurd ⟨rfl, rfl⟩ (h i j)
    | _ => rfl
  | _ => rfl
theorem or_pow : OpR X (binaryOp .Pow) (rOp2 Γ X.K (evBin .pow)) := or_intC (D := fun i j => 0 ≤ j ∧ j ≤ 1000000 ∧ i.natAbs < 2 ^ 64) op_pow (fun _ _ h => h) (fun _ _ => rfl) fun a b h => by
  cases a with
  | int i => cases b with
    | int j => exact absurd ⟨rfl, rfl⟩ (h i j)
    | _ => rfl
  | _ => rfl
def BOp.op : BOp → Operator
  | .add => .Add | .sub => .Sub | .mul => .Mult | .fdiv => .FloorDiv | .mod => .Mod | .pow => .Pow
theorem or_bin : ∀ op : BOp, OpR X (binaryOp op.op) (rOp2 Γ X.K (evBin op))
  | .add => or_add
  | .sub => or_sub
  | .mul => or_mul
  | .fdiv => or_fdiv
  | .mod => or_mod
  | .pow => or_pow
theorem snd_bin {op : BOp} (ha : PE X l (tE Γ X.K n W a)) (hb : PE X r (tE Γ X.K n W b)) : PE X (.BinOp l op.op r pos) (tE Γ X.K n W (.bin op a b)) :=
  (pe_op (or_bin op) ha hb).imp fun σ H Q ⟨g, st, ρ, rp, q⟩ => two_op rp q
theorem snd_neg (ha : PE X l (tE Γ X.K n W a)) : PE X (.UnaryOp .USub l pos) (tE Γ X.K n W (.neg a)) := by
  refine (pe_un un_neg ha).imp fun σ H Q ⟨g, st, ρ, rp, q⟩ => ?_
  refine ⟨g, st, ρ, rp, q.split fun x st1 g1 H1 v s1 w1 r1 q1 => ?_⟩
  obtain ⟨t, fl⟩ := x
  cases t with
  | int i =>
    cases r1.rd.int
    exact ⟨i, rfl, (q1.again s1).okv w1 (.int _)⟩
  | _ => exact False.elim q1

/-! ### comparisons -/
theorem byt2_some {a b : T} {k : Bool} (h : byt2 a b = some k) : ∃ x y, a = .byt x ∧ b = .byt y ∧ k = (x == y) := by
  cases a with
  | byt x => cases b with
    | byt y => exact ⟨x, y, rfl, rfl, (Option.some.inj h).symm⟩
    | _ => cases h
  | _ => cases h
theorem dat2_some {a b : T} {k : Bool} (h : dat2 a b = some k) : ∃ d e, a.D? = some d ∧ b.D? = some e ∧ SeqAt.shaped d = true ∧ SeqAt.shaped e = true ∧ k = PyData.eqv d e := by
  unfold dat2 at h
  cases ha : a.D? with
  | none => rw [ha] at h; cases h
  | some d =>
    cases hb : b.D? with
    | none => rw [ha, hb] at h; cases h
    | some e =>
      rw [ha, hb] at h
      have h' : (if SeqAt.shaped d = true ∧ SeqAt.shaped e = true then some (PyData.eqv d e) else none) = some k := h
      by_cases hs : SeqAt.shaped d = true ∧ SeqAt.shaped e = true
      · rw [if_pos hs] at h'
        exact ⟨d, e, rfl, rfl, hs.1, hs.2, (Option.some.inj h').symm⟩
      · rw [if_neg hs] at h'; cases h'
theorem or_eq (hu : X.A.units + 64 < cLine) : OpR X (compareOp .Eq) (rOp2 Γ X.K (evCmp .eq)) := by
  intro pins s σ H x y v u Q I rx ry h
  obtain ⟨g, st, ta, tb, E, w, r1, r2, q⟩ := h
  have q : Wg Γ X.K (RelR X.K H) E g H (evEq false ta tb st) Q := q
  unfold evEq at q
  cases hb : byt2 ta tb with
  | some k =>
    rw [hb] at q
    obtain ⟨i, j, rfl, rfl, rfl⟩ := byt2_some hb
    cases r1.byt; cases r2.byt
    refine op_eq pins s σ H _ _ v u Q I rx ry ⟨rfl, ?_⟩
    have e : decide (V.byt i.toArray = V.byt j.toArray) = (i == j) := by
      rw [dec_byt]
    rw [e]
    exact q.okv w (.bl _)
  | none =>
    rw [hb] at q
    cases hd : dat2 ta tb with
    | none => rw [hd] at q; exact False.elim q
    | some k =>
      rw [hd] at q
      obtain ⟨d, e, h1, h2, h3, h4, rfl⟩ := dat2_some hd
      exact op_eqD hu pins s σ H _ _ v u Q I rx ry ⟨d, e, relV_D r1 w h1, relV_D r2 w h2, h3, h4, q.okv w (.bl _)⟩
theorem or_ne (hu : X.A.units + 64 < cLine) : OpR X (compareOp .NotEq) (rOp2 Γ X.K (evCmp .ne)) := by
  intro pins s σ H x y v u Q I rx ry h
  obtain ⟨g, st, ta, tb, E, w, r1, r2, q⟩ := h
  have q : Wg Γ X.K (RelR X.K H) E g H (evEq true ta tb st) Q := q
  unfold evEq at q
  cases hb : byt2 ta tb with
  | some k =>
    rw [hb] at q
    obtain ⟨i, j, rfl, rfl, rfl⟩ := byt2_some hb
    cases r1.byt; cases r2.byt
    refine op_ne pins s σ H _ _ v u Q I rx ry ⟨rfl, ?_⟩
    have e : decide (V.byt i.toArray = V.byt j.toArray) = (i == j) := by
      rw [dec_byt]
    rw [e]
    exact q.okv w (.bl _)
  | none =>
    rw [hb] at q
    cases hd : dat2 ta tb with
    | none => rw [hd] at q; exact False.elim q
    | some k =>
      rw [hd] at q
      obtain ⟨d, e, h1, h2, h3, h4, rfl⟩ := dat2_some hd
      exact op_neD hu pins s σ H _ _ v u Q I rx ry ⟨d, e, relV_D r1 w h1, relV_D r2 w h2, h3, h4, q.okv w (.bl _)⟩
theorem or_ord {op : CmpOp} {cop : COp} {fi : Int → Int → Bool} {fs : List Nat → List Nat → Bool} (hi : OpR X (compareOp op) (rI0 fun i j => .bl (fi i j)))
    (hs : OpR X (compareOp op) fun x y H Q => ∃ i j, x = .str i ∧ y = .str j ∧ Q (.bl (fs i.cps.toList j.cps.toList)) H) (he : ∀ a b, evCmp cop a b = evOrd fi fs a b) : OpR X (compareOp op) (rOp2 Γ X.K (evCmp cop)) := by
  intro pins s σ H x y v u Q I rx ry h
  obtain ⟨g, st, ta, tb, E, w, r1, r2, q⟩ := h
  rw [he] at q
  cases ta with
  | int i => cases tb with
    | int j =>
      cases r1.int; cases r2.int
      exact hi pins s σ H _ _ v u Q I rx ry ⟨i, j, rfl, rfl, q.okv w (.bl _)⟩
    | _ => exact False.elim q
  | str i => cases tb with
    | str j =>
      cases r1.str; cases r2.str
      refine hs pins s σ H _ _ v u Q I rx ry ⟨_, _, rfl, rfl, ?_⟩
      rw [toS_list, toS_list]
      exact q.okv w (.bl _)
    | _ => exact False.elim q
  | _ => exact False.elim q
theorem eqf_eqV {K : PySem.W.Frag} {g : Gh} {H : Hp} {t u : T} {x y : V} (rt : RelRd K g H t x) (ru : RelRd K g H u y) (ft : t.flat = true) (fu : u.flat = true) : flatV x = true ∧ flatV y = true ∧ eqV x y = T.eqf t u := by
  cases t with
  | non => cases rt.non; cases u with
    | non => cases ru.non; exact ⟨rfl, rfl, rfl⟩
    | bl j => cases ru.bl; exact ⟨rfl, rfl, rfl⟩
    | int j => cases ru.int; exact ⟨rfl, rfl, rfl⟩
    | str j => cases ru.str; exact ⟨rfl, rfl, rfl⟩
    | _ => exact absurd fu Bool.false_ne_true
  | bl i => cases rt.bl; cases u with
    | non => cases ru.non; exact ⟨rfl, rfl, rfl⟩
    | bl j => cases ru.bl; exact ⟨rfl, rfl, rfl⟩
    | int j => cases ru.int; exact ⟨rfl, rfl, rfl⟩
    | str j => cases ru.str; exact ⟨rfl, rfl, rfl⟩
    | _ => exact absurd fu Bool.false_ne_true
  | int i => cases rt.int; cases u with
    | non => cases ru.non; exact ⟨rfl, rfl, rfl⟩
    | bl j => cases ru.bl; exact ⟨rfl, rfl, rfl⟩
    | int j => cases ru.int; exact ⟨rfl, rfl, rfl⟩
    | str j => cases ru.str; exact ⟨rfl, rfl, rfl⟩
    | _ => exact absurd fu Bool.false_ne_true
  | str i => cases rt.str; cases u with
    | non => cases ru.non; exact ⟨rfl, rfl, rfl⟩
    | bl j => cases ru.bl; exact ⟨rfl, rfl, rfl⟩
    | int j => cases ru.int; exact ⟨rfl, rfl, rfl⟩
    | str j =>
      cases ru.str
      refine ⟨rfl, rfl, ?_⟩
      show (toS i == toS j) = (i == j)
      rw [Bool.eq_iff_iff, beq_iff_eq, beq_iff_eq]
      exact ⟨toS_inj, fun h => by rw [h]⟩
    | _ => exact absurd fu Bool.false_ne_true
  | _ => exact absurd ft Bool.false_ne_true
theorem any_eqf {K : PySem.W.Frag} {g : Gh} {H : Hp} {t : T} {x : V} (rt : RelRd K g H t x) (ft : t.flat = true) : ∀ {us : List T} {ys : List V}, RelTs K g H us ys → us.all T.flat = true →
    flatV x = true ∧ ys.all flatV = true ∧ inV x ys = us.any fun z => T.eqf z t
  | [], _, h, _ => by
    cases h
    refine ⟨?_, rfl, rfl⟩
    cases t with
    | non => cases rt.non; rfl
    | bl i => cases rt.bl; rfl
    | int i => cases rt.int; rfl
    | str i => cases rt.str; rfl
    | _ => exact absurd ft Bool.false_ne_true
  | u :: us, _, h, f => by
    cases h with
    | cons a b =>
      rw [List.all_cons, Bool.and_eq_true] at f
      obtain ⟨h1, h2, h3⟩ := any_eqf rt ft b f.2
      obtain ⟨k1, k2, k3⟩ := eqf_eqV (.inl a) rt f.1 ft
      refine ⟨h1, by rw [List.all_cons, k1, h2]; rfl, ?_⟩
      rw [List.any_cons, ← h3, ← k3]
      rfl
theorem or_isin {neg : Bool} {op : CmpOp} {cop : COp} (h1 : OpR X (compareOp op) (rIn X.K neg)) (h2 : OpR X (compareOp op) fun x y H Q => ∃ (c : Nat) (z : Str), x = .str ⟨#[c]⟩ ∧ y = .str z ∧ Q (.bl (if neg then !decide (c ∈ z.cps.toList) else decide (c ∈ z.cps.toList))) H)
    (he : ∀ a b, evCmp cop a b = evIn neg a b) : OpR X (compareOp op) (rOp2 Γ X.K (evCmp cop)) := by
  intro pins s σ H x y v u Q I rx ry h
  obtain ⟨g, st, ta, tb, E, w, r1, r2, q⟩ := h
  rw [he] at q
  unfold evIn at q
  split at q
  · rename_i ys
    split at q
    · rename_i hf
      obtain ⟨a, zs, e2, k2, n2, b2⟩ := r2.lst w
      subst e2
      obtain ⟨f1, f2, f3⟩ := any_eqf r1 hf.1 b2 hf.2
      refine h1 pins s σ H _ _ v u Q I rx ry ⟨_, _, rfl, .inl (SqL.of k2), f1, f2, ?_⟩
      rw [f3]
      exact q.okv w (.bl _)
    · exact False.elim q
  · rename_i ys
    split at q
    · rename_i hf
      obtain ⟨a, zs, e2, k2, b2⟩ := r2.tup'
      subst e2
      obtain ⟨f1, f2, f3⟩ := any_eqf r1 hf.1 b2 hf.2
      refine h1 pins s σ H _ _ v u Q I rx ry ⟨_, _, rfl, .inr k2, f1, f2, ?_⟩
      rw [f3]
      exact q.okv w (.bl _)
    · exact False.elim q
  · rename_i l
    split at q
    · rename_i c
      cases r1.str; cases r2.str
      refine h2 pins s σ H _ _ v u Q I rx ry ⟨c, toS l, rfl, rfl, ?_⟩
      rw [toS_list]
      exact q.okv w (.bl _)
    · exact False.elim q
  · exact False.elim q
def COp.op : COp → CmpOp
  | .eq => .Eq | .ne => .NotEq | .lt => .Lt | .le => .LtE | .gt => .Gt | .ge => .GtE | .isin => .In | .notin => .NotIn
theorem or_cmp (hu : X.A.units + 64 < cLine) : ∀ op : COp, OpR X (compareOp op.op) (rOp2 Γ X.K (evCmp op))
  | .eq => or_eq hu
  | .ne => or_ne hu
  | .lt => or_ord op_lt op_lt_str fun _ _ => rfl
  | .le => or_ord op_le op_le_str fun _ _ => rfl
  | .gt => or_ord op_gt op_gt_str fun _ _ => rfl
  | .ge => or_ord op_ge op_ge_str fun _ _ => rfl
  | .isin => or_isin (neg := false) op_in_seq op_in_sign fun _ _ => rfl
  | .notin => or_isin (neg := true) op_notIn_seq op_notIn_sign fun _ _ => rfl
theorem snd_cmp {op : COp} (hu : X.A.units + 64 < cLine) (ha : PE X l (tE Γ X.K n W a)) (hb : PE X r (tE Γ X.K n W b)) (hm : behindInMarks op.op r = false) : PE X (.Compare l [op.op] [r] pos) (tE Γ X.K n W (.cmp op a b)) :=
  (pe_cmpR (or_cmp hu op) ha hb hm).imp fun σ H Q ⟨g, st, ρ, rp, q⟩ => two_op rp q
end
end G

set_option Elab.async false
set_option linter.all false
set_option maxRecDepth 100000
set_option maxHeartbeats 1000000
/-! Tests, displays, indices, slices, fields. -/
namespace G
open PySem PySem.Spec PyProof.Rows L2
section
variable {Γ : Gam} {X : Cx} {n : Nat} {W : WX} {pos p : Pos} {l r e : Expr} {a b c : E}

theorem snd_isn {j pos'} (y : Bool) (ha : PE X l (tE Γ X.K n W a)) : PE X (.Compare l [if y = true then .Is else .IsNot] [.Constant .none j pos'] pos) (tE Γ X.K n W (.isn y a)) := by
  have key : ∀ σ H Q, tE Γ X.K n W (.isn y a) σ H Q → tE Γ X.K n W a σ H fun x H1 => Q (.bl (if y = true then decide (x = .non) else !decide (x = .non))) H1 := fun σ H Q ⟨g, st, ρ, rp, q⟩ => by
    refine ⟨g, st, ρ, rp, q.split fun x st1 g1 H1 v s1 w1 r1 q1 => ?_⟩
    obtain ⟨t, fl⟩ := x
    have no : ∀ {v : V}, RelRd X.K g1 H1 t v → (t = .non ∧ v = .non) ∨ (v ≠ .non ∧ Wg Γ X.K (RelR X.K H) (fun c d H' => W c d σ H') g H (okv (.bl (!y)) st1) Q) := fun {v} r => by
      cases t with
      | non => exact .inl ⟨rfl, r.non⟩
      | bl _ => exact .inr ⟨(by rw [r.bl]; exact (fun z => nomatch z)), q1⟩
      | int _ => exact .inr ⟨(by rw [r.int]; exact (fun z => nomatch z)), q1⟩
      | str _ => exact .inr ⟨(by rw [r.str]; exact (fun z => nomatch z)), q1⟩
      | byt _ => exact .inr ⟨(by rw [r.byt]; exact (fun z => nomatch z)), q1⟩
      | tup _ => obtain ⟨_, _, e, _⟩ := r.tup'; exact .inr ⟨(by rw [e]; exact (fun z => nomatch z)), q1⟩
      | lst _ => obtain ⟨_, _, e, _⟩ := r.lst w1; exact .inr ⟨(by rw [e]; exact (fun z => nomatch z)), q1⟩
      | scr _ => obtain ⟨_, e, _⟩ := r.scr; exact .inr ⟨(by rw [e]; exact (fun z => nomatch z)), q1⟩
      | loc _ => obtain ⟨_, e, _⟩ := r.loc; exact .inr ⟨(by rw [e]; exact (fun z => nomatch z)), q1⟩
      | met _ _ => rcases r with r | ⟨_, z, _⟩; cases r; cases z
    rcases no r1.rd with ⟨e1, e2⟩ | ⟨e2, q2⟩
    · subst e1 e2
      have q1' : Wg Γ X.K (RelR X.K H) (fun c d H' => W c d σ H') g H (okv (.bl y) st1) Q := q1
      have := (q1'.again s1).okv w1 (.bl _)
      cases y <;> simpa using this
    · have := (q2.again s1).okv w1 (.bl _)
      cases y <;> simpa [e2] using this
  cases y with
  | true => exact (pe_cmp (pc_isN ha)).imp fun σ H Q h => key σ H Q h
  | false => exact (pe_cmp (pc_notN ha)).imp fun σ H Q h => key σ H Q h
theorem snd_isb {j pos'} (y k : Bool) (ha : PE X l (tE Γ X.K n W a)) : PE X (.Compare l [if y = true then .Is else .IsNot] [.Constant (.bool k) j pos'] pos) (tE Γ X.K n W (.isb y k a)) := by
  have key : ∀ σ H Q, tE Γ X.K n W (.isb y k a) σ H Q → tE Γ X.K n W a σ H fun x H1 => ∃ d, x = .bl d ∧ Q (.bl (if y = true then decide (d = k) else !decide (d = k))) H1 := fun σ H Q ⟨g, st, ρ, rp, q⟩ => by
    refine ⟨g, st, ρ, rp, q.split fun x st1 g1 H1 v s1 w1 r1 q1 => ?_⟩
    obtain ⟨t, fl⟩ := x
    cases t with
    | bl d =>
      cases r1.rd.bl
      refine ⟨d, rfl, ?_⟩
      have q1' : Wg Γ X.K (RelR X.K H) (fun c d H' => W c d σ H') g H (okv (.bl (if y = true then d == k else !(d == k))) st1) Q := q1
      have e := (q1'.again s1).okv w1 (.bl _)
      have e2 : (d == k) = decide (d = k) := by cases d <;> cases k <;> rfl
      rw [e2] at e
      exact e
    | _ => exact False.elim q1
  cases y with
  | true =>
      refine (pe_cmpR op_isBl ha pe_bl (nomark _)).imp fun σ H Q h => ?_
      obtain ⟨g, st, ρ, rp, q⟩ := key σ H Q h
      refine ⟨g, st, ρ, rp, ?_⟩
      revert q
      cases ev Γ (orc Γ n) a ρ st with
      | ok x st1 =>
          intro q g' H' v s w r
          obtain ⟨d, e, q⟩ := q g' H' v s w r
          exact ⟨d, k, e, rfl, by simpa using q⟩
      | exn x fs st1 => exact fun q => q
      | fail => exact fun q => q
  | false =>
      refine (pe_cmpR op_notBl ha pe_bl (nomark _)).imp fun σ H Q h => ?_
      obtain ⟨g, st, ρ, rp, q⟩ := key σ H Q h
      refine ⟨g, st, ρ, rp, ?_⟩
      revert q
      cases ev Γ (orc Γ n) a ρ st with
      | ok x st1 =>
          intro q g' H' v s w r
          obtain ⟨d, e, q⟩ := q g' H' v s w r
          exact ⟨d, k, e, rfl, by simpa using q⟩
      | exn x fs st1 => exact fun q => q
      | fail => exact fun q => q
theorem okv_ok {t : T} {st : Store} {r : G.R} {st' : Store} (h : okv t st = .ok r st') : r = (t, .va) ∧ st' = st := by
  have h' : Res.ok (t, Fl.va) st = .ok r st' := h
  cases h'
  exact ⟨rfl, rfl⟩
theorem ite_ok {c : Prop} [Decidable c] {t : T} {st : Store} {r : G.R} {st' : Store} (h : (if c then okv t else M.fail : M G.R) st = .ok r st') : r = (t, .va) ∧ st' = st := by
  by_cases hc : c
  · rw [if_pos hc] at h; exact okv_ok h
  · rw [if_neg hc] at h; cases h
theorem evCmp_bl {op : COp} {x y : T} {st st' : Store} {r : G.R} (h : evCmp op x y st = .ok r st') : ∃ k, r = (.bl k, .va) ∧ st' = st := by
  have inn : ∀ neg, evIn neg x y st = .ok r st' → ∃ k, r = (.bl k, .va) ∧ st' = st := fun neg h => by
    cases y with
    | lst ys => exact ⟨_, ite_ok h⟩
    | tup ys => exact ⟨_, ite_ok h⟩
    | str l =>
      cases x with
      | str c =>
        match c, h with
        | [], h => cases h
        | [c], h => exact ⟨_, okv_ok h⟩
        | _ :: _ :: _, h => cases h
      | _ => cases h
    | _ => cases h
  have eqq : ∀ neg, evEq neg x y st = .ok r st' → ∃ k, r = (.bl k, .va) ∧ st' = st := fun neg h => by
    unfold evEq at h
    cases e : byt2 x y with
    | some k => rw [e] at h; exact ⟨_, okv_ok h⟩
    | none =>
      rw [e] at h
      cases e : dat2 x y with
      | some k => rw [e] at h; exact ⟨_, okv_ok h⟩
      | none => rw [e] at h; cases h
  have ord : ∀ f k, evOrd f k x y st = .ok r st' → ∃ k, r = (.bl k, .va) ∧ st' = st := fun f k h => by
    cases x with
    | int i => cases y with
      | int j => exact ⟨_, okv_ok h⟩
      | _ => cases h
    | str i => cases y with
      | str j => exact ⟨_, okv_ok h⟩
      | _ => cases h
    | _ => cases h
  cases op with
  | eq => exact eqq false h
  | ne => exact eqq true h
  | lt => exact ord _ _ h
  | le => exact ord _ _ h
  | gt => exact ord _ _ h
  | ge => exact ord _ _ h
  | isin => exact inn false h
  | notin => exact inn true h
/-- a op b op' c -/
theorem chain_op {op op' : COp} {σ : St} {H : Hp} {Q : VK} (h : tE Γ X.K n W (.ch2 op op' a b c) σ H Q) :
    tChain (rOp2 Γ X.K (evCmp op)) (rOp2 Γ X.K (evCmp op')) (tE Γ X.K n W a) (tE Γ X.K n W b) (tE Γ X.K n W c) σ H Q := by
  obtain ⟨g, st, ρ, rp, q⟩ := h
  refine ⟨g, st, ρ, rp, q.split fun x st1 g1 H1 v s1 w1 r1 q1 => ?_⟩
  have rp1 := rp.step s1 w1
  refine ⟨g1, st1, ρ, rp1, (q1.again s1).split fun y st2 g2 H2 u s2 w2 r2 q2 => ?_⟩
  have q2 := q2.again s2
  have rp2 := rp1.step s2 w2
  refine ⟨g2, st2, x.1, y.1, (fun c d H' => W c d σ H'), w2, r1.rd.step s2 w1, r2.rd, ?_⟩
  cases ez : evCmp op x.1 y.1 st2 with
  | exn x fs st' => rw [bind_exn ez] at q2; exact q2
  | fail => rw [bind_fail ez] at q2; exact q2
  | ok z st3 =>
    obtain ⟨k, rfl, rfl⟩ := evCmp_bl ez
    rw [bind_ok ez] at q2
    intro g3 H3 zz s3 w3 r3
    have ezz : zz = .bl k := RelRd.bl r3.rd
    refine ⟨k, ezz, ?_⟩
    cases k with
    | false => exact (q2.again s3).okv w3 (.bl false)
    | true =>
      rw [if_pos rfl]
      have q3 : Wg Γ X.K (RelR X.K H2) (fun c d H' => W c d σ H') g2 H2 (M.bind (ev Γ (orc Γ n) c ρ) (fun u => evCmp op' y.1 u.1) st3) Q := q2
      have rp3 := rp2.step s3 w3
      refine ⟨g3, st3, ρ, rp3, (q3.again s3).split fun u' st4 g4 H4 ww s4 w4 r4 q4 => ?_⟩
      exact ⟨g4, st4, y.1, u'.1, _, w4, (r2.rd.step s3 w2).step s4 w3, r4.rd, q4.again s4⟩
theorem snd_ch2 {op op' : COp} {r' : Expr} (hu : X.A.units + 64 < cLine) (ha : PE X l (tE Γ X.K n W a)) (hb : PE X r (tE Γ X.K n W b)) (hc : PE X r' (tE Γ X.K n W c)) (hm : lastMarks [op.op, op'.op] [r, r'] = false) :
    PE X (.Compare l [op.op, op'.op] [r, r'] pos) (tE Γ X.K n W (.ch2 op op' a b c)) := (pe_chain (or_cmp hu op) (or_cmp hu op') ha hb hc hm).imp fun σ H Q h => chain_op h

/-! ### and, or, not as values -/
theorem snd_and {rest : List Expr} {p' : Pos} (ha : PE X l (tE Γ X.K n W a)) (hb : PE X (.BoolOp .And (r :: rest) pos) (tE Γ X.K n W b)) : PE X (.BoolOp .And (l :: r :: rest) pos) (tE Γ X.K n W (.and a b)) := by
  refine (pe_and ha hb).imp fun σ H Q ⟨g, st, ρ, rp, q⟩ => ?_
  refine ⟨g, st, ρ, rp, q.split fun x st1 g1 H1 v s1 w1 r1 q1 => ?_⟩
  obtain ⟨t, fl⟩ := x
  cases t with
  | bl k =>
    refine ⟨k, r1.rd.bl, ?_⟩
    cases k with
    | true => exact ⟨g1, st1, ρ, rp.step s1 w1, q1.again s1⟩
    | false => exact (q1.again s1).okv w1 (.bl _)
  | _ => exact False.elim q1
theorem snd_or {rest : List Expr} {p' : Pos} (ha : PE X l (tE Γ X.K n W a)) (hb : PE X (.BoolOp .Or (r :: rest) pos) (tE Γ X.K n W b)) : PE X (.BoolOp .Or (l :: r :: rest) pos) (tE Γ X.K n W (.or a b)) := by
  refine (pe_or ha hb).imp fun σ H Q ⟨g, st, ρ, rp, q⟩ => ?_
  refine ⟨g, st, ρ, rp, q.split fun x st1 g1 H1 v s1 w1 r1 q1 => ?_⟩
  obtain ⟨t, fl⟩ := x
  cases t with
  | bl k =>
    refine ⟨k, r1.rd.bl, ?_⟩
    cases k with
    | false => exact ⟨g1, st1, ρ, rp.step s1 w1, q1.again s1⟩
    | true => exact (q1.again s1).okv w1 (.bl _)
  | _ => exact False.elim q1
theorem snd_not (ha : PE X l (tE Γ X.K n W a)) : PE X (.UnaryOp .Not l pos) (tE Γ X.K n W (.not a)) := by
  refine (pe_not ha).imp fun σ H Q ⟨g, st, ρ, rp, q⟩ => ?_
  refine ⟨g, st, ρ, rp, q.split fun x st1 g1 H1 v s1 w1 r1 q1 => ?_⟩
  obtain ⟨t, fl⟩ := x
  cases t with
  | bl k => exact ⟨k, r1.rd.bl, (q1.again s1).okv w1 (.bl _)⟩
  | _ => exact False.elim q1

/-! ### tests -/
theorem tst_of {σ : St} {H : Hp} {Q : Bool → Hp → Prop} (hb : ∀ ρ st r st', ev Γ (orc Γ n) a ρ st = .ok r st' → ∃ k, r.1 = .bl k) (h : tB Γ X.K n W (.of a) σ H Q) : tE Γ X.K n W a σ H fun x H' => ∃ k, x = .bl k ∧ Q k H' := by
  obtain ⟨g, st, ρ, rp, q⟩ := h
  unfold tst at q
  refine ⟨g, st, ρ, rp, ?_⟩
  cases e : ev Γ (orc Γ n) a ρ st with
  | exn x fs st' => rw [bind_exn e] at q; exact q
  | fail => rw [bind_fail e] at q; exact q
  | ok x st1 =>
    rw [bind_ok e] at q
    obtain ⟨k, ek⟩ := hb ρ st x st1 e
    obtain ⟨t, fl⟩ := x
    have ek : t = .bl k := ek
    subst ek
    intro g1 H1 v s1 w1 r1
    exact ⟨k, r1.rd.bl, q g1 H1 k s1 w1 rfl⟩
theorem bl_cmp {op : COp} {ρ : Ro} {st st' : Store} {r : G.R} (h : ev Γ (orc Γ n) (.cmp op a b) ρ st = .ok r st') : ∃ k, r.1 = .bl k := by
  unfold ev at h
  cases e : ev Γ (orc Γ n) a ρ st with
  | exn x fs st' => rw [bind_exn e] at h; cases h
  | fail => rw [bind_fail e] at h; cases h
  | ok x st1 =>
    rw [bind_ok e] at h
    cases e2 : ev Γ (orc Γ n) b ρ st1 with
    | exn x fs st' => rw [bind_exn e2] at h; cases h
    | fail => rw [bind_fail e2] at h; cases h
    | ok y st2 =>
      rw [bind_ok e2] at h
      obtain ⟨k, e3, _⟩ := evCmp_bl h
      exact ⟨k, by rw [e3]⟩
theorem bl_isn {y : Bool} {ρ : Ro} {st st' : Store} {r : G.R} (h : ev Γ (orc Γ n) (.isn y a) ρ st = .ok r st') : ∃ k, r.1 = .bl k := by
  unfold ev at h
  cases e : ev Γ (orc Γ n) a ρ st with
  | exn x fs st' => rw [bind_exn e] at h; cases h
  | fail => rw [bind_fail e] at h; cases h
  | ok x st1 =>
    rw [bind_ok e] at h
    obtain ⟨t, fl⟩ := x
    cases t <;> (obtain ⟨e3, _⟩ := okv_ok h; exact ⟨_, by rw [e3]⟩)
theorem bl_isb {y k : Bool} {ρ : Ro} {st st' : Store} {r : G.R} (h : ev Γ (orc Γ n) (.isb y k a) ρ st = .ok r st') : ∃ k, r.1 = .bl k := by
  unfold ev at h
  cases e : ev Γ (orc Γ n) a ρ st with
  | exn x fs st' => rw [bind_exn e] at h; cases h
  | fail => rw [bind_fail e] at h; cases h
  | ok x st1 =>
    rw [bind_ok e] at h
    obtain ⟨t, fl⟩ := x
    cases t with
    | bl _ => obtain ⟨e3, _⟩ := okv_ok h; exact ⟨_, by rw [e3]⟩
    | _ => cases h
theorem bl_ch2 {op op' : COp} {ρ : Ro} {st st' : Store} {r : G.R} (h : ev Γ (orc Γ n) (.ch2 op op' a b c) ρ st = .ok r st') : ∃ k, r.1 = .bl k := by
  unfold ev at h
  cases e : ev Γ (orc Γ n) a ρ st with
  | exn x fs st' => rw [bind_exn e] at h; cases h
  | fail => rw [bind_fail e] at h; cases h
  | ok x st1 =>
    rw [bind_ok e] at h
    cases e2 : ev Γ (orc Γ n) b ρ st1 with
    | exn x fs st' => rw [bind_exn e2] at h; cases h
    | fail => rw [bind_fail e2] at h; cases h
    | ok y st2 =>
      rw [bind_ok e2] at h
      cases e3 : evCmp op x.1 y.1 st2 with
      | exn x fs st' => rw [bind_exn e3] at h; cases h
      | fail => rw [bind_fail e3] at h; cases h
      | ok z st3 =>
        rw [bind_ok e3] at h
        obtain ⟨k, rfl, rfl⟩ := evCmp_bl e3
        cases k with
        | true =>
          have h : M.bind (ev Γ (orc Γ n) c ρ) (fun u => evCmp op' y.1 u.1) st3 = .ok r st' := h
          cases e4 : ev Γ (orc Γ n) c ρ st3 with
          | exn x fs st' => rw [bind_exn e4] at h; cases h
          | fail => rw [bind_fail e4] at h; cases h
          | ok u st4 =>
            rw [bind_ok e4] at h
            obtain ⟨k, e3, _⟩ := evCmp_bl h
            exact ⟨k, by rw [e3]⟩
        | false => obtain ⟨e3, _⟩ := okv_ok h; exact ⟨_, by rw [e3]⟩
theorem tst_cmp {op : COp} (hu : X.A.units + 64 < cLine) (ha : PE X l (tE Γ X.K n W a)) (hb : PE X r (tE Γ X.K n W b)) (hm : behindInMarks op.op r = false) : PT X (.Compare l [op.op] [r] pos) (tB Γ X.K n W (.of (.cmp op a b))) :=
  (pt_cmpR (or_cmp hu op) ha hb hm).imp fun σ H Q h => by
    obtain ⟨g, st, ρ, rp, q⟩ := tst_of (fun _ _ _ _ => bl_cmp) h
    exact two_op rp q
theorem tst_ch2 {op op' : COp} {r' : Expr} (hu : X.A.units + 64 < cLine) (ha : PE X l (tE Γ X.K n W a)) (hb : PE X r (tE Γ X.K n W b)) (hc : PE X r' (tE Γ X.K n W c)) (hm : lastMarks [op.op, op'.op] [r, r'] = false) :
    PT X (.Compare l [op.op, op'.op] [r, r'] pos) (tB Γ X.K n W (.of (.ch2 op op' a b c))) := (pt_chain (or_cmp hu op) (or_cmp hu op') ha hb hc hm).imp fun σ H Q h => chain_op (tst_of (fun _ _ _ _ => bl_ch2) h)
end
end G

set_option Elab.async false
set_option linter.all false
set_option maxRecDepth 100000
set_option maxHeartbeats 1000000
/-! Tests by and, or, not; displays, indices, slices, built-ins. -/
namespace G
open PySem PySem.Spec PyProof.Rows L2
section
variable {Γ : Gam} {X : Cx} {n : Nat} {W : WX} {pos p : Pos} {l r e : Expr} {a b c : E} {es : List Expr} {m : EL}

/-! ### tests -/
theorem isn_key (y : Bool) {σ : St} {H : Hp} {Q : VK} (h : tE Γ X.K n W (.isn y a) σ H Q) : tE Γ X.K n W a σ H fun x H1 => Q (.bl (if y = true then decide (x = .non) else !decide (x = .non))) H1 := by
  obtain ⟨g, st, ρ, rp, q⟩ := h
  refine ⟨g, st, ρ, rp, q.split fun x st1 g1 H1 v s1 w1 r1 q1 => ?_⟩
  obtain ⟨t, fl⟩ := x
  have no : ∀ {v : V}, RelRd X.K g1 H1 t v → (t = .non ∧ v = .non) ∨ (v ≠ .non ∧ Wg Γ X.K (RelR X.K H) (fun c d H' => W c d σ H') g H (okv (.bl (!y)) st1) Q) := fun {v} r => by
    cases t with
    | non => exact .inl ⟨rfl, r.non⟩
    | bl _ => exact .inr ⟨(by rw [r.bl]; exact (fun z => nomatch z)), q1⟩
    | int _ => exact .inr ⟨(by rw [r.int]; exact (fun z => nomatch z)), q1⟩
    | str _ => exact .inr ⟨(by rw [r.str]; exact (fun z => nomatch z)), q1⟩
    | byt _ => exact .inr ⟨(by rw [r.byt]; exact (fun z => nomatch z)), q1⟩
    | tup _ => obtain ⟨_, _, e, _⟩ := r.tup'; exact .inr ⟨(by rw [e]; exact (fun z => nomatch z)), q1⟩
    | lst _ => obtain ⟨_, _, e, _⟩ := r.lst w1; exact .inr ⟨(by rw [e]; exact (fun z => nomatch z)), q1⟩
    | scr _ => obtain ⟨_, e, _⟩ := r.scr; exact .inr ⟨(by rw [e]; exact (fun z => nomatch z)), q1⟩
    | loc _ => obtain ⟨_, e, _⟩ := r.loc; exact .inr ⟨(by rw [e]; exact (fun z => nomatch z)), q1⟩
    | met _ _ => rcases r with r | ⟨_, z, _⟩; cases r; cases z
  rcases no r1.rd with ⟨e1, e2⟩ | ⟨e2, q2⟩
  · subst e1 e2
    have q1' : Wg Γ X.K (RelR X.K H) (fun c d H' => W c d σ H') g H (okv (.bl y) st1) Q := q1
    have := (q1'.again s1).okv w1 (.bl _)
    cases y <;> simpa using this
  · have := (q2.again s1).okv w1 (.bl _)
    cases y <;> simpa [e2] using this
theorem isb_key {k : Bool} (y : Bool) {σ : St} {H : Hp} {Q : VK} (h : tE Γ X.K n W (.isb y k a) σ H Q) : tE Γ X.K n W a σ H fun x H1 => ∃ d, x = .bl d ∧ Q (.bl (if y = true then decide (d = k) else !decide (d = k))) H1 := by
  obtain ⟨g, st, ρ, rp, q⟩ := h
  refine ⟨g, st, ρ, rp, q.split fun x st1 g1 H1 v s1 w1 r1 q1 => ?_⟩
  obtain ⟨t, fl⟩ := x
  cases t with
  | bl d =>
    cases r1.rd.bl
    refine ⟨d, rfl, ?_⟩
    have q1' : Wg Γ X.K (RelR X.K H) (fun c d H' => W c d σ H') g H (okv (.bl (if y = true then d == k else !(d == k))) st1) Q := q1
    have e := (q1'.again s1).okv w1 (.bl _)
    have e2 : (d == k) = decide (d = k) := by cases d <;> cases k <;> rfl
    rw [e2] at e
    exact e
  | _ => exact False.elim q1
theorem tE_mono {σ : St} {H : Hp} {Q Q' : VK} (h : tE Γ X.K n W a σ H Q) (k : ∀ v H', Q v H' → Q' v H') : tE Γ X.K n W a σ H Q' := by
  obtain ⟨g, st, ρ, rp, q⟩ := h
  refine ⟨g, st, ρ, rp, ?_⟩
  revert q
  cases ev Γ (orc Γ n) a ρ st with
  | ok x st1 => exact fun q g' H' v s w r => k _ _ (q g' H' v s w r)
  | exn x fs st1 => exact fun q => q
  | fail => exact fun q => q
theorem tst_isn {j pos'} (y : Bool) (ha : PE X l (tE Γ X.K n W a)) : PT X (.Compare l [if y = true then .Is else .IsNot] [.Constant .none j pos'] pos) (tB Γ X.K n W (.of (.isn y a))) := by
  cases y with
  | true => exact (pt_cmp (pc_isN ha)).imp fun σ H Q h => isn_key true (tst_of (fun _ _ _ _ => bl_isn) h)
  | false => exact (pt_cmp (pc_notN ha)).imp fun σ H Q h => isn_key false (tst_of (fun _ _ _ _ => bl_isn) h)
theorem tst_isb {j pos' k} (y : Bool) (ha : PE X l (tE Γ X.K n W a)) : PT X (.Compare l [if y = true then .Is else .IsNot] [.Constant (.bool k) j pos'] pos) (tB Γ X.K n W (.of (.isb y k a))) := by
  cases y with
  | true =>
    refine (pt_cmpR op_isBl ha pe_bl (nomark _)).imp fun σ H Q h => ?_
    refine tE_mono (isb_key true (tst_of (fun _ _ _ _ => bl_isb) h)) fun v H' ⟨d, e, q⟩ => ?_
    exact ⟨d, k, e, rfl, by simpa using q⟩
  | false =>
    refine (pt_cmpR op_notBl ha pe_bl (nomark _)).imp fun σ H Q h => ?_
    refine tE_mono (isb_key false (tst_of (fun _ _ _ _ => bl_isb) h)) fun v H' ⟨d, e, q⟩ => ?_
    exact ⟨d, k, e, rfl, by simpa using q⟩
theorem truth_ok {t : T} {v : V} {g : Gh} {H : Hp} {st st' : Store} {k : Bool} (w : WF Γ X.K g st H) (r : RelRd X.K g H t v) (e : truth t st = .ok k st') : st' = st ∧ TruV X.K v H k := by
  have inj : ∀ {b : Bool}, (M.ok b : M Bool) st = .ok k st' → st' = st ∧ k = b := fun {b} z => by
    have z' : Res.ok b st = .ok k st' := z
    cases z'
    exact ⟨rfl, rfl⟩
  cases t with
  | non => cases r.non; obtain ⟨h1, rfl⟩ := inj e; exact ⟨h1, rfl⟩
  | bl b => cases r.bl; obtain ⟨h1, rfl⟩ := inj e; exact ⟨h1, rfl⟩
  | int i => cases r.int; obtain ⟨h1, rfl⟩ := inj e; exact ⟨h1, rfl⟩
  | str l =>
    cases r.str
    have e' : (if l.length ≤ big then M.ok ((l.length : Int) != 0) else M.fail : M Bool) st = .ok k st' := e
    by_cases hl : l.length ≤ big
    · rw [if_pos hl] at e'
      obtain ⟨h1, rfl⟩ := inj e'
      refine ⟨h1, ?_, ?_⟩
      · rw [toS_len, ← big_eq]; exact hl
      · rw [toS_len]
    · rw [if_neg hl] at e'; cases e'
  | lst ts =>
    obtain ⟨a, xs, rfl, h, hn, k1⟩ := r.lst w
    obtain ⟨h1, rfl⟩ := inj e
    refine ⟨h1, .inl ⟨xs, SqL.of h, ?_⟩⟩
    cases ts with
    | nil => cases k1; rfl
    | cons _ _ => cases k1; rfl
  | tup ts =>
    obtain ⟨a, xs, rfl, h, k1⟩ := r.tup'
    obtain ⟨h1, rfl⟩ := inj e
    refine ⟨h1, .inr (.inl ⟨xs, h, ?_⟩)⟩
    cases ts with
    | nil => cases k1; rfl
    | cons _ _ => cases k1; rfl
  | _ => cases e
theorem truth_nox {t : T} {st : Store} {x : Nat} {fs : List (Nat × T)} {st' : Store} : truth t st ≠ .exn x fs st' := by
  intro e
  cases t with
  | str l =>
    have e' : (if l.length ≤ big then M.ok ((l.length : Int) != 0) else M.fail : M Bool) st = .exn x fs st' := e
    by_cases hl : l.length ≤ big
    · rw [if_pos hl] at e'; cases e'
    · rw [if_neg hl] at e'; cases e'
  | _ => cases e
/-- any other test -/
theorem tst_val (ha : PE X l (tE Γ X.K n W a)) (he : ∀ whole, isTrue l X.env whole = (do let v ← whole; standAt l.pos; holding [v] (truthy v))) : PT X l (tB Γ X.K n W (.of a)) := by
  refine (pt_truth ha he).imp fun σ H Q ⟨g, st, ρ, rp, q⟩ => ?_
  unfold tst at q
  refine ⟨g, st, ρ, rp, q.split fun x st1 g1 H1 v s1 w1 r1 q1 => ?_⟩
  obtain ⟨t, fl⟩ := x
  cases e : truth t st1 with
  | exn x fs st' => exact absurd e truth_nox
  | fail => rw [e] at q1; exact False.elim q1
  | ok k st2 =>
    obtain ⟨e2, tv⟩ := truth_ok w1 r1.rd e
    subst e2
    rw [e] at q1
    exact ⟨k, tv, q1 g1 H1 k s1 w1 rfl⟩
theorem pw_of {op : BoolOp} {es : List Expr} {t : TT} (h : PT X (.BoolOp op es pos) t) : PW X (.BoolOp op es pos) t := ⟨fun whole pins s σ H Q I q => by
  have := h.run pins s σ H Q I q
  rw [PySem.isTrue] at this ⊢
  exact this⟩
theorem tst_and {rest : List Expr} {ta tb : B} (ha : PT X l (tB Γ X.K n W ta)) (hb : PW X (.BoolOp .And (r :: rest) pos) (tB Γ X.K n W tb)) : PT X (.BoolOp .And (l :: r :: rest) pos) (tB Γ X.K n W (.and ta tb)) := by
  refine (PW.pt (pw_and ha hb)).imp fun σ H Q ⟨g, st, ρ, rp, q⟩ => ?_
  unfold tst at q
  refine ⟨g, st, ρ, rp, q.split fun x st1 g1 H1 k s1 w1 r1 q1 => ?_⟩
  cases r1
  cases x with
  | true => exact ⟨g1, st1, ρ, rp.step s1 w1, q1.restart s1 fun _ _ _ _ h => h⟩
  | false => exact q1 g1 H1 false s1 w1 rfl
theorem tst_or {rest : List Expr} {ta tb : B} (ha : PT X l (tB Γ X.K n W ta)) (hb : PW X (.BoolOp .Or (r :: rest) pos) (tB Γ X.K n W tb)) : PT X (.BoolOp .Or (l :: r :: rest) pos) (tB Γ X.K n W (.or ta tb)) := by
  refine (PW.pt (pw_or ha hb)).imp fun σ H Q ⟨g, st, ρ, rp, q⟩ => ?_
  unfold tst at q
  refine ⟨g, st, ρ, rp, q.split fun x st1 g1 H1 k s1 w1 r1 q1 => ?_⟩
  cases r1
  cases x with
  | false => exact ⟨g1, st1, ρ, rp.step s1 w1, q1.restart s1 fun _ _ _ _ h => h⟩
  | true => exact q1 g1 H1 true s1 w1 rfl
theorem tst_not {ta : B} (ha : PT X l (tB Γ X.K n W ta)) : PT X (.UnaryOp .Not l pos) (tB Γ X.K n W (.not ta)) := by
  refine (pt_not ha).imp fun σ H Q ⟨g, st, ρ, rp, q⟩ => ?_
  unfold tst at q
  refine ⟨g, st, ρ, rp, q.split fun x st1 g1 H1 k s1 w1 r1 q1 => ?_⟩
  cases r1
  exact q1 g1 H1 (!x) s1 w1 rfl
theorem snd_ife {ta : B} {test : Expr} (hc : PT X test (tB Γ X.K n W ta)) (ha : PE X l (tE Γ X.K n W a)) (hb : PE X r (tE Γ X.K n W b)) : PE X (.IfExp test l r pos) (tE Γ X.K n W (.ife ta a b)) := by
  refine (pe_ifExp hc ha hb).imp fun σ H Q ⟨g, st, ρ, rp, q⟩ => ?_
  unfold ev at q
  refine ⟨g, st, ρ, rp, q.split fun x st1 g1 H1 k s1 w1 r1 q1 => ?_⟩
  cases r1
  cases x with
  | true => exact ⟨g1, st1, ρ, rp.step s1 w1, Wg.again q1 s1⟩
  | false => exact ⟨g1, st1, ρ, rp.step s1 w1, Wg.again q1 s1⟩

/-! ### rows -/
theorem snd_nilA : PA X [] (tA Γ X.K n W .nil) := pa_nil.imp fun σ H Q ⟨g, st, ρ, rp, q⟩ => q g H [] Step.refl rp.wf .nil
theorem snd_nilR : PA X [] (tR Γ X.K n W .nil) := pa_nil.imp fun σ H Q ⟨g, st, ρ, rp, q⟩ => q g H [] Step.refl rp.wf .nil
theorem snd_consA (ha : PE X e (tE Γ X.K n W a)) (hr : PA X es (tA Γ X.K n W m)) (hs : starEach (e :: es) X.env = (false, eval e X.env) :: starEach es X.env) : PA X (e :: es) (tA Γ X.K n W (.cons a m)) := by
  refine (pa_cons ha hr hs).imp fun σ H Q ⟨g, st, ρ, rp, q⟩ => ?_
  unfold evA at q
  rw [M.bind_assoc] at q
  refine ⟨g, st, ρ, rp, q.split fun x st1 g1 H1 v s1 w1 r1 q1 => ?_⟩
  obtain ⟨g2, s2, w2, r2, m2, e2, q2⟩ := q1.stay s1 w1 r1
  have rp2 := (rp.step s1 w1).mono m2 e2 w2
  refine ⟨g2, st1, ρ, rp2, Wg.split (q2.restart s2 fun _ _ _ _ h => h) fun ts st3 g3 H3 vs s3 w3 r3 q3 => ?_⟩
  exact q3 g3 H3 (v :: vs) s3 w3 (.cons (r2.step s3 w2) r3)
theorem snd_consR (ha : PE X e (tE Γ X.K n W a)) (hr : PA X es (tR Γ X.K n W m)) (hs : starEach (e :: es) X.env = (false, eval e X.env) :: starEach es X.env) : PA X (e :: es) (tR Γ X.K n W (.cons a m)) := by
  refine (pa_cons ha hr hs).imp fun σ H Q ⟨g, st, ρ, rp, q⟩ => ?_
  unfold evRs at q
  refine ⟨g, st, ρ, rp, q.split fun x st1 g1 H1 v s1 w1 r1 q1 => ?_⟩
  refine ⟨g1, st1, ρ, rp.step s1 w1, Wg.split (q1.restart s1 fun _ _ _ _ h => h) fun ts st3 g3 H3 vs s3 w3 r3 q3 => ?_⟩
  exact q3 g3 H3 (v :: vs) s3 w3 (.cons (r1.rd.step s3 w1) r3)
theorem snd_tup {j} (h : PA X es (tA Γ X.K n W m)) : PE X (.Tuple es j pos) (tE Γ X.K n W (.tup m)) := by
  refine (pe_tup h).imp fun σ H Q ⟨g, st, ρ, rp, q⟩ => ?_
  unfold ev at q
  refine ⟨g, st, ρ, rp, q.split fun ts st1 g1 H1 vs s1 w1 r1 q1 => ?_⟩
  by_cases hl : ts.length ≤ big
  · rw [if_pos hl] at q1
    exact ⟨by rw [← r1.length, ← big_eq]; exact hl, Wg.newT (q1.again s1) w1 r1⟩
  · rw [if_neg hl] at q1
    exact False.elim q1
theorem snd_lst (h : PA X es (tA Γ X.K n W m)) : PE X (.List es pos) (tE Γ X.K n W (.lst m)) := by
  refine (pe_lst h).imp fun σ H Q ⟨g, st, ρ, rp, q⟩ => ?_
  unfold ev at q
  refine ⟨g, st, ρ, rp, q.split fun ts st1 g1 H1 vs s1 w1 r1 q1 => ?_⟩
  by_cases hl : ts.length ≤ big
  · rw [if_pos hl] at q1
    exact ⟨by rw [← r1.length, ← big_eq]; exact hl, Wg.newL (q1.again s1) w1 r1⟩
  · rw [if_neg hl] at q1
    exact False.elim q1
/-- a new cell -/
def Gh.more (g : Gh) (a : Addr) : Gh := ⟨g.F, g.η ++ [a]⟩
theorem more_step {g : Gh} {H : Hp} {a : Addr} {o : HO} (hn : H a = none) : Step g H (g.more a) (upd H a o) :=
  ⟨fun _ h => h, fun _ h => .inl h, ⟨[a], rfl, fun b hb => by rw [List.mem_singleton.mp hb]; exact hn⟩, fun b u h _ => by rw [upd_ne (ne_of_none h hn)]; exact h, fun b u h => ⟨u, by rw [upd_ne (ne_of_none h hn)]; exact h⟩⟩
theorem more_wf {g : Gh} {st : Store} {H : Hp} {a : Addr} {o : HO} {c : Cell} (w : WF Γ X.K g st H) (hn : H a = none) (hc : CellAt Γ X.K (g.more a) (upd H a o) c a) : WF Γ X.K (g.more a) (st ++ [c]) (upd H a o) := by
  have na : a ∉ g.η := w.notη hn
  refine ⟨fun b f => ?_, ?_, by rw [List.length_append, w.len]; show _ = (g.η ++ [a]).length; simp, fun k d b h1 h2 => ?_⟩
  · obtain ⟨⟨xs, h⟩, h2⟩ := w.fl b f
    have hb : b ≠ a := ne_of_none h hn
    refine ⟨⟨xs, by rw [upd_ne hb]; exact h⟩, fun z => ?_⟩
    rcases List.mem_append.mp z with z | z
    · exact h2 z
    · exact hb (List.mem_singleton.mp z)
  · show (g.η ++ [a]).Nodup
    rw [List.nodup_append]
    exact ⟨w.nd, by simp, fun b hb c hc e => na (by rw [List.mem_singleton.mp hc] at e; rw [← e]; exact hb)⟩
  · have h2 : (g.η ++ [a])[k]? = some b := h2
    by_cases hk : k < st.length
    · rw [List.getElem?_append_left hk] at h1
      rw [List.getElem?_append_left (by rw [← w.len]; exact hk)] at h2
      refine (w.ce k d b h1 h2).mono ((more_step hn).mon w) fun u hu => ?_
      rw [upd_ne (ne_of_none hu hn)]; exact hu
    · have hk' : k = st.length := by
        have := (List.getElem?_eq_some_iff.mp h1).1
        rw [List.length_append] at this
        simp at this
        omega
      subst hk'
      have e1 : d = c := by simpa using h1.symm
      have e2 : b = a := by
        rw [w.len] at h2
        simpa using h2.symm
      subst e1 e2
      exact hc
theorem snd_new (h : PA X es (tA Γ X.K n W m)) : PE X (.List es pos) (tE Γ X.K n W (.new m)) := by
  refine (pe_lst h).imp fun σ H Q ⟨g, st, ρ, rp, q⟩ => ?_
  unfold ev at q
  refine ⟨g, st, ρ, rp, q.split fun ts st1 g1 H1 vs s1 w1 r1 q1 => ?_⟩
  by_cases hl : ts.length ≤ big
  · rw [if_pos hl] at q1
    refine ⟨by rw [← r1.length, ← big_eq]; exact hl, fun p hp => ?_⟩
    have ms := more_step (g := g1) (o := .lst vs) hp
    refine q1 (g1.more p) _ (.ref p) (s1.trans ms) (more_wf w1 hp (.lst upd_same (r1.step ms w1))) (.loc ?_)
    show (g1.η ++ [p])[st1.length]? = some p
    rw [w1.len]; simp
  · rw [if_neg hl] at q1
    exact False.elim q1
end
end G

set_option Elab.async false
set_option linter.all false
set_option maxRecDepth 100000
set_option maxHeartbeats 1000000
/-! Indices, slices, built-ins, isinstance, built-in methods. -/
namespace G
open PySem PySem.Spec PyProof.Rows L2
section
variable {Γ : Gam} {X : Cx} {n : Nat} {W : WX} {pos p : Pos} {l r e : Expr} {a b c : E} {es : List Expr} {m : EL}

theorem of_some {α β : Type} {o : Option α} {k : α → M β} {st st' : Store} {z : β} (h : M.bind (M.of o) k st = .ok z st') : ∃ x, o = some x ∧ k x st = .ok z st' := by
  cases o with
  | none => cases h
  | some x => exact ⟨x, rfl, h⟩
theorem or_ix : IxR X (rOp2 Γ X.K evIx) := by
  intro value slice pins s σ H x y v u Q I rx ry h hs
  obtain ⟨g, st, ta, tb, E, w, r1, r2, q⟩ := h
  cases tb with
  | int i =>
    cases r2.int
    cases ta with
    | lst ts =>
      obtain ⟨a, xs, rfl, k1, n1, b1⟩ := r1.lst w
      obtain ⟨t, et, q⟩ := Wg.some q
      obtain ⟨z, e2, r⟩ := b1.at et
      exact ix_list value slice pins s σ H _ _ v u Q I rx ry ⟨a, xs, i, z, rfl, rfl, SqL.of k1, e2, q.okv w r⟩ hs
    | tup ts =>
      obtain ⟨a, xs, rfl, k1, b1⟩ := r1.tup'
      obtain ⟨t, et, q⟩ := Wg.some q
      obtain ⟨z, e2, r⟩ := b1.at et
      exact ix_tup value slice pins s σ H _ _ v u Q I rx ry ⟨a, xs, i, z, rfl, rfl, k1, e2, q.okv w r⟩ hs
    | str l =>
      cases r1.str
      have q' : Wg Γ X.K (RelR X.K H) E g H ((if l.length ≤ big then (M.of (atI l i)).bind fun c => okv (.str [c]) else M.fail : M G.R) st) Q := q
      by_cases hl : l.length ≤ big
      · rw [if_pos hl] at q'
        obtain ⟨c, ec, q'⟩ := Wg.some q'
        exact ix_str value slice pins s σ H _ _ v u Q I rx ry ⟨_, i, c, rfl, rfl, by rw [toS_len, ← big_eq]; exact hl, by rw [toS_list]; exact ec, q'.okv w (.str _)⟩ hs
      · rw [if_neg hl] at q'; exact False.elim q'
    | byt l =>
      cases r1.byt
      have q' : Wg Γ X.K (RelR X.K H) E g H ((if l.length ≤ big ∧ 0 ≤ i ∧ i < l.length then okv (.int ((l.getD i.toNat 0).toNat : Nat)) else M.fail : M G.R) st) Q := q
      by_cases hl : l.length ≤ big ∧ 0 ≤ i ∧ i < l.length
      · rw [if_pos hl] at q'
        obtain ⟨t, rfl⟩ := rx
        obtain ⟨t', rfl⟩ := ry
        have hb : l.length ≤ 16777216 := hl.1
        exact tail_any (PySem.W.typeIs_bytes s l.toArray t) PySem.W.FB.slot_bytes_getitem.lookup (PySem.W.getItem_bytes (by omega) hl.2.1 hl.2.2 ⟨.int ((l.getD i.toNat 0).toNat : Nat), H, I.tok _, ⟨_, rfl⟩, q'.okv w (.int _)⟩) hs
      · rw [if_neg hl] at q'; exact False.elim q'
    | loc k =>
      obtain ⟨a, rfl, ea⟩ := r1.loc
      cases hc : st[k]? with
      | none =>
        have q' : Wg Γ X.K (RelR X.K H) E g H (match st[k]? with | some (.lst ts) => (M.of (atI ts i)).bind okv st | _ => .fail) Q := q
        rw [hc] at q'; exact False.elim q'
      | some cell =>
        have q' : Wg Γ X.K (RelR X.K H) E g H (match st[k]? with | some (.lst ts) => (M.of (atI ts i)).bind okv st | _ => .fail) Q := q
        rw [hc] at q'
        cases cell with
        | lst ts =>
          have ce := w.ce k _ a hc ea
          cases ce with
          | lst h1 b1 =>
            obtain ⟨t, et, q'⟩ := Wg.some q'
            obtain ⟨z, e2, r⟩ := b1.at et
            exact ix_list value slice pins s σ H _ _ v u Q I rx ry ⟨a, _, i, z, rfl, rfl, SqL.of h1, e2, q'.okv w r⟩ hs
        | ins c fs => exact False.elim q'
    | _ => exact False.elim q
  | _ => exact False.elim q
theorem snd_ix (ha : PE X l (tE Γ X.K n W a)) (hb : PE X r (tE Γ X.K n W b)) (hs : PlainIx r) : PE X (.Subscript l r pos) (tE Γ X.K n W (.ix a b)) :=
  (pe_ix or_ix ha hb hs).imp fun σ H Q ⟨g, st, ρ, rp, q⟩ => two_op rp q

/-! ### slices -/
def rSlG (Γ : Gam) (K : PySem.W.Frag) : V → Option Int → Option Int → Hp → VK → Prop := fun x lo hi H Q => ∃ g st ta E, WF Γ K g st H ∧ RelRd K g H ta x ∧ Wg Γ K (RelR K H) E g H (evSl ta lo hi st) Q
theorem clip_sIx (n d : Nat) (o : Option Int) (hd : d ≤ n) : o.elim d (clipAt n) = HT.sIx n d o := by
  cases o with
  | none => rfl
  | some i =>
    show clipAt n i = HT.sIx n d (some i)
    show (max 0 (min (if i < 0 then i + (n : Int) else i) (n : Int))).toNat = if i < 0 then (i + (n : Int)).toNat else min i.toNat n
    by_cases h : i < 0
    · rw [if_pos h, if_pos h]; omega
    · rw [if_neg h, if_neg h]; omega
theorem picked_cut (l : List UInt8) (lo hi : Option Int) : PySem.W.KBy.picked l.toArray lo hi = (cut l lo hi).toArray := by
  rw [PySem.W.KBc.picked_eq, List.size_toArray, clip_sIx _ _ _ (Nat.le_refl _)]
  rw [clip_sIx _ 0 _ (Nat.zero_le _)]
  rfl
theorem sl_any : SlR X (rSlG Γ X.K) := by
  intro pins s σ H x v vl vu lo hi sl Q I rx hs pl pu h
  obtain ⟨g, st, ta, E, w, r1, q⟩ := h
  cases ta with
  | lst ts =>
    obtain ⟨a, xs, rfl, k1, n1, b1⟩ := r1.lst w
    exact sl_list pins s σ H _ v vl vu lo hi sl Q I rx hs pl pu ⟨a, xs, rfl, SqL.of k1, Wg.newL q w (b1.cut lo hi)⟩
  | scr ns =>
    obtain ⟨a, rfl, k1⟩ := r1.scr
    refine sl_list pins s σ H _ v vl vu lo hi sl Q I rx hs pl pu ⟨a, _, rfl, k1.sq, Wg.newL q w ?_⟩
    have e : cutV (ns.map V.int) lo hi = (cut ns lo hi).map V.int := by
      unfold cutV cut
      rw [List.length_map, List.map_take, List.map_drop]
    rw [e]
    exact relTs_ints _
  | tup ts =>
    obtain ⟨a, xs, rfl, k1, b1⟩ := r1.tup'
    refine sl_tupA pins s σ H _ v vl vu lo hi sl Q I rx hs pl pu ⟨a, xs, rfl, k1, fun z => ?_, fun _ => Wg.newT q w (b1.cut lo hi)⟩
    have e : cut ts lo hi = ts := by
      unfold cut
      rw [b1.length, z.1, z.2, List.drop_zero, Nat.sub_zero, ← b1.length, List.take_length]
    have q' : Wg Γ X.K (RelR X.K H) E g H (okv (.tup (cut ts lo hi)) st) Q := q
    rw [e] at q'
    exact q'.okv w (.tup k1 b1)
  | str l =>
    cases r1.str
    have q' : Wg Γ X.K (RelR X.K H) E g H ((if l.length ≤ big then okv (.str (cut l lo hi)) else M.fail : M G.R) st) Q := q
    by_cases hl : l.length ≤ big
    · rw [if_pos hl] at q'
      refine sl_str pins s σ H _ v vl vu lo hi sl Q I rx hs pl pu ⟨_, rfl, by rw [toS_len, ← big_eq]; exact hl, ?_⟩
      rw [cut_cutS]
      exact q'.okv w (.str _)
    · rw [if_neg hl] at q'; exact False.elim q'
  | byt l =>
    cases r1.byt
    have q' : Wg Γ X.K (RelR X.K H) E g H ((if l.length ≤ big then okv (.byt (cut l lo hi)) else M.fail : M G.R) st) Q := q
    by_cases hl : l.length ≤ big
    · rw [if_pos hl] at q'
      refine sl_byt pins s σ H _ v vl vu lo hi sl Q I rx hs pl pu ⟨_, rfl, by simpa using (show l.length ≤ 16777216 from hl), ?_⟩
      rw [picked_cut]
      exact q'.okv w (.byt _)
    · rw [if_neg hl] at q'; exact False.elim q'
  | _ => exact False.elim q
theorem snd_none : PO X none (tO Γ X.K n W .none) := po_none.imp fun σ H Q ⟨g, st, ρ, rp, q⟩ => q g H none Step.refl rp.wf rfl
theorem snd_some (ha : PE X l (tE Γ X.K n W a)) : PO X (some l) (tO Γ X.K n W (.some a)) := by
  refine (po_some ha).imp fun σ H Q ⟨g, st, ρ, rp, q⟩ => ?_
  unfold evO at q
  refine ⟨g, st, ρ, rp, q.split fun x st1 g1 H1 v s1 w1 r1 q1 => ?_⟩
  obtain ⟨t, fl⟩ := x
  cases t with
  | int i =>
    cases r1.rd.int
    exact ⟨i, rfl, q1 g1 H1 (some i) s1 w1 rfl⟩
  | _ => exact False.elim q1
theorem snd_sl {lo hi : Option Expr} {p2 : Pos} {ml mh : EO} (ha : PE X l (tE Γ X.K n W a)) (hl : PO X lo (tO Γ X.K n W ml)) (hh : PO X hi (tO Γ X.K n W mh)) : PE X (.Subscript l (.Slice lo hi none p2) pos) (tE Γ X.K n W (.sl a ml mh)) := by
  refine (pe_slice (sl_any (Γ := Γ)) ha hl hh).imp fun σ H Q ⟨g, st, ρ, rp, q⟩ => ?_
  unfold ev at q
  refine ⟨g, st, ρ, rp, q.split fun x st1 g1 H1 v s1 w1 r1 q1 => ?_⟩
  have rp1 := rp.step s1 w1
  refine ⟨g1, st1, ρ, rp1, Wg.split (Wg.again q1 s1) fun o st2 g2 H2 o' s2 w2 e2 q2 => ?_⟩
  cases e2
  have rp2 := rp1.step s2 w2
  refine ⟨g2, st2, ρ, rp2, Wg.split (Wg.again q2 s2) fun o st3 g3 H3 o' s3 w3 e3 q3 => ?_⟩
  cases e3
  exact ⟨g3, st3, x.1, _, w3, (r1.rd.step s2 w1).step s3 w2, Wg.again q3 s3⟩

/-! ### built-ins -/
def rBi (Γ : Gam) (K : PySem.W.Frag) (f : List T → M G.R) : List V → Hp → VK → Prop := fun xs H Q => ∃ g st ts E, WF Γ K g st H ∧ RelRds K g H ts xs ∧ Wg Γ K (RelR K H) E g H (f ts st) Q
theorem rds1 {K : PySem.W.Frag} {g : Gh} {H : Hp} {t : T} {xs : List V} (h : RelRds K g H [t] xs) : ∃ x, xs = [x] ∧ RelRd K g H t x := by
  cases h with
  | cons a b => cases b; exact ⟨_, rfl, a⟩
theorem bi_one {f : Value} {F : T → M G.R} {G' : List T → M G.R} (h1 : ∀ t, G' [t] = F t) (h0 : ∀ ts, (∀ t, ts ≠ [t]) → ∀ st, G' ts st = .fail)
    (hr : ∀ (pins : List (Addr × Obj)) (s : Shared) (σ : St) (H : Hp) (x : V) (u : Value) (Q : VK) (g : Gh) (st : Store) (t : T) (E : XK), Inv X pins σ H s → RelV x u → WF Γ X.K g st H → RelRd X.K g H t x → Wg Γ X.K (RelR X.K H) E g H (F t st) Q →
      wpAny (model X.prog X.w) X.A (call f [u]) (EP X pins σ Q) X.xe s) : CallR X f (rBi Γ X.K G') := by
  intro pins s σ H xs us Q I r h
  obtain ⟨g, st, ts, E, w, rs, q⟩ := h
  by_cases ht : ∃ t, ts = [t]
  · obtain ⟨t, rfl⟩ := ht
    obtain ⟨x, rfl, rx⟩ := rds1 rs
    obtain ⟨u, rfl, ru⟩ := vals1 r
    rw [h1] at q
    exact hr pins s σ H x u Q g st t E I ru w rx q
  · rw [h0 ts (fun t e => ht ⟨t, e⟩)] at q
    exact False.elim q
theorem list_not1 {α β : Type} {F : List α → β} {z : β} (h0 : F [] = z) (h2 : ∀ a b r, F (a :: b :: r) = z) : ∀ ts : List α, (∀ t, ts ≠ [t]) → F ts = z
  | [], _ => h0
  | [t], h => absurd rfl (h t)
  | a :: b :: r, _ => h2 a b r
theorem bi_len : CallR X (.builtin "len") (rBi Γ X.K (evBi .len)) := by
  refine bi_one (F := evLen) (fun _ => rfl) (fun ts h st => ?_) ?_
  · have := list_not1 (F := fun ts => evBi .len ts st) (z := .fail) rfl (fun _ _ _ => rfl) ts h
    exact this
  · intro pins s σ H x u Q g st t E I ru w rx q
    cases t with
    | lst ts =>
      obtain ⟨a, xs, rfl, k1, n1, b1⟩ := rx.lst w
      refine call_len pins s σ H _ _ Q I (.cons ru .nil) ⟨_, xs.length, rfl, .inl ⟨xs, SqL.of k1, rfl⟩, ?_⟩
      rw [← b1.length]
      exact q.okv w (.int _)
    | tup ts =>
      obtain ⟨a, xs, rfl, k1, b1⟩ := rx.tup'
      refine call_len pins s σ H _ _ Q I (.cons ru .nil) ⟨_, xs.length, rfl, .inr ⟨xs, k1, rfl⟩, ?_⟩
      rw [← b1.length]
      exact q.okv w (.int _)
    | scr ns =>
      obtain ⟨a, rfl, k1⟩ := rx.scr
      refine call_len pins s σ H _ _ Q I (.cons ru .nil) ⟨_, ns.length, rfl, .inl ⟨_, k1.sq, by rw [List.length_map]⟩, ?_⟩
      exact q.okv w (.int _)
    | str l =>
      cases rx.str
      have q' : Wg Γ X.K (RelR X.K H) E g H ((if l.length ≤ big then okv (.int l.length) else M.fail : M G.R) st) Q := q
      by_cases hl : l.length ≤ big
      · rw [if_pos hl] at q'
        refine call_len pins s σ H _ _ Q I (.cons ru .nil) ⟨_, l.length, rfl, ⟨by rw [toS_len, ← big_eq]; exact hl, by rw [toS_len]⟩, q'.okv w (.int _)⟩
      · rw [if_neg hl] at q'; exact False.elim q'
    | byt l =>
      cases rx.byt
      have q' : Wg Γ X.K (RelR X.K H) E g H ((if l.length ≤ big then okv (.int l.length) else M.fail : M G.R) st) Q := q
      by_cases hl : l.length ≤ big
      · rw [if_pos hl] at q'
        refine call_len pins s σ H _ _ Q I (.cons ru .nil) ⟨_, l.length, rfl, ⟨?_, ?_⟩, q'.okv w (.int _)⟩
        · rw [List.size_toArray, ← big_eq]; exact hl
        · rw [List.size_toArray]
      · rw [if_neg hl] at q'; exact False.elim q'
    | _ => exact False.elim q
theorem bi_int : CallR X (.type "int") (rBi Γ X.K (evBi .int)) := by
  refine bi_one (F := fun t => evBi .int [t]) (fun _ => rfl) (fun ts h st => list_not1 (F := fun ts => evBi .int ts st) (z := .fail) rfl (fun _ _ _ => by rename_i a b r; cases a <;> rfl) ts h) ?_
  intro pins s σ H x u Q g st t E I ru w rx q
  cases t with
  | int i =>
    cases rx.int
    exact call_int1 pins s σ H _ _ Q I (.cons ru .nil) (.inl ⟨i, rfl, q.okv w (.int _)⟩)
  | _ => exact False.elim q
theorem bi_abs : CallR X (.builtin "abs") (rBi Γ X.K (evBi .abs)) := by
  refine bi_one (F := fun t => evBi .abs [t]) (fun _ => rfl) (fun ts h st => list_not1 (F := fun ts => evBi .abs ts st) (z := .fail) rfl (fun _ _ _ => by rename_i a b r; cases a <;> rfl) ts h) ?_
  intro pins s σ H x u Q g st t E I ru w rx q
  cases t with
  | int i =>
    cases rx.int
    exact call_abs pins s σ H _ _ Q I (.cons ru .nil) ⟨i, rfl, q.okv w (.int _)⟩
  | _ => exact False.elim q
theorem bi_sum (hc : X.calm = true) : CallR X (.builtin "sum") (rBi Γ X.K (evBi .sum)) := by
  refine bi_one (F := fun t => evBi .sum [t]) (fun _ => rfl) (fun ts h st => list_not1 (F := fun ts => evBi .sum ts st) (z := .fail) rfl (fun _ _ _ => by rename_i a b r; cases a <;> rfl) ts h) ?_
  intro pins s σ H x u Q g st t E I ru w rx q
  cases t with
  | lst ts =>
    obtain ⟨a, xs, rfl, k1, n1, b1⟩ := rx.lst w
    obtain ⟨ns, en, q⟩ := Wg.some q
    cases b1.ints en
    exact cr_sum hc pins s σ H _ _ Q I (.cons ru .nil) ⟨a, ns, rfl, SqL.of k1, q.okv w (.int _)⟩
  | _ => exact False.elim q
theorem bi_all (hc : X.calm = true) : CallR X (.builtin "all") (rBi Γ X.K (evBi .all)) := by
  refine bi_one (F := fun t => evBi .all [t]) (fun _ => rfl) (fun ts h st => list_not1 (F := fun ts => evBi .all ts st) (z := .fail) rfl (fun _ _ _ => by rename_i a b r; cases a <;> rfl) ts h) ?_
  intro pins s σ H x u Q g st t E I ru w rx q
  cases t with
  | lst ts =>
    obtain ⟨a, xs, rfl, k1, n1, b1⟩ := rx.lst w
    obtain ⟨ns, en, q⟩ := Wg.some q
    cases b1.bls en
    exact cr_all hc pins s σ H _ _ Q I (.cons ru .nil) ⟨a, ns, rfl, SqL.of k1, q.okv w (.bl _)⟩
  | _ => exact False.elim q
theorem bi_any (hc : X.calm = true) : CallR X (.builtin "any") (rBi Γ X.K (evBi .any)) := by
  refine bi_one (F := fun t => evBi .any [t]) (fun _ => rfl) (fun ts h st => list_not1 (F := fun ts => evBi .any ts st) (z := .fail) rfl (fun _ _ _ => by rename_i a b r; cases a <;> rfl) ts h) ?_
  intro pins s σ H x u Q g st t E I ru w rx q
  cases t with
  | lst ts =>
    obtain ⟨a, xs, rfl, k1, n1, b1⟩ := rx.lst w
    obtain ⟨ns, en, q⟩ := Wg.some q
    cases b1.bls en
    exact cr_any hc pins s σ H _ _ Q I (.cons ru .nil) ⟨a, ns, rfl, SqL.of k1, q.okv w (.bl _)⟩
  | _ => exact False.elim q
theorem bi_tuple : CallR X (.type "tuple") (rBi Γ X.K (evBi .tuple)) := by
  refine bi_one (F := fun t => evBi .tuple [t]) (fun _ => rfl) (fun ts h st => list_not1 (F := fun ts => evBi .tuple ts st) (z := .fail) rfl (fun _ _ _ => by rename_i a b r; cases a <;> rfl) ts h) ?_
  intro pins s σ H x u Q g st t E I ru w rx q
  cases t with
  | lst ts =>
    obtain ⟨a, xs, rfl, k1, n1, b1⟩ := rx.lst w
    exact call_tuple_of pins s σ H _ _ Q I (.cons ru .nil) ⟨a, xs, rfl, .inl ⟨SqL.of k1, Wg.newT q w b1⟩⟩
  | tup ts =>
    obtain ⟨a, xs, rfl, k1, b1⟩ := rx.tup'
    exact call_tuple_of pins s σ H _ _ Q I (.cons ru .nil) ⟨a, xs, rfl, .inr ⟨k1, q.okv w (.tup k1 b1)⟩⟩
  | _ => exact False.elim q
theorem bi_eq (l : List UInt8) : (L2.bi l.toArray) = l.map fun b => ((b.toNat : Nat) : Int) := by
  simp [L2.bi, PySem.W.KBw.bInts]
theorem bi_list (hc : X.calm = true) : CallR X (.type "list") (rBi Γ X.K (evBi .list)) := by
  refine bi_one (F := fun t => evBi .list [t]) (fun _ => rfl) (fun ts h st => list_not1 (F := fun ts => evBi .list ts st) (z := .fail) rfl (fun _ _ _ => by rename_i a b r; cases a <;> rfl) ts h) ?_
  intro pins s σ H x u Q g st t E I ru w rx q
  cases t with
  | lst ts =>
    obtain ⟨a, xs, rfl, k1, n1, b1⟩ := rx.lst w
    exact call_list_of pins s σ H _ _ Q I (.cons ru .nil) ⟨a, xs, rfl, .inl (SqL.of k1), Wg.newL q w b1⟩
  | tup ts =>
    obtain ⟨a, xs, rfl, k1, b1⟩ := rx.tup'
    exact call_list_of pins s σ H _ _ Q I (.cons ru .nil) ⟨a, xs, rfl, .inr k1, Wg.newL q w b1⟩
  | byt l =>
    cases rx.byt
    have q' : Wg Γ X.K (RelR X.K H) E g H ((if l.length ≤ big then M.ok (.lst (l.map fun b => .int (b.toNat : Nat)), .fr) else M.fail : M G.R) st) Q := q
    by_cases hl : l.length ≤ big
    · rw [if_pos hl] at q'
      refine rl_listB hc pins s σ H _ _ Q I ru ⟨_, rfl, by rw [List.size_toArray, ← big_eq]; exact hl, ?_⟩
      refine Wg.newL q' w ?_
      rw [bi_eq, List.map_map]
      have e : (l.map fun b => T.int (b.toNat : Nat)) = (l.map fun b => ((b.toNat : Nat) : Int)).map T.int := by rw [List.map_map]; rfl
      rw [e, ← List.map_map]
      exact relTs_ints _
    · rw [if_neg hl] at q'; exact False.elim q'
  | _ => exact False.elim q
theorem sortI_uniq {ns ms : List Int} (h1 : ms.Perm ns) (h2 : ms.Pairwise (· ≤ ·)) : ms = sortI ns := by
  have p : (sortI ns).Perm ns := List.mergeSort_perm ns _
  have s : (sortI ns).Pairwise (fun a b => (decide (a ≤ b)) = true) := List.pairwise_mergeSort (by intro a b c h1 h2; simp only [decide_eq_true_eq] at *; omega) (by intro a b; simp only [Bool.or_eq_true, decide_eq_true_eq]; omega) ns
  refine List.Perm.eq_of_pairwise (le := fun a b => a ≤ b) (fun a b _ _ h1 h2 => by omega) h2 (s.imp fun h => by simpa using h) (h1.trans p.symm)
theorem bi_sorted : CallR X (.builtin "sorted") (rBi Γ X.K (evBi .sorted)) := by
  refine bi_one (F := fun t => evBi .sorted [t]) (fun _ => rfl) (fun ts h st => list_not1 (F := fun ts => evBi .sorted ts st) (z := .fail) rfl (fun _ _ _ => by rename_i a b r; cases a <;> rfl) ts h) ?_
  intro pins s σ H x u Q g st t E I ru w rx q
  cases t with
  | lst ts =>
    obtain ⟨a, xs, rfl, k1, n1, b1⟩ := rx.lst w
    obtain ⟨ns, en, q⟩ := Wg.some q
    cases b1.ints en
    refine cr_sortedI pins s σ H _ _ Q I (.cons ru .nil) ⟨a, ns, rfl, SqL.of k1, fun ms p h1 h2 hp => ?_⟩
    rw [sortI_uniq h1 h2]
    exact Wg.newL q w (relTs_ints _) p hp
  | _ => exact False.elim q
theorem bi_ord : CallR X (.builtin "ord") (rBi Γ X.K (evBi .ord)) := by
  refine bi_one (F := fun t => evBi .ord [t]) (fun _ => rfl) (fun ts h st => list_not1 (F := fun ts => evBi .ord ts st) (z := .fail) rfl (fun _ _ _ => by
    rename_i a b r
    cases a with
    | str l => match l with
      | [] => rfl
      | [_] => rfl
      | _ :: _ :: _ => rfl
    | _ => rfl) ts h) ?_
  intro pins s σ H x u Q g st t E I ru w rx q
  cases t with
  | str l =>
    match l, rx, q with
    | [], _, q => exact False.elim q
    | _ :: _ :: _, _, q => exact False.elim q
    | [c], rx, q =>
      cases rx.str
      refine call_ord pins s σ H _ _ Q I (.cons ru .nil) ⟨_, rfl, rfl, ?_⟩
      exact q.okv w (.int _)
  | _ => exact False.elim q
theorem bi_bytes (hc : X.calm = true) : CallR X (.type "bytes") (rBi Γ X.K (evBi .bytes)) := by
  refine bi_one (F := fun t => evBi .bytes [t]) (fun _ => rfl) (fun ts h st => list_not1 (F := fun ts => evBi .bytes ts st) (z := .fail) rfl (fun _ _ _ => by rename_i a b r; cases a <;> rfl) ts h) ?_
  intro pins s σ H x u Q g st t E I ru w rx q
  cases t with
  | lst ts =>
    obtain ⟨a, xs, rfl, k1, n1, b1⟩ := rx.lst w
    obtain ⟨ns, en, q⟩ := Wg.some q
    cases b1.ints en
    by_cases hb : ns.all (fun n => decide (0 ≤ n ∧ n < 256)) = true
    · rw [if_pos hb] at q
      refine call_bytes_list hc pins s σ H _ _ Q I (.cons ru .nil) ⟨a, ns, rfl, SqL.of k1, fun n hn => ?_, ?_⟩
      · have := List.all_eq_true.mp hb n hn
        simpa using this
      · have e : byteArr ns = (ns.map fun n : Int => n.toNat.toUInt8).toArray := rfl
        rw [e]
        exact q.okv w (.byt _)
    · rw [if_neg hb] at q; exact False.elim q
  | _ => exact False.elim q
end
end G

set_option Elab.async false
set_option linter.all false
set_option maxRecDepth 100000
set_option maxHeartbeats 1000000
/-! Calls of built-ins, of defs, of methods; fields; new instances; isinstance. -/
namespace G
open PySem PySem.Spec PyProof.Rows L2

def Bi.name : Bi → Str
  | .len => "len" | .int => "int" | .abs => "abs" | .sum => "sum" | .all => "all" | .any => "any" | .tuple => "tuple" | .list => "list" | .sorted => "sorted" | .ord => "ord" | .bytes => "bytes"
def Ty.name : Ty → String
  | .int => "int" | .bool => "bool" | .str => "str" | .tuple => "tuple" | .list => "list" | .bytes => "bytes"
/-- the names of the built-ins that the layer uses -/
def usedB : List Str := ["len", "int", "abs", "sum", "all", "any", "tuple", "list", "sorted", "ord", "bytes", "isinstance", "range", "zip", "enumerate", "bool", "str"]
def ownAt (Γ : Gam) (fd : FD) : Str × Option Str := match fd.owner with
  | none => (fd.nm, none)
  | some c => match Γ.cls[c]? with
    | some C => (C.name, some fd.nm)
    | none => (fd.nm, none)
def adrF (Γ : Gam) (K : PySem.W.Frag) (f : Nat) : Addr := match Γ.fds[f]? with
  | some fd => He.fAd K (ownAt Γ fd)
  | none => 0
structure Facts (Γ : Gam) (K : PySem.W.Frag) (mg : Str → Option Value) : Prop where
  nd : Γ.fnm.Nodup
  gls : ∀ (k : Nat) x t, Γ.gls[k]? = some (x, t) → ∃ u v, mg x = some u ∧ RelV v u ∧ ∀ g H, RelT K g H t v
  gt : ∀ (k : Nat) x ts u, Γ.gls[k]? = some (x, .tup ts) → mg x = some u → ∃ a o, u = .ref a ∧ K.lookup a = some o ∧ o.cls = .type "tuple" ∧ o.dict = none
  bi : ∀ x ∈ usedB, mg x = none
  fn : ∀ (f : Nat) fd, Γ.fds[f]? = some fd → fd.owner = none → mg fd.nm = some (.ref (adrF Γ K f)) ∧ PySem.W.keepIn K (.ref (adrF Γ K f)) = true
  cl : ∀ (c : Nat) C, Γ.cls[c]? = some C → Cls K (clsA Γ K c) ∧ mg C.name = some (.ref (clsA Γ K c)) ∧ Mk K (clsA Γ K c) (adrF Γ K C.init)
  me : ∀ (c : Nat) C m f s, Γ.cls[c]? = some C → C.meths.lookup m = some f → Γ.mnm[m]? = some s → Meth K (clsA Γ K c) s (adrF Γ K f)
  na : ∀ (c : Nat) C (f : Nat) s, Γ.cls[c]? = some C → Γ.fnm[f]? = some s → NoAttr K (clsA Γ K c) s
  mf : ∀ (m : Nat) s, Γ.mnm[m]? = some s → s ∉ Γ.fnm
/-- a def's promise: what the evaluator makes of it -/
def spF (Γ : Gam) (K : PySem.W.Frag) (m : List T → M R) : Sp := fun vs H Q E => ∃ g st ts, WF Γ K g st H ∧ RelTs K g H ts vs ∧ Wg Γ K (RelR K H) E g H (m ts st) Q
def CallsOk (P : Program) (w : World) (K : PySem.W.Frag) (mg : Str → Option Value) (base : Heap) (Γ : Gam) (n : Nat) : Prop :=
  ∀ (f : Nat) fd, Γ.fds[f]? = some fd → ∃ fdat, FnOk P w K mg base (L2.CX P w) (n + 2) (adrF Γ K f) fdat fd.ps (spF Γ K (callF Γ n f)) ∧ Binds K fdat fd.ps []
section
variable {Γ : Gam} {X : Cx} {n : Nat} {W : WX} {pos p apos : Pos} {l r e o : Expr} {a b c : E} {es : List Expr} {m : EL}

/-! ### built-ins -/
theorem snd_biB {bb : Bi} {id : String} {x : Str} (hc : CallR X (.builtin id) (rBi Γ X.K (evBi bb))) (hg : Gl X x) (hm : X.mg x = none) (hv : bootBuiltins x = some (.builtin id)) (hn : x ≠ "__name__") (hdb : (x == ("__debug__" : Str)) = false)
    (ha : PA X (e :: es) (tR Γ X.K n W m)) (he : starEach (e :: es) X.env = (false, eval e X.env) :: starEach es X.env) (hpl : (backTo pos (starEach es X.env)).any (·.1) = false) : PE X (.Call (.Name x p) (e :: es) [] pos) (tE Γ X.K n W (.bi bb m)) := by
  refine (pe_callB hc hg hm hv ha hn hdb he hpl).imp fun σ H Q ⟨g, st, ρ, rp, q⟩ => ?_
  unfold ev at q
  exact ⟨g, st, ρ, rp, q.split fun ts st1 g1 H1 vs s1 w1 r1 q1 => ⟨g1, st1, ts, _, w1, r1, Wg.again q1 s1⟩⟩
theorem snd_biT {bb : Bi} {id : String} {x : Str} (hc : CallR X (.type id) (rBi Γ X.K (evBi bb))) (hg : Gl X x) (hm : X.mg x = none) (hv : bootBuiltins x = some (.type id)) (hn : x ≠ "__name__") (hdb : (x == ("__debug__" : Str)) = false)
    (ha : PA X (e :: es) (tR Γ X.K n W m)) (he : starEach (e :: es) X.env = (false, eval e X.env) :: starEach es X.env) (hpl : (backTo pos (starEach es X.env)).any (·.1) = false) : PE X (.Call (.Name x p) (e :: es) [] pos) (tE Γ X.K n W (.bi bb m)) := by
  refine (pe_callTy hc hg hm hv ha hn hdb he hpl).imp fun σ H Q ⟨g, st, ρ, rp, q⟩ => ?_
  unfold ev at q
  exact ⟨g, st, ρ, rp, q.split fun ts st1 g1 H1 vs s1 w1 r1 q1 => ⟨g1, st1, ts, _, w1, r1, Wg.again q1 s1⟩⟩
theorem snd_bi {bb : Bi} (hc : X.calm = true) (hg : Gl X bb.name) (hm : X.mg bb.name = none) (ha : PA X (e :: es) (tR Γ X.K n W m)) (he : starEach (e :: es) X.env = (false, eval e X.env) :: starEach es X.env) (hpl : (backTo pos (starEach es X.env)).any (·.1) = false) :
    PE X (.Call (.Name bb.name p) (e :: es) [] pos) (tE Γ X.K n W (.bi bb m)) := by
  cases bb with
  | len => exact snd_biB bi_len hg hm (by decide +kernel) (by decide +kernel) (by decide +kernel) ha he hpl
  | int => exact snd_biT bi_int hg hm (by decide +kernel) (by decide +kernel) (by decide +kernel) ha he hpl
  | abs => exact snd_biB bi_abs hg hm (by decide +kernel) (by decide +kernel) (by decide +kernel) ha he hpl
  | sum => exact snd_biB (bi_sum hc) hg hm (by decide +kernel) (by decide +kernel) (by decide +kernel) ha he hpl
  | all => exact snd_biB (bi_all hc) hg hm (by decide +kernel) (by decide +kernel) (by decide +kernel) ha he hpl
  | any => exact snd_biB (bi_any hc) hg hm (by decide +kernel) (by decide +kernel) (by decide +kernel) ha he hpl
  | tuple => exact snd_biT bi_tuple hg hm (by decide +kernel) (by decide +kernel) (by decide +kernel) ha he hpl
  | list => exact snd_biT (bi_list hc) hg hm (by decide +kernel) (by decide +kernel) (by decide +kernel) ha he hpl
  | sorted => exact snd_biB bi_sorted hg hm (by decide +kernel) (by decide +kernel) (by decide +kernel) ha he hpl
  | ord => exact snd_biB bi_ord hg hm (by decide +kernel) (by decide +kernel) (by decide +kernel) ha he hpl
  | bytes => exact snd_biT (bi_bytes hc) hg hm (by decide +kernel) (by decide +kernel) (by decide +kernel) ha he hpl

/-! ### isinstance -/
def T.tyN : T → Option String
  | .non => some "NoneType" | .bl _ => some "bool" | .int _ => some "int" | .str _ => some "str" | .byt _ => some "bytes" | .tup _ => some "tuple" | .lst _ => some "list"
  | _ => none
theorem isTy_kit : ∀ (t : Ty) (a : String) (k : Bool), a ∈ ["NoneType", "bool", "int", "str", "bytes", "tuple", "list"] → kitB a t.name = some k → True := fun _ _ _ _ _ => trivial
theorem kit_all : (["NoneType", "bool", "int", "str", "bytes", "tuple", "list"].all fun a => [Ty.int, .bool, .str, .tuple, .list, .bytes].all fun t =>
    decide (kitB a t.name = some (if a = "bool" then decide (t = .bool ∨ t = .int) else decide (t.name = a)))) = true := by decide +kernel
theorem isTy_eq {t : T} {ty : Ty} {k : Bool} (h : isTy t ty = some k) : ∃ a, t.tyN = some a ∧ kitB a ty.name = some k := by
  have all : ∀ a, a ∈ ["NoneType", "bool", "int", "str", "bytes", "tuple", "list"] → kitB a ty.name = some (if a = "bool" then decide (ty = .bool ∨ ty = .int) else decide (ty.name = a)) := fun a ha => by
    have h1 := List.all_eq_true.mp kit_all a ha
    have h2 := List.all_eq_true.mp h1 ty (by cases ty <;> simp)
    exact of_decide_eq_true h2
  cases t with
  | non => refine ⟨_, rfl, (all _ (by simp)).trans ?_⟩; rw [← h]; cases ty <;> rfl
  | bl _ => refine ⟨_, rfl, (all _ (by simp)).trans ?_⟩; rw [← h]; cases ty <;> rfl
  | int _ => refine ⟨_, rfl, (all _ (by simp)).trans ?_⟩; rw [← h]; cases ty <;> rfl
  | str _ => refine ⟨_, rfl, (all _ (by simp)).trans ?_⟩; rw [← h]; cases ty <;> rfl
  | byt _ => refine ⟨_, rfl, (all _ (by simp)).trans ?_⟩; rw [← h]; cases ty <;> rfl
  | tup _ => refine ⟨_, rfl, (all _ (by simp)).trans ?_⟩; rw [← h]; cases ty <;> rfl
  | lst _ => refine ⟨_, rfl, (all _ (by simp)).trans ?_⟩; rw [← h]; cases ty <;> rfl
  | _ => cases h
theorem tyX_of {K : PySem.W.Frag} {g : Gh} {st : Store} {H : Hp} {t : T} {x : V} {a : String} (w : WF Γ K g st H) (r : RelRd K g H t x) (h : t.tyN = some a) : TyX K H x (.type a) := by
  cases t with
  | non => cases r.non; cases h; exact .base .non
  | bl _ => cases r.bl; cases h; exact .base (.bl _)
  | int _ => cases r.int; cases h; exact .base (.int _)
  | str _ => cases r.str; cases h; exact .base (.str _)
  | byt _ => cases r.byt; cases h; exact .byt _
  | tup ts =>
    obtain ⟨p, xs, rfl, k, _⟩ := r.tup'
    cases h
    rcases k with (k | ⟨o, k⟩) | ⟨o, its, n, k1, k2, _⟩
    · exact .base (.tup k)
    · exact .fTuple k
    · exact .kTuple k1 k2
  | lst ts =>
    obtain ⟨p, xs, rfl, k, _, _⟩ := r.lst w
    cases h
    exact .base (.lst k)
  | _ => cases h
theorem snd_isi {ty : Ty} {tn : Str} (htn : tn = (ty.name : Str)) {p2 : Pos} (hg : Gl X "isinstance") (hm : X.mg "isinstance" = none) (hg2 : Gl X tn) (hm2 : X.mg tn = none) (ha : PE X l (tE Γ X.K n W a))
    (he : starEach [l, .Name tn p2] X.env = (false, eval l X.env) :: starEach [.Name tn p2] X.env) :
    PE X (.Call (.Name "isinstance" p) [l, .Name tn p2] [] pos) (tE Γ X.K n W (.isi a ty)) := by
  subst htn
  have hb : PE X (.Name (ty.name : Str) p2) (tC (.ty ty.name)) := by
    cases ty <;> exact pe_bltn hg2 hm2 (u := .type _) (by decide +kernel) rfl (by decide +kernel) (by decide +kernel)
  refine (pe_callB call_isi hg hm (by decide +kernel) (pa_cons ha (pa_cons hb pa_nil) he) (by decide +kernel) (by decide +kernel) he (by rfl)).imp fun σ H Q ⟨g, st, ρ, rp, q⟩ => ?_
  unfold ev at q
  refine ⟨g, st, ρ, rp, q.split fun x st1 g1 H1 v s1 w1 r1 q1 => ?_⟩
  obtain ⟨k, ek, q1⟩ := Wg.some q1
  obtain ⟨ta, e1, e2⟩ := isTy_eq ek
  exact ⟨v, .ty ty.name, .type ta, .type ty.name, k, rfl, .ty _, tyX_of w1 r1.rd e1, kit_ty e2, (Wg.again q1 s1).okv w1 (.bl _)⟩

/-! ### calls of defs -/
theorem snd_call {f : Nat} {fd : FD} (F : Facts Γ X.K X.mg) (C : CallsOk X.prog X.w X.K X.mg X.base Γ n) (hr : Room (n + 2) X.A) (tk : Takes X W) (hf : Γ.fds[f]? = some fd) (hown : fd.owner = none) (hg : Gl X fd.nm) (hdb : (fd.nm == ("__debug__" : Str)) = false)
    (ha : PA X (e :: es) (tA Γ X.K n W m)) (he : starEach (e :: es) X.env = (false, eval e X.env) :: starEach es X.env) (hpl : (backTo pos (starEach es X.env)).any (·.1) = false) : PE X (.Call (.Name fd.nm p) (e :: es) [] pos) (tE Γ X.K n W (.call f m)) := by
  obtain ⟨fdat, ok, bnd⟩ := C f fd hf
  obtain ⟨h1, h2⟩ := F.fn f fd hf hown
  refine (pe_callS (E := WE W) ok hr hg h1 h2 bnd (fun σ => passAt tk σ) ha hdb he hpl).imp fun σ H Q ⟨g, st, ρ, rp, q⟩ => ?_
  unfold ev at q
  exact ⟨g, st, ρ, rp, q.split fun ts st1 g1 H1 vs s1 w1 r1 q1 => ⟨g1, st1, ts, w1, r1, Wg.again q1 s1⟩⟩
theorem RelFs.look {K : PySem.W.Frag} {g : Gh} {H : Hp} (nd : Γ.fnm.Nodup) {f : Nat} {s : Str} (hs : Γ.fnm[f]? = some s) : ∀ {fs : List (Nat × T)} {vs : List (Str × V)}, RelFs Γ K g H fs vs →
    (∀ t, fs.lookup f = some t → ∃ v, vs.lookup s = some v ∧ RelT K g H t v) ∧ (fs.lookup f = none → vs.lookup s = none) := by
  intro fs vs h
  induction h with
  | nil => exact ⟨(fun t e => by cases e), fun _ => rfl⟩
  | @cons f' s' t' v' fs vs h1 h2 h3 ih =>
    by_cases e : f = f'
    · subst e
      rw [hs] at h1
      have es : s = s' := Option.some.inj h1
      subst es
      refine ⟨fun t q => ?_, fun q => ?_⟩
      · simp [List.lookup] at q
        subst q
        exact ⟨v', by simp [List.lookup], h2⟩
      · simp [List.lookup] at q
    · have es : s ≠ s' := fun z => by
        subst z
        have l1 := (List.getElem?_eq_some_iff.mp hs).1
        exact e ((List.getElem?_inj l1 nd).mp (hs.trans h1.symm))
      have b1 : (f == f') = false := by simpa using e
      have b2 : (s == s') = false := by simpa using es
      refine ⟨fun t q => ?_, fun q => ?_⟩
      · simp only [List.lookup, b1] at q
        obtain ⟨v, k1, k2⟩ := ih.1 t q
        exact ⟨v, by simp only [List.lookup, b2, k1], k2⟩
      · simp only [List.lookup, b1] at q
        simp only [List.lookup, b2]
        exact ih.2 q
theorem RelFs.no {K : PySem.W.Frag} {g : Gh} {H : Hp} {s : Str} (hs : s ∉ Γ.fnm) : ∀ {fs : List (Nat × T)} {vs : List (Str × V)}, RelFs Γ K g H fs vs → vs.lookup s = none := by
  intro fs vs h
  induction h with
  | nil => rfl
  | @cons f' s' t' v' fs vs h1 h2 h3 ih =>
    have es : s ≠ s' := fun z => by
      subst z
      exact hs (List.mem_of_getElem? h1)
    have b2 : (s == s') = false := by simpa using es
    simp only [List.lookup, b2]
    exact ih
theorem RelFs.length {K : PySem.W.Frag} {g : Gh} {H : Hp} : ∀ {fs : List (Nat × T)} {vs : List (Str × V)}, RelFs Γ K g H fs vs → fs.length = vs.length := by
  intro fs vs h
  induction h with
  | nil => rfl
  | cons _ _ _ ih => simp [ih]
theorem snd_fld {f : Nat} {s : Str} (F : Facts Γ X.K X.mg) (hs : Γ.fnm[f]? = some s) (ha : PE X o (tE Γ X.K n W a)) (hb : attributeBase o s X.env (eval o X.env) = eval o X.env) :
    PE X (.Attribute o s pos) (tE Γ X.K n W (.fld a f)) := by
  refine (pe_fld ha hb).imp fun σ H Q ⟨g, st, ρ, rp, q⟩ => ?_
  unfold ev at q
  refine ⟨g, st, ρ, rp, q.split fun x st1 g1 H1 v s1 w1 r1 q1 => ?_⟩
  obtain ⟨t, fl⟩ := x
  cases t with
  | loc k =>
    obtain ⟨p, rfl, ep⟩ := r1.rd.loc
    have q1' : Wg Γ X.K (RelR X.K H) (fun c d H' => W c d σ H') g H (match st1[k]? with | some (.ins c fs) => (M.of (fs.lookup f)).bind okv st1 | _ => .fail) Q := q1
    cases hc : st1[k]? with
    | none => rw [hc] at q1'; exact False.elim q1'
    | some cell =>
      rw [hc] at q1'
      cases cell with
      | lst ts => exact False.elim q1'
      | ins c fs =>
        have ce := w1.ce k _ p hc ep
        cases ce with
        | @ins _ dx _ C _ vs hC h1 h2 =>
          obtain ⟨t, et, q1'⟩ := Wg.some q1'
          obtain ⟨v, k1, k2⟩ := (RelFs.look F.nd hs h2).1 t et
          exact ⟨p, _, dx, vs, v, rfl, h1, (F.cl c C hC).1, F.na c C f s hC hs, k1, (Wg.again q1' s1).okv w1 k2⟩
  | _ => exact False.elim q1

/-! ### methods -/
theorem meth_core {mm : Nat} {s : Str} {args : List Expr} {pl : Sem Bool} (F : Facts Γ X.K X.mg) (C : CallsOk X.prog X.w X.K X.mg X.base Γ n) (hr : Room (n + 2) X.A) (tk : Takes X W) (hs : Γ.mnm[mm]? = some s) (ho : PE X o (tE Γ X.K n W a)) (ha : PA X args (tA Γ X.K n W m))
    (hcall : ∀ (pins : List (Addr × Obj)) (s1 : Shared) (σ : St) (H : Hp) (Q : VK) (q : Addr) (g : Addr), Inv X pins σ H s1 → PySem.W.keepIn X.K (.ref g) = true →
      tA Γ X.K n W m σ H (fun vs H2 => ∀ (us : List Value) s2, Inv X pins σ H2 s2 → Vals vs us → wpAny (model X.prog X.w) X.A (call (.ref g) (.ref q :: us)) (EP X pins σ Q) X.xe s2) →
      wpAny (model X.prog X.w) X.A (callWith pos (.ref g) [.ref q] (backTo pos (starEach args X.env)) (backToKw pos (keywordEach [] X.env))) (EP X pins σ Q) X.xe s1)
    (ht : eval (.Call (.Attribute o s apos) args [] pos) X.env = (do
      let ov ← eval o X.env
      standAt apos.atName
      let (f, first) ← holding [ov] (getMethod ov s pl)
      callWith pos f first (backTo pos (starEach args X.env)) (backToKw pos (keywordEach [] X.env)))) :
    PE X (.Call (.Attribute o s apos) args [] pos) (tE Γ X.K n W (.meth mm a m)) := by
  refine ⟨fun pins s0 σ H Q I h => ?_⟩
  obtain ⟨g, st, ρ, rp, q⟩ := h
  unfold ev at q
  refine methcall_of (pl := pl) ho I ?_ ht
  refine ⟨g, st, ρ, rp, q.split fun x st1 g1 H1 v s1 w1 r1 q1 => ?_⟩
  obtain ⟨t, fl⟩ := x
  cases t with
  | loc k =>
    obtain ⟨p, rfl, ep⟩ := r1.rd.loc
    have q1' : Wg Γ X.K (RelR X.K H) (fun c d H' => W c d σ H') g H (match st1[k]? with | some (.ins c fs) => (M.of ((Γ.cls[c]?).bind fun C => C.meths.lookup mm)).bind (fun f => (evA Γ (orc Γ n) m ρ).bind fun ts => (orc Γ n).c1 f (.loc k :: ts)) st1 | _ => .fail) Q := q1
    cases hc : st1[k]? with
    | none => rw [hc] at q1'; exact False.elim q1'
    | some cell =>
      rw [hc] at q1'
      cases cell with
      | lst ts => exact False.elim q1'
      | ins c fs =>
        have ce := w1.ce k _ p hc ep
        cases ce with
        | @ins _ dx _ CC _ vs hC h1 h2 =>
          obtain ⟨f, ef, q1'⟩ := Wg.some q1'
          have ef : CC.meths.lookup mm = some f := by rw [hC] at ef; exact ef
          have M := F.me c CC mm f s hC ef hs
          refine ⟨p, _, dx, vs, adrF Γ X.K f, rfl, h1, (F.cl c CC hC).1, M, RelFs.no (F.mf mm s hs) h2, fun s2 I2 => ?_⟩
          refine hcall pins s2 σ H1 Q p _ I2 M.kp ?_
          refine ⟨g1, st1, ρ, rp.step s1 w1, Wg.split (Wg.again q1' s1) fun ts st3 g3 H3 vs3 s3 w3 r3 q3 => fun us s4 I4 rv => ?_⟩
          cases hf : Γ.fds[f]? with
          | none =>
            have e0 : callF Γ n f (.loc k :: ts) st3 = .fail := by
              cases n with
              | zero => rfl
              | succ n => rw [callF_succ]; unfold runF; rw [hf]; rfl
            have q3' : Wg Γ X.K (RelR X.K H1) (fun c d H' => W c d σ H') g1 H1 (callF Γ n f (.loc k :: ts) st3) Q := q3
            rw [e0] at q3'
            exact False.elim q3'
          | some fd =>
            obtain ⟨fdat, ok, bnd⟩ := C f fd hf
            have el : g3.η[k]? = some p := (s3.mon w1).loc k p ep
            exact run_fnS (E := WE W) (us := .ref p :: us) (vs := .ref p :: vs3) ok hr bnd (passAt tk σ) I4 (.cons rfl rv) ⟨g3, st3, _, w3, .cons (.loc el) r3, Wg.again q3 s3⟩
  | _ => exact False.elim q1
theorem snd_meth {mm : Nat} {s : Str} {pl : Sem Bool} (F : Facts Γ X.K X.mg) (C : CallsOk X.prog X.w X.K X.mg X.base Γ n) (hr : Room (n + 2) X.A) (tk : Takes X W) (hs : Γ.mnm[mm]? = some s) (ho : PE X o (tE Γ X.K n W a)) (ha : PA X (e :: es) (tA Γ X.K n W m))
    (he : starEach (e :: es) X.env = (false, eval e X.env) :: starEach es X.env) (hpl : (backTo pos (starEach es X.env)).any (·.1) = false)
    (ht : eval (.Call (.Attribute o s apos) (e :: es) [] pos) X.env = (do
      let ov ← eval o X.env
      standAt apos.atName
      let (f, first) ← holding [ov] (getMethod ov s pl)
      callWith pos f first (backTo pos (starEach (e :: es) X.env)) (backToKw pos (keywordEach [] X.env)))) :
    PE X (.Call (.Attribute o s apos) (e :: es) [] pos) (tE Γ X.K n W (.meth mm a m)) := by
  refine meth_core F C hr tk hs ho ha (fun pins s1 σ H Q q g I kp h => ?_) ht
  refine PySem.W.callWith_K (first := [.ref q]) (h₀ := X.base) I.ok.mod.kin kp (thn (ha.run pos pins s1 σ H _ I h) fun us s2 ⟨vs, H2, I2, r, q2⟩ => ⟨I2.kIn, ?_⟩) he hpl
  exact q2 us s2 I2 r
theorem snd_meth0 {mm : Nat} {s : Str} {pl : Sem Bool} (F : Facts Γ X.K X.mg) (C : CallsOk X.prog X.w X.K X.mg X.base Γ n) (hr : Room (n + 2) X.A) (tk : Takes X W) (hs : Γ.mnm[mm]? = some s) (ho : PE X o (tE Γ X.K n W a))
    (ht : eval (.Call (.Attribute o s apos) [] [] pos) X.env = (do
      let ov ← eval o X.env
      standAt apos.atName
      let (f, first) ← holding [ov] (getMethod ov s pl)
      callWith pos f first (backTo pos (starEach [] X.env)) (backToKw pos (keywordEach [] X.env)))) :
    PE X (.Call (.Attribute o s apos) [] [] pos) (tE Γ X.K n W (.meth mm a .nil)) := by
  refine meth_core F C hr tk hs ho snd_nilA (fun pins s1 σ H Q q g I kp h => ?_) ht
  obtain ⟨g0, st, ρ, rp, q0⟩ := h
  exact PySem.W.callWith_K0 (first := [.ref q]) I.kIn kp (q0 g0 H [] Step.refl rp.wf .nil [] s1 I .nil)
end
end G

set_option Elab.async false
set_option linter.all false
set_option maxRecDepth 100000
set_option maxHeartbeats 1000000
/-! New instances; index. -/
namespace G
open PySem PySem.Spec PyProof.Rows L2

section
variable {Γ : Gam} {X : Cx} {n : Nat} {W : WX} {pos p apos : Pos} {l r e o : Expr} {a b c : E} {es : List Expr} {m : EL}

theorem run_makeS {CX : CXT} {k : Nat} {C f : Addr} {fd : FuncData} {ps : List Str} {sp : Sp} {E : XK} {pins : List (Addr × Obj)} {σ : St} {H : Hp} {s : Shared} {Q : VK} {us : List Value} {vs : List V} (M : Mk X.K C f) (F : FnOk X.prog X.w X.K X.mg X.base CX k f fd ps sp) (hr : Room (k + 1) X.A) (hb : Binds X.K fd ps [])
    (hx : PassesAt CX X σ E) (I : Inv X pins σ H s) (r : Vals vs us)
    (h : ∀ x dx, H x = none → H dx = none → dx ≠ x → sp (.ref x :: vs) (upd (upd H dx (.own x)) x (.ins C dx [])) (fun v H2 => v = .non ∧ Q (.ref x) H2) E) :
    wpAny (model X.prog X.w) X.A (call (.ref C) us) (EP X pins σ Q) X.xe s := by
  have hq := h (s.heap.objs.size + 1) s.heap.objs.size (I.hok.fresh (Nat.le_succ _)) (I.hok.fresh (Nat.le_refl _)) (Nat.ne_of_lt (Nat.lt_succ_self _))
  have I2 := Inv.made (C := C) I
  have r2 : Vals (V.ref (s.heap.objs.size + 1) :: vs) (Value.ref (s.heap.objs.size + 1) :: us) := .cons rfl r
  have hl : (Value.ref (s.heap.objs.size + 1) :: us).length = ps.length := by
    have e := r2.length
    rw [F.len _ _ _ _ hq] at e
    exact e.symm
  have b := hb _ (Value.ref (s.heap.objs.size + 1) :: us) I2.kIn (by rw [List.append_nil]; exact hl)
  rw [List.append_nil] at b
  refine wpAny_call (make_map (f := f) I.kIn M.makes M.init (beq_iff_eq.mp M.fn) (codeAny_mono (F.run _ X.stack _ _ ⟨Value.ref (s.heap.objs.size + 1) :: us, []⟩ (Value.ref (s.heap.objs.size + 1) :: us) _ _ E (hr.make C us [])
    (I2.env0.make C us []) b r2 hq) fun r s' hq' => ?_))
  cases r with
  | error e => exact hx pins _ _ e s' I2 hq'
  | ok fl =>
    cases fl with
    | ret u =>
      obtain ⟨v, H', I3, rv, ev, q3⟩ := I2.after hq'
      subst ev
      exact ⟨rv, ⟨V.ref (s.heap.objs.size + 1), H', I3, rfl, q3⟩⟩
    | next => exact False.elim hq'
    | brk => exact False.elim hq'
    | cont => exact False.elim hq'
/-- what the evaluator's new instance promises -/
theorem mk_core {ci : Nat} {C : CD} {pins : List (Addr × Obj)} {σ : St} {H1 : Hp} {s1 : Shared} {Q : VK} {us : List Value} {vs : List V} {g1 : Gh} {st1 : Store} {ts : List T}
    (F : Facts Γ X.K X.mg) (CO : CallsOk X.prog X.w X.K X.mg X.base Γ (n - 1)) (hr : Room (n + 2) X.A) (tk : Takes X W) (hC : Γ.cls[ci]? = some C) (I : Inv X pins σ H1 s1) (rv : Vals vs us) (w1 : WF Γ X.K g1 st1 H1) (r1 : RelTs X.K g1 H1 ts vs)
    (q : Wg Γ X.K (RelR X.K H1) (fun c d H' => W c d σ H') g1 H1 (M.bind (callF Γ (n - 1) C.init (.loc st1.length :: ts)) (fun r => match r.1 with | .non => okv (.loc st1.length) | _ => .fail) (st1 ++ [.ins ci []])) Q) :
    wpAny (model X.prog X.w) X.A (call (.ref (clsA Γ X.K ci)) us) (EP X pins σ Q) X.xe s1 := by
  obtain ⟨hc1, hc2, hc3⟩ := F.cl ci C hC
  cases n with
  | zero => exact False.elim q
  | succ n =>
    have q : Wg Γ X.K (RelR X.K H1) (fun c d H' => W c d σ H') g1 H1 (M.bind (callF Γ n C.init (.loc st1.length :: ts)) (fun r => match r.1 with | .non => okv (.loc st1.length) | _ => .fail) (st1 ++ [.ins ci []])) Q := q
    cases hf : Γ.fds[C.init]? with
    | none =>
      have e0 : callF Γ n C.init (.loc st1.length :: ts) (st1 ++ [.ins ci []]) = .fail := by
        cases n with
        | zero => rfl
        | succ n => rw [callF_succ]; unfold runF; rw [hf]; rfl
      rw [bind_fail e0] at q
      exact False.elim q
    | some fd =>
      obtain ⟨fdat, ok, bnd⟩ := CO C.init fd hf
      refine run_makeS hc3 ok hr bnd (passAt tk σ) I rv fun x dx hx hdx hne => ?_
      have wa := w1.alloc (a := dx) (o := .own x) hdx
      have sa : Step g1 H1 g1 (upd H1 dx (.own x)) := Step.alloc hdx
      have hx' : upd H1 dx (.own x) x = none := by rw [upd_ne (fun z => hne z.symm)]; exact hx
      have ms := more_step (g := g1) (o := .ins (clsA Γ X.K ci) dx []) hx'
      have wm := more_wf (X := X) wa hx' (CellAt.ins (Γ := Γ) (K := X.K) (g := g1.more x) (dx := dx) (fs := []) hC upd_same .nil)
      have sm := sa.trans ms
      have el : (g1.more x).η[st1.length]? = some x := by
        show (g1.η ++ [x])[st1.length]? = some x
        rw [w1.len]; simp
      refine ⟨g1.more x, _, .loc st1.length :: ts, wm, .cons (.loc el) (r1.step sm w1), ?_⟩
      refine Wg.split (q.restart sm fun _ _ _ _ z => z) fun rr st3 g3 H3 v s3 w3 r3 q3 => ?_
      obtain ⟨t, fl⟩ := rr
      cases t with
      | non =>
        refine ⟨r3.rd.non, ?_⟩
        exact q3 g3 H3 (.ref x) s3 w3 (.loc ((s3.mon wm).loc _ _ el))
      | _ => exact False.elim q3
theorem snd_mk {ci : Nat} {C : CD} {x : Str} (F : Facts Γ X.K X.mg) (CO : CallsOk X.prog X.w X.K X.mg X.base Γ (n - 1)) (hr : Room (n + 2) X.A) (tk : Takes X W) (hC : Γ.cls[ci]? = some C) (hx : x = C.name) (hg : Gl X x) (hdb : (x == ("__debug__" : Str)) = false)
    (ha : PA X (e :: es) (tA Γ X.K n W m)) (he : starEach (e :: es) X.env = (false, eval e X.env) :: starEach es X.env) (hpl : (backTo pos (starEach es X.env)).any (·.1) = false) : PE X (.Call (.Name x p) (e :: es) [] pos) (tE Γ X.K n W (.mk ci m)) := by
  subst hx
  obtain ⟨hc1, hc2, hc3⟩ := F.cl ci C hC
  refine ⟨fun pins s σ H Q I ⟨g, st, ρ, rp, q⟩ => ?_⟩
  unfold ev at q
  obtain ⟨C', e1, q⟩ := Wg.some q
  rw [hC] at e1
  cases e1
  refine wpAny_Call_Name_kw (ld_glob I hg hc2 ?_ hdb)
  have ht : tA Γ X.K n W m σ H fun vs H1 => ∀ (us : List Value) (s1 : Shared), Inv X pins σ H1 s1 → Vals vs us → wpAny (model X.prog X.w) X.A (call (.ref (clsA Γ X.K ci)) us) (EP X pins σ Q) X.xe s1 := by
    refine ⟨g, st, ρ, rp, q.split fun ts st1 g1 H1 vs s1 w1 r1 q1 => ?_⟩
    intro us s2 I2 rv
    exact mk_core F CO hr tk hC I2 rv w1 r1 (Wg.again q1 s1)
  refine PySem.W.callWith_K (h₀ := X.base) I.ok.mod.kin hc3.kp (thn (ha.run pos pins s σ H _ I ht) fun us s1 ⟨vs, H1, I1, r, q⟩ => ⟨I1.kIn, ?_⟩) he hpl
  exact q us s1 I1 r
theorem snd_mk0 {ci : Nat} {C : CD} {x : Str} (F : Facts Γ X.K X.mg) (CO : CallsOk X.prog X.w X.K X.mg X.base Γ (n - 1)) (hr : Room (n + 2) X.A) (tk : Takes X W) (hC : Γ.cls[ci]? = some C) (hx : x = C.name) (hg : Gl X x) (hdb : (x == ("__debug__" : Str)) = false) :
    PE X (.Call (.Name x p) [] [] pos) (tE Γ X.K n W (.mk ci .nil)) := by
  subst hx
  obtain ⟨hc1, hc2, hc3⟩ := F.cl ci C hC
  refine ⟨fun pins s σ H Q I ⟨g, st, ρ, rp, q⟩ => ?_⟩
  unfold ev at q
  obtain ⟨C', e1, q⟩ := Wg.some q
  rw [hC] at e1
  cases e1
  refine wpAny_Call_Name_kw (ld_glob I hg hc2 ?_ hdb)
  refine PySem.W.callWith_K0 I.kIn hc3.kp ?_
  have q' : Wg Γ X.K (RelR X.K H) (fun c d H' => W c d σ H') g H (M.bind (callF Γ (n - 1) C.init (.loc st.length :: [])) (fun r => match r.1 with | .non => okv (.loc st.length) | _ => .fail) (st ++ [.ins ci []])) Q := q
  exact mk_core (us := []) (vs := []) (ts := []) F CO hr tk hC I .nil rp.wf .nil q'

/-! ### index -/
theorem strs_of {K : PySem.W.Frag} {g : Gh} {H : Hp} : ∀ {ts : List T} {vs : List V} {us : List Value} {l : List (List Nat)}, RelTs K g H ts vs → Vals vs us → T.strs? ts = some l → StrsAre us (l.map toS) := by
  intro ts
  induction ts with
  | nil =>
    intro vs us l h hv e
    cases h; cases hv
    have e' : some [] = some l := e
    cases e'
    exact .nil
  | cons t ts ih =>
    intro vs us l h hv e
    cases h with
    | cons a b =>
      cases hv with
      | cons rv hv =>
        cases t with
        | str x =>
          have e' : (T.strs? ts).map (x :: ·) = some l := e
          cases q : T.strs? ts with
          | none => rw [q] at e'; cases e'
          | some ms =>
            rw [q] at e'
            cases e'
            cases a
            obtain ⟨tk, rfl⟩ := rv
            exact .cons _ _ (ih b hv q)
        | _ => cases e
theorem idx_toS {c : List Nat} : ∀ {l : List (List Nat)}, (l.map toS).idxOf (toS c) = l.idxOf c
  | [] => rfl
  | x :: r => by
    by_cases e : x = c
    · subst e; simp [List.idxOf_cons]
    · have e2 : toS x ≠ toS c := fun z => e (toS_inj z)
      have b1 : (x == c) = false := by simpa using e
      have b2 : (toS x == toS c) = false := by simpa using e2
      simp [List.idxOf_cons, b1, b2, idx_toS (l := r)]
theorem mem_toS {c : List Nat} {l : List (List Nat)} (h : c ∈ l) : toS c ∈ l.map toS := List.mem_map_of_mem h
theorem strs_len {ts : List T} : ∀ {l : List (List Nat)}, T.strs? ts = some l → l.length = ts.length := by
  induction ts with
  | nil => intro l e; have e' : some [] = some l := e; cases e'; rfl
  | cons t ts ih =>
    intro l e
    cases t with
    | str x =>
      have e' : (T.strs? ts).map (x :: ·) = some l := e
      cases q : T.strs? ts with
      | none => rw [q] at e'; cases e'
      | some ms =>
        rw [q] at e'
        cases e'
        simp [ih q]
    | _ => cases e
/-- the reading of a method of a built-in -/
def rMt (Γ : Gam) (K : PySem.W.Frag) (F : T → List T → M G.R) : V → List V → Hp → VK → Prop := fun x vs H Q => ∃ g st t ts E, WF Γ K g st H ∧ RelRd K g H t x ∧ RelRds K g H ts vs ∧ Wg Γ K (RelR K H) E g H (F t ts st) Q
theorem rds_one {K : PySem.W.Frag} {g : Gh} {H : Hp} {t : T} {vs : List V} (h : RelRds K g H [t] vs) : ∃ v, vs = [v] ∧ RelRd K g H t v := by
  cases h with
  | cons a b => cases b; exact ⟨_, rfl, a⟩
theorem mt_li : MtR X "list.index" (rMt Γ X.K (evMt .lindex)) := by
  intro pins s σ H x xs v us Q I rx rxs h
  obtain ⟨g, st, t, ts, E, w, rt, rts, q⟩ := h
  cases t with
  | lst ys =>
    match ts, rts, q with
    | [.str c], rts, q =>
      obtain ⟨v1, rfl, rc⟩ := rds_one rts
      cases rc.str
      obtain ⟨a, zs, rfl, k1, n1, b1⟩ := rt.lst w
      obtain ⟨l, el, q⟩ := Wg.some q
      cases rx
      obtain ⟨u1, rfl, ru⟩ := vals1 rxs
      obtain ⟨tk, rfl⟩ := ru
      by_cases hc : c ∈ l
      · rw [if_pos hc] at q
        obtain ⟨its, rv, pl, hlen⟩ := I.list (SqL.of k1)
        refine SeqAt.list_index_strs pl.isList (strs_of b1 rv el) (by rw [List.length_map, strs_len el, b1.length]; exact hlen) (mem_toS hc) ⟨.int ((l.map toS).idxOf (toS c) : Nat), H, I.tok _, ⟨_, rfl⟩, ?_⟩
        rw [idx_toS]
        exact q.okv w (.int _)
      · rw [if_neg hc] at q; exact False.elim q
    | [], _, q => exact False.elim q
    | _ :: _ :: _, _, q => exact False.elim (by rename_i a b r _; cases a <;> exact q)
    | [.non], _, q => exact False.elim q
    | [.bl _], _, q => exact False.elim q
    | [.int _], _, q => exact False.elim q
    | [.byt _], _, q => exact False.elim q
    | [.tup _], _, q => exact False.elim q
    | [.lst _], _, q => exact False.elim q
    | [.scr _], _, q => exact False.elim q
    | [.loc _], _, q => exact False.elim q
    | [.met _ _], _, q => exact False.elim q
  | _ => exact False.elim (by cases ts <;> exact q)
theorem mt_ti : MtR X "tuple.index" (rMt Γ X.K (evMt .tindex)) := by
  intro pins s σ H x xs v us Q I rx rxs h
  obtain ⟨g, st, t, ts, E, w, rt, rts, q⟩ := h
  cases t with
  | tup ys =>
    match ts, rts, q with
    | [.str c], rts, q =>
      obtain ⟨v1, rfl, rc⟩ := rds_one rts
      cases rc.str
      obtain ⟨a, zs, rfl, k1, b1⟩ := rt.tup'
      obtain ⟨l, el, q⟩ := Wg.some q
      cases rx
      obtain ⟨u1, rfl, ru⟩ := vals1 rxs
      obtain ⟨tk, rfl⟩ := ru
      by_cases hc : c ∈ l
      · rw [if_pos hc] at q
        obtain ⟨its, rv, pl, hlen⟩ := I.tuple k1
        refine SeqAt.tuple_index_strs pl (strs_of b1 rv el) (mem_toS hc) ⟨.int ((l.map toS).idxOf (toS c) : Nat), H, I.tok _, ⟨_, rfl⟩, ?_⟩
        rw [idx_toS]
        exact q.okv w (.int _)
      · rw [if_neg hc] at q; exact False.elim q
    | [], _, q => exact False.elim q
    | _ :: _ :: _, _, q => exact False.elim (by rename_i a b r _; cases a <;> exact q)
    | [.non], _, q => exact False.elim q
    | [.bl _], _, q => exact False.elim q
    | [.int _], _, q => exact False.elim q
    | [.byt _], _, q => exact False.elim q
    | [.tup _], _, q => exact False.elim q
    | [.lst _], _, q => exact False.elim q
    | [.scr _], _, q => exact False.elim q
    | [.loc _], _, q => exact False.elim q
    | [.met _ _], _, q => exact False.elim q
  | _ => exact False.elim (by cases ts <;> exact q)
theorem idx_first {c i : Nat} {l : List Nat} (h : l[i]? = some c) (hn : ∀ k, k < i → l[k]? ≠ some c) : l.idxOf c = i := by
  induction l generalizing i with
  | nil => simp at h
  | cons x r ih =>
    cases i with
    | zero =>
      have e : x = c := by simpa using h
      subst e; simp [List.idxOf_cons]
    | succ i =>
      have e : x ≠ c := fun z => hn 0 (Nat.succ_pos _) (by simp [z])
      have b : (x == c) = false := by simpa using e
      rw [List.idxOf_cons, b]
      simp only [cond_false]
      rw [ih (by simpa using h) fun k hk => by have := hn (k + 1) (Nat.succ_lt_succ hk); simpa using this]
theorem mt_si : MtR X "str.index" (rMt Γ X.K (evMt .sindex)) := by
  intro pins s σ H x xs v us Q I rx rxs h
  obtain ⟨g, st, t, ts, E, w, rt, rts, q⟩ := h
  cases t with
  | str l =>
    match ts, rts, q with
    | [.str [c]], rts, q =>
      obtain ⟨v1, rfl, rc⟩ := rds_one rts
      cases rc.str
      cases rt.str
      have q' : Wg Γ X.K (RelR X.K H) E g H ((if c ∈ l then okv (.int (l.idxOf c : Nat)) else M.fail : M G.R) st) Q := q
      by_cases hc : c ∈ l
      · rw [if_pos hc] at q'
        rcases StrLaws.occ_head (toS l) ⟨#[c]⟩ 1 (Nat.le_refl 1) with ⟨_, hn⟩ | ⟨i, r, h0, hi, hn⟩
        · obtain ⟨j, hj⟩ := List.getElem?_of_mem hc
          exact absurd ((StrLaws.subAt_one (toS l) c j).mpr hj) (hn j)
        · refine mt_sindex pins s σ H _ _ v us Q I rx rxs ⟨_, _, i, r, rfl, rfl, h0, ?_⟩
          have e : l.idxOf c = i := idx_first ((StrLaws.subAt_one (toS l) c i).mp hi) fun k hk z => hn k hk ((StrLaws.subAt_one (toS l) c k).mpr z)
          rw [← e]
          exact q'.okv w (.int _)
      · rw [if_neg hc] at q'; exact False.elim q'
    | [], _, q => exact False.elim q
    | _ :: _ :: _, _, q =>
      rename_i a b r _
      refine False.elim ?_
      cases a with
      | str z => match z with
        | [] => exact q
        | [_] => exact q
        | _ :: _ :: _ => exact q
      | _ => exact q
    | [.str []], _, q => exact False.elim q
    | [.str (_ :: _ :: _)], _, q => exact False.elim q
    | [.non], _, q => exact False.elim q
    | [.bl _], _, q => exact False.elim q
    | [.int _], _, q => exact False.elim q
    | [.byt _], _, q => exact False.elim q
    | [.tup _], _, q => exact False.elim q
    | [.lst _], _, q => exact False.elim q
    | [.scr _], _, q => exact False.elim q
    | [.loc _], _, q => exact False.elim q
    | [.met _ _], _, q => exact False.elim q
  | _ => exact False.elim (by cases ts <;> exact q)
theorem snd_li {o : Expr} (ho : PE X o (tE Γ X.K n W a)) (ha : PA X (e :: es) (tR Γ X.K n W m))
    (hbase : attributeBase o "index" X.env (eval o X.env) = eval o X.env)
    (hfew : ((backTo pos (starEach (e :: es) X.env)).all (fun x => !x.1) && (backToKw pos (keywordEach [] X.env)).all (fun x => x.1.isSome)
      && decide ((e :: es).length + ([] : List Keyword).length + (if ([] : List Keyword).isEmpty then 0 else 1) < 30)) = true)
    (hline : (apos.endLine == pos.line) = true) (hs : starEach (e :: es) X.env = (false, eval e X.env) :: starEach es X.env) (hplain : (backTo pos (starEach es X.env)).any (·.1) = false) :
    PE X (.Call (.Attribute o "index" apos) (e :: es) [] pos) (tE Γ X.K n W (.mt .lindex a m)) := by
  refine (pe_bm PySem.F.plainAttrs_list PySem.F.slot_list_index PySem.F.type_list_index (mt_li (Γ := Γ)) ho ha hbase hfew hline hs hplain).imp fun σ H Q ⟨g, st, ρ, rp, q⟩ => ?_
  unfold ev at q
  refine ⟨g, st, ρ, rp, q.split fun x st1 g1 H1 v s1 w1 r1 q1 => ?_⟩
  obtain ⟨t, fl⟩ := x
  cases t with
  | lst ts =>
    obtain ⟨p, xs, rfl, k1, n1, b1⟩ := r1.rd.lst w1
    refine ⟨.inl ⟨rfl, xs, SqL.of k1⟩, ?_⟩
    refine ⟨g1, st1, ρ, rp.step s1 w1, Wg.split (Wg.again q1 s1) fun ys st3 g3 H3 vs s3 w3 r3 q3 => ?_⟩
    exact ⟨g3, st3, _, ys, _, w3, r1.rd.step s3 w1, r3, Wg.again q3 s3⟩
  | _ => exact False.elim q1
theorem snd_si {o : Expr} (ho : PE X o (tE Γ X.K n W a)) (ha : PA X (e :: es) (tR Γ X.K n W m))
    (hbase : attributeBase o "index" X.env (eval o X.env) = eval o X.env)
    (hfew : ((backTo pos (starEach (e :: es) X.env)).all (fun x => !x.1) && (backToKw pos (keywordEach [] X.env)).all (fun x => x.1.isSome)
      && decide ((e :: es).length + ([] : List Keyword).length + (if ([] : List Keyword).isEmpty then 0 else 1) < 30)) = true)
    (hline : (apos.endLine == pos.line) = true) (hs : starEach (e :: es) X.env = (false, eval e X.env) :: starEach es X.env) (hplain : (backTo pos (starEach es X.env)).any (·.1) = false) :
    PE X (.Call (.Attribute o "index" apos) (e :: es) [] pos) (tE Γ X.K n W (.mt .sindex a m)) := by
  refine (pe_bm PySem.F.plainAttrs_str PySem.F.slot_str_index PySem.F.type_str_index (mt_si (Γ := Γ)) ho ha hbase hfew hline hs hplain).imp fun σ H Q ⟨g, st, ρ, rp, q⟩ => ?_
  unfold ev at q
  refine ⟨g, st, ρ, rp, q.split fun x st1 g1 H1 v s1 w1 r1 q1 => ?_⟩
  obtain ⟨t, fl⟩ := x
  cases t with
  | str l =>
    cases r1.rd.str
    refine ⟨rfl, ?_⟩
    refine ⟨g1, st1, ρ, rp.step s1 w1, Wg.split (Wg.again q1 s1) fun ys st3 g3 H3 vs s3 w3 r3 q3 => ?_⟩
    exact ⟨g3, st3, _, ys, _, w3, r1.rd.step s3 w1, r3, Wg.again q3 s3⟩
  | _ => exact False.elim q1
theorem snd_ti {k : Nat} {x : Str} {t : T} {p2 : Pos} (F : Facts Γ X.K X.mg) (hk : Γ.gls[k]? = some (x, t)) (hg : Gl X x) (hd : (x == ("__debug__" : Str)) = false) (ha : PA X (e :: es) (tR Γ X.K n W m))
    (hbase : attributeBase (.Name x p2) "index" X.env (eval (.Name x p2) X.env) = eval (.Name x p2) X.env)
    (hfew : ((backTo pos (starEach (e :: es) X.env)).all (fun x => !x.1) && (backToKw pos (keywordEach [] X.env)).all (fun x => x.1.isSome)
      && decide ((e :: es).length + ([] : List Keyword).length + (if ([] : List Keyword).isEmpty then 0 else 1) < 30)) = true)
    (hline : (apos.endLine == pos.line) = true) (hs : starEach (e :: es) X.env = (false, eval e X.env) :: starEach es X.env) (hplain : (backTo pos (starEach es X.env)).any (·.1) = false) :
    PE X (.Call (.Attribute (.Name x p2) "index" apos) (e :: es) [] pos) (tE Γ X.K n W (.mt .tindex (.g k) m)) := by
  obtain ⟨u, v, hm, rv, rt⟩ := F.gls k x t hk
  refine (pe_bm PySem.F.plainAttrs_tuple PySem.F.slot_tuple_index PySem.F.type_tuple_index (mt_ti (Γ := Γ)) (pe_glob hg hm rv hd) ha hbase hfew hline hs hplain).imp fun σ H Q ⟨g, st, ρ, rp, q⟩ => ?_
  unfold ev at q
  have q : Wg Γ X.K (RelR X.K H) (fun c d H' => W c d σ H') g H (M.bind (ev Γ (orc Γ n) (.g k) ρ) (fun x => if mtOk .tindex x.1 = true then (evRs Γ (orc Γ n) m ρ).bind fun ts => evMt .tindex x.1 ts else .fail) st) Q := q
  have e0 : ev Γ (orc Γ n) (.g k) ρ st = .ok (t, .va) st := by unfold ev; rw [hk]; rfl
  rw [bind_ok e0] at q
  cases t with
  | tup ts =>
    obtain ⟨a, o, rfl, h1, h2, h3⟩ := F.gt k x ts u hk hm
    have r0 := rt g H
    cases r0 with
    | @tup a' xs _ k1 b1 =>
      have ea : a' = a := by cases rv; rfl
      subst ea
      refine ⟨.inr (.inl ⟨rfl, o, h1, h2, h3⟩), g, st, ρ, rp, Wg.split q fun ys st3 g3 H3 vs s3 w3 r3 q3 => ?_⟩
      exact ⟨g3, st3, _, ys, _, w3, .inl (rt g3 H3), r3, Wg.again q3 s3⟩
  | _ => exact False.elim q
end
end G

set_option Elab.async false
set_option linter.all false
set_option maxRecDepth 100000
set_option maxHeartbeats 1000000
/-! Targets, iteration, comprehensions. -/
namespace G
open PySem PySem.Spec PyProof.Rows L2

/-! ### a list of one's own -/
section
variable {Γ : Gam} {K : PySem.W.Frag} {g g1 g' : Gh} {st st' : Store} {H H1 H' : Hp}
theorem Mono.own {D : Addr} {xs ys : List V} (h : H D = some (.lst xs)) (nF : ¬ g.F D) : Mono K g H g (upd H D (.lst ys)) := by
  have ne : ∀ b o, H b = some o → (∀ zs, o ≠ .lst zs) → b ≠ D := fun b o hb hz e => by
    subst e
    rw [h] at hb
    cases hb
    exact hz xs rfl
  refine ⟨fun b zs f hb => ⟨f, ?_⟩, fun b zs hb => ?_, fun b zs hb => ?_, fun _ _ h => h⟩
  · rw [upd_ne (fun e => nF (by rw [← e]; exact f))]; exact hb
  · rcases hb with (hb | ⟨o, hb⟩) | hb
    · exact .inl (.inl (by rw [upd_ne (ne _ _ hb (fun _ z => nomatch z))]; exact hb))
    · exact .inl (.inr ⟨o, by rw [upd_ne (ne _ _ hb (fun _ z => nomatch z))]; exact hb⟩)
    · exact .inr hb
  · rcases hb with ⟨o, hb⟩ | hb
    · exact .inl ⟨o, by rw [upd_ne (ne _ _ hb (fun _ z => nomatch z))]; exact hb⟩
    · exact .inr hb
theorem WF.own {D : Addr} {xs ys : List V} (w : WF Γ K g st H) (h : H D = some (.lst xs)) (nF : ¬ g.F D) (nη : D ∉ g.η) : WF Γ K g st (upd H D (.lst ys)) := by
  refine ⟨fun b f => ?_, w.nd, w.len, fun k c b h1 h2 => (w.ce k c b h1 h2).mono (Mono.own h nF) fun o ho => ?_⟩
  · obtain ⟨⟨zs, hb⟩, h2⟩ := w.fl b f
    exact ⟨⟨zs, by rw [upd_ne (fun e => nF (by rw [← e]; exact f))]; exact hb⟩, h2⟩
  · rw [upd_ne (fun e => nη (by rw [← e]; exact List.mem_of_getElem? h2))]; exact ho
theorem Step.own {g0 : Gh} {H0 : Hp} {D : Addr} {o o' : HO} (s : Step g0 H0 g H) (h : H D = some o) (n0 : H0 D = none) : Step g0 H0 g (upd H D o') := by
  refine ⟨s.mono, s.new, s.ext, fun b u hb hη => ?_, fun b u hb => ?_⟩
  · rw [upd_ne (ne_of_none hb n0)]; exact s.keep b u hb hη
  · obtain ⟨u', hu⟩ := s.dom b u hb
    exact ⟨u', by rw [upd_ne (ne_of_none hb n0)]; exact hu⟩
theorem Mono.refl : Mono K g H g H := ⟨fun _ _ f h => ⟨f, h⟩, fun _ _ h => h, fun _ _ h => h, fun _ _ h => h⟩
theorem Mono.trans {g2 : Gh} {H2 : Hp} (m : Mono K g H g1 H1) (m' : Mono K g1 H1 g2 H2) : Mono K g H g2 H2 :=
  ⟨fun a xs f h => let ⟨f1, h1⟩ := m.lst a xs f h; m'.lst a xs f1 h1, fun a xs h => m'.tup a xs (m.tup a xs h), fun a xs h => m'.scr a xs (m.scr a xs h), fun n a h => m'.loc n a (m.loc n a h)⟩
end

/-! ### targets -/
mutual
def Tg.vars : Tg → List Nat
  | .n i => [i]
  | .tup a => a.vars
def TgL.vars : TgL → List Nat
  | .nil => []
  | .cons a r => a.vars ++ r.vars
end
def TgL.len : TgL → Nat
  | .nil => 0
  | .cons _ r => r.len + 1
inductive Sets (K : PySem.W.Frag) (g : Gh) (H : Hp) (I : List Nat) : Ro → St → Ro → St → Prop
  | refl {ρ : Ro} {σ : St} : Sets K g H I ρ σ ρ σ
  | step {ρ ρ' : Ro} {σ σ' : St} {i : Nat} {t : T} {v : V} : i ∈ I → RelT K g H t v → Sets K g H I (ρ.set i (.va t)) (σ.set i (some v)) ρ' σ' → Sets K g H I ρ σ ρ' σ'
section
variable {Γ : Gam} {K : PySem.W.Frag} {g g1 g' : Gh} {st st' : Store} {H H1 H' : Hp} {ρ ρ' ρ1 : Ro} {σ σ' σ1 : St} {I J : List Nat}
theorem Sets.trans (a : Sets K g H I ρ σ ρ1 σ1) (b : Sets K g H I ρ1 σ1 ρ' σ') : Sets K g H I ρ σ ρ' σ' := by
  induction a with
  | refl => exact b
  | step h1 h2 _ ih => exact .step h1 h2 (ih b)
theorem Sets.sub (h : ∀ i ∈ I, i ∈ J) (a : Sets K g H I ρ σ ρ' σ') : Sets K g H J ρ σ ρ' σ' := by
  induction a with
  | refl => exact .refl
  | step h1 h2 _ ih => exact .step (h _ h1) h2 ih
theorem RepE.put {i : Nat} {t : T} {v : V} (r : RepE Γ K g st ρ σ H) (h : RelT K g H t v) : RepE Γ K g st (ρ.set i (.va t)) (σ.set i (some v)) H := by
  refine ⟨r.wf, by rw [List.length_set, List.length_set]; exact r.len, fun j u e => ?_, fun j u e => ?_⟩
  · by_cases hij : i = j
    · subst hij
      have hl : i < ρ.length := by
        have := (List.getElem?_eq_some_iff.mp e).1
        rwa [List.length_set] at this
      rw [List.getElem?_set_self hl] at e
      cases e
      exact ⟨v, List.getElem?_set_self (by rw [← r.len]; exact hl), h⟩
    · rw [List.getElem?_set_ne hij] at e ⊢
      exact r.va j u e
  · by_cases hij : i = j
    · subst hij
      have hl : i < ρ.length := by
        have := (List.getElem?_eq_some_iff.mp e).1
        rwa [List.length_set] at this
      rw [List.getElem?_set_self hl] at e
      cases e
    · rw [List.getElem?_set_ne hij] at e ⊢
      exact r.ow j u e
theorem RepE.sets (r : RepE Γ K g st ρ σ H) (a : Sets K g H I ρ σ ρ' σ') : RepE Γ K g st ρ' σ' H := by
  induction a with
  | refl => exact r
  | step h1 h2 _ ih => exact ih (r.put h2)
theorem wipe_set {i : Nat} {x : Option V} : ∀ {vs : List Nat} {σ : St}, i ∈ vs → wipe (σ.set i x) vs = wipe σ vs := by
  intro vs
  induction vs with
  | nil => intro σ h; cases h
  | cons v vs ih =>
    intro σ h
    unfold wipe
    by_cases hm : i ∈ vs
    · rw [ih hm]
    · have e : i = v := by
        rcases List.mem_cons.mp h with e | h
        · exact e
        · exact absurd h hm
      subst e
      clear ih h
      have q : ∀ (vs : List Nat) (σ : St), i ∉ vs → wipe (σ.set i x) vs = (wipe σ vs).set i x := by
        intro vs
        induction vs with
        | nil => intro σ _; rfl
        | cons u us ih =>
          intro σ h
          simp only [List.mem_cons, not_or] at h
          unfold wipe
          rw [ih σ h.2, List.set_comm _ _ h.1]
      rw [q vs σ hm, List.set_set]
theorem Sets.wipe (a : Sets K g H I ρ σ ρ' σ') {vs : List Nat} (h : ∀ i ∈ I, i ∈ vs) : L2.wipe σ' vs = L2.wipe σ vs := by
  induction a with
  | refl => rfl
  | step h1 h2 _ ih => rw [ih]; exact wipe_set (h _ h1)
theorem wipeR_len : ∀ {vs : List Nat}, (wipeR ρ vs).length = ρ.length
  | [] => rfl
  | v :: vs => by unfold wipeR; rw [List.length_set, wipeR_len (vs := vs)]
theorem wipeR_get {i : Nat} : ∀ {vs : List Nat}, i ∉ vs → (wipeR ρ vs)[i]? = ρ[i]?
  | [], _ => rfl
  | v :: vs, h => by
    simp only [List.mem_cons, not_or] at h
    unfold wipeR
    rw [List.getElem?_set_ne (fun e => h.1 e.symm), wipeR_get h.2]
theorem wipeR_un {i : Nat} {s : Sl} : ∀ {vs : List Nat}, i ∈ vs → (wipeR ρ vs)[i]? = some s → s = .un
  | v :: vs, h, e => by
    unfold wipeR at e
    by_cases hv : v = i
    · subst hv
      have hl := (List.getElem?_eq_some_iff.mp e).1
      rw [List.length_set] at hl
      rw [List.getElem?_set_self hl] at e
      cases e; rfl
    · rw [List.getElem?_set_ne hv] at e
      rcases List.mem_cons.mp h with z | h
      · exact absurd z.symm hv
      · exact wipeR_un h e
theorem RepE.wipe {vs : List Nat} (r : RepE Γ K g st ρ σ H) : RepE Γ K g st (wipeR ρ vs) (L2.wipe σ vs) H := by
  refine ⟨r.wf, by rw [wipeR_len, wipe_length]; exact r.len, fun i t e => ?_, fun i t e => ?_⟩
  · by_cases hi : i ∈ vs
    · cases wipeR_un hi e
    · rw [wipeR_get hi] at e
      rw [wipe_out hi]
      exact r.va i t e
  · by_cases hi : i ∈ vs
    · cases wipeR_un hi e
    · rw [wipeR_get hi] at e
      rw [wipe_out hi]
      exact r.ow i t e
end
def gT (Γ : Gam) (K : PySem.W.Frag) (tg : Tg) : TG := fun v σ H Q => ∃ g st t ρ ρ', WF Γ K g st H ∧ RelT K g H t v ∧ bindTg tg t ρ = some ρ' ∧ ∀ σ', Sets K g H tg.vars ρ σ ρ' σ' → Q σ' H
def gTs (Γ : Gam) (K : PySem.W.Frag) (tg : TgL) : TGs := fun vs σ H Q => ∃ g st ts ρ ρ', WF Γ K g st H ∧ RelTs K g H ts vs ∧ bindTgL tg ts ρ = some ρ' ∧ ∀ σ', Sets K g H tg.vars ρ σ ρ' σ' → Q σ' H
theorem _root_.L2.PG.imp {X : Cx} {e : Expr} {t t' : TG} (h : PG X e t) (k : ∀ v σ H Q, t' v σ H Q → t v σ H Q) : PG X e t' := ⟨fun pins s σ H v u Q I r hw => h.run pins s σ H v u Q I r (k v σ H Q hw)⟩
theorem _root_.L2.PGs.imp {X : Cx} {e : List Expr} {t t' : TGs} (h : PGs X e t) (k : ∀ v σ H Q, t' v σ H Q → t v σ H Q) : PGs X e t' := ⟨fun pins s σ H v u Q I r hw => h.run pins s σ H v u Q I r (k v σ H Q hw)⟩
section
variable {Γ : Gam} {X : Cx} {n : Nat} {W : WX} {pos p apos : Pos} {l r e o : Expr} {a b c : E} {es : List Expr} {m : EL}
theorem tg_n {i : Nat} {x : Str} (hN : X.N.Nodup) (hi : X.N[i]? = some x) (hx : Loc X.env.scope x) (hf : X.fn x = true ∨ X.env.scope.names.lookup x = some .local) : PG X (.Name x pos) (gT Γ X.K (.n i)) := by
  refine (pg_name hN hi hx hf).imp fun v σ H Q ⟨g, st, t, ρ, ρ', w, r, e, q⟩ => ?_
  refine q _ (.step (i := i) (t := t) (by simp [Tg.vars]) r ?_)
  have e' : some (ρ.set i (.va t)) = some ρ' := e
  cases e'
  exact .refl
theorem tgs_nil : PGs X [] (gTs Γ X.K .nil) := by
  refine pgs_nil.imp fun v σ H Q ⟨g, st, t, ρ, ρ', w, r, e, q⟩ => ?_
  cases t with
  | nil =>
    cases r
    have e' : some ρ = some ρ' := e
    cases e'
    exact ⟨rfl, q _ .refl⟩
  | cons t ts => cases e
theorem tgs_cons {a : Tg} {b : TgL} (h1 : PG X e (gT Γ X.K a)) (h2 : PGs X es (gTs Γ X.K b)) (hs : (assignEach (e :: es) X.env).map (·.2) = assign e X.env :: (assignEach es X.env).map (·.2)) : PGs X (e :: es) (gTs Γ X.K (.cons a b)) := by
  refine (pgs_cons h1 h2 hs).imp fun v σ H Q ⟨g, st, t, ρ, ρ', w, r, e, q⟩ => ?_
  cases t with
  | nil => cases e
  | cons t ts =>
    cases r with
    | @cons _ v _ vs r1 r2 =>
      have e' : ((bindTg a t ρ).bind fun ρ1 => bindTgL b ts ρ1) = some ρ' := e
      cases q1 : bindTg a t ρ with
      | none => rw [q1] at e'; cases e'
      | some ρ1 =>
        rw [q1] at e'
        refine ⟨v, vs, rfl, g, st, t, ρ, ρ1, w, r1, q1, fun σ1 s1 => ⟨g, st, ts, ρ1, ρ', w, r2, e', fun σ2 s2 => q σ2 ?_⟩⟩
        refine (s1.sub fun i hi => ?_).trans (s2.sub fun i hi => ?_)
        · simp only [TgL.vars]; exact List.mem_append_left _ hi
        · simp only [TgL.vars]; exact List.mem_append_right _ hi
theorem bindTgL_len : ∀ {a : TgL} {ts : List T} {ρ ρ' : Ro}, bindTgL a ts ρ = some ρ' → ts.length = a.len
  | .nil, [], _, _, _ => rfl
  | .nil, _ :: _, _, _, e => by cases e
  | .cons _ _, [], _, _, e => by cases e
  | .cons a r, t :: ts, ρ, ρ', e => by
    have e' : ((bindTg a t ρ).bind fun ρ1 => bindTgL r ts ρ1) = some ρ' := e
    cases q1 : bindTg a t ρ with
    | none => rw [q1] at e'; cases e'
    | some ρ1 =>
      rw [q1] at e'
      simp [TgL.len, bindTgL_len e']
theorem tg_tup {a : TgL} {k : Nat} (hc : X.calm = true) (h : PGs X es (gTs Γ X.K a)) (hn : (assignEach es X.env).length = a.len) (hst : (assignEach es X.env).findIdx? (·.1) = none) : PG X (.Tuple es k pos) (gT Γ X.K (.tup a)) := by
  refine ⟨fun pins s σ H v u Q I rv ⟨g, st, t, ρ, ρ', w, r, e, q⟩ => ?_⟩
  cases t with
  | tup ts =>
    cases r with
    | @tup p xs _ k1 b1 =>
      refine (pg_tup hc h hn hst).run pins s σ H _ u Q I rv ⟨p, xs, rfl, k1, ?_, g, st, ts, ρ, ρ', w, b1, e, fun σ' s' => q σ' s'⟩
      rw [← b1.length]; exact bindTgL_len e
  | lst ts =>
    cases r with
    | @lst p xs _ f1 k1 b1 =>
      refine (pg_lst hc h hn hst).run pins s σ H _ u Q I rv ⟨p, xs, rfl, SqL.of k1, ?_, g, st, ts, ρ, ρ', w, b1, e, fun σ' s' => q σ' s'⟩
      rw [← b1.length]; exact bindTgL_len e
  | _ => cases e

end

/-! ### iteration -/
/-- the iterator yields xs, one after another, wherever P holds -/
def Enum (Γ : Gam) (K : PySem.W.Frag) (P : Gh → Hp → Prop) (J : It) (xs : List T) : Prop :=
  ∀ g st H, WF Γ K g st H → P g H → (∀ (i : Nat) t, xs[i]? = some t → J.go i H ∧ ∀ x H', J.yld i H x H' → Step g H g H' ∧ WF Γ K g st H' ∧ RelT K g H' t x) ∧ J.stop xs.length H
def KeepT (Γ : Gam) (K : PySem.W.Frag) (P : Gh → Hp → Prop) (t : T) (v : V) : Prop := ∀ g st H, WF Γ K g st H → P g H → RelRd K g H t v
section
variable {Γ : Gam} {K : PySem.W.Frag} {P : Gh → Hp → Prop} {v : V} {g : Gh} {st : Store} {H : Hp}
theorem enum_lst {ts : List T} {p : Addr} (k : KeepT Γ K P (.lst ts) (.ref p)) : Enum Γ K P (Itl K p) ts := by
  intro g st H w hp
  obtain ⟨a, xs, e, h, n, b⟩ := (k g st H w hp).lst w
  cases e
  refine ⟨fun i t ht => ?_, xs, SqL.of h, by rw [b.length]; exact Nat.le_refl _⟩
  obtain ⟨x, h1, h2⟩ := b.get ht
  refine ⟨⟨xs, x, SqL.of h, h1⟩, fun y H' ⟨e, q⟩ => ?_⟩
  subst e
  have := q xs (SqL.of h)
  rw [h1] at this
  cases this
  exact ⟨Step.refl, w, h2⟩
theorem enum_tup {ts : List T} {p : Addr} (k : KeepT Γ K P (.tup ts) (.ref p)) : Enum Γ K P (Itt K p) ts := by
  intro g st H w hp
  obtain ⟨a, xs, e, h, b⟩ := (k g st H w hp).tup'
  cases e
  refine ⟨fun i t ht => ?_, xs, h, by rw [b.length]; exact Nat.le_refl _⟩
  obtain ⟨x, h1, h2⟩ := b.get ht
  refine ⟨⟨xs, x, h, h1⟩, fun y H' ⟨e, q⟩ => ?_⟩
  subst e
  have := q xs h
  rw [h1] at this
  cases this
  exact ⟨Step.refl, w, h2⟩
theorem enum_scr {ns : List Int} {p : Addr} (k : KeepT Γ K P (.scr ns) (.ref p)) : Enum Γ K P (Itl K p) (ns.map .int) := by
  intro g st H w hp
  obtain ⟨a, e, h⟩ := (k g st H w hp).scr
  cases e
  have b : RelTs K g H (ns.map T.int) (ns.map V.int) := relTs_ints ns
  refine ⟨fun i t ht => ?_, _, h.sq, by rw [List.length_map, List.length_map]; exact Nat.le_refl _⟩
  obtain ⟨x, h1, h2⟩ := b.get ht
  refine ⟨⟨_, x, h.sq, h1⟩, fun y H' ⟨e, q⟩ => ?_⟩
  subst e
  have := q _ h.sq
  rw [h1] at this
  cases this
  exact ⟨Step.refl, w, h2⟩
theorem enum_str {l : List Nat} : Enum Γ K P (Its (toS l)) (l.map fun c => .str [c]) := by
  intro g st H w hp
  refine ⟨fun i t ht => ?_, ?_⟩
  · rw [List.getElem?_map] at ht
    cases hc : l[i]? with
    | none => rw [hc] at ht; cases ht
    | some c =>
      rw [hc] at ht
      have ht : some (T.str [c]) = some t := ht
      cases ht
      have hl := (List.getElem?_eq_some_iff.mp hc).1
      refine ⟨by show i < l.toArray.size; simpa using hl, fun y H' ⟨e, c', h1, h2⟩ => ?_⟩
      subst e h2
      have h1 : l.toArray[i]? = some c' := h1
      rw [List.getElem?_toArray, hc] at h1
      cases h1
      exact ⟨Step.refl, w, .str [c]⟩
  · show l.toArray.size ≤ _
    simp
theorem enum_rng {lo : Int} {n : Nat} : Enum Γ K P (Itr lo n) ((List.range n).map fun (k : Nat) => .int (lo + (k : Int))) := by
  intro g st H w hp
  refine ⟨fun i t ht => ?_, ?_⟩
  · rw [List.getElem?_map] at ht
    by_cases hi : i < n
    · rw [List.getElem?_range hi] at ht
      have ht : some (T.int (lo + i)) = some t := ht
      cases ht
      refine ⟨hi, fun y H' ⟨e, h2⟩ => ?_⟩
      subst e h2
      exact ⟨Step.refl, w, .int _⟩
    · rw [List.getElem?_eq_none (by simpa using hi)] at ht
      cases ht
  · show n ≤ _
    simp
theorem enumT_get : ∀ {ts : List T} {k i : Nat} {t : T}, (enumT ts k)[i]? = some t → ∃ u, ts[i]? = some u ∧ t = .tup [.int ((k + i : Nat) : Int), u]
  | [], _, _, _, h => by simp [enumT] at h
  | t :: ts, k, 0, u, h => by
    have h : some (T.tup [.int (k : Nat), t]) = some u := h
    cases h
    exact ⟨t, rfl, rfl⟩
  | t :: ts, k, i + 1, u, h => by
    have h : (enumT ts (k + 1))[i]? = some u := h
    obtain ⟨x, h1, h2⟩ := enumT_get h
    refine ⟨x, h1, ?_⟩
    rw [h2]
    have e : k + 1 + i = k + (i + 1) := by omega
    rw [e]
theorem enumT_len : ∀ {ts : List T} {k : Nat}, (enumT ts k).length = ts.length
  | [], _ => rfl
  | t :: ts, k => by simp [enumT, enumT_len (ts := ts)]
theorem enum_en {ts : List T} {p : Addr} (k : KeepT Γ K P (.lst ts) (.ref p)) : Enum Γ K P (Ite K p) (enumT ts 0) := by
  intro g st H w hp
  obtain ⟨a, xs, e, h, n, b⟩ := (k g st H w hp).lst w
  cases e
  refine ⟨fun i t ht => ?_, xs, SqL.of h, by rw [enumT_len, b.length]; exact Nat.le_refl _⟩
  obtain ⟨u, e1, e2⟩ := enumT_get ht
  subst e2
  obtain ⟨x, h1, h2⟩ := b.get e1
  refine ⟨⟨xs, x, SqL.of h, h1⟩, fun y H' ⟨p', z, ey, hn, eH, q⟩ => ?_⟩
  subst ey eH
  have := q xs (SqL.of h)
  rw [h1] at this
  cases this
  refine ⟨Step.alloc hn, w.alloc hn, .tup (SqT.of upd_same) (.cons ?_ (.cons (RelT.mono (Mono.alloc hn) _ _ h2) .nil))⟩
  have e0 : (0 + i : Nat) = i := Nat.zero_add i
  rw [e0]
  exact .int _
theorem zipT_get : ∀ {ts us : List T} {i : Nat} {t : T}, (zipT ts us)[i]? = some t → ∃ u u', ts[i]? = some u ∧ us[i]? = some u' ∧ t = .tup [u, u']
  | [], _, _, _, h => by simp [zipT] at h
  | _ :: _, [], _, _, h => by simp [zipT] at h
  | t :: ts, u :: us, 0, x, h => by
    have h : some (T.tup [t, u]) = some x := h
    cases h
    exact ⟨t, u, rfl, rfl, rfl⟩
  | t :: ts, u :: us, i + 1, x, h => by
    have h : (zipT ts us)[i]? = some x := h
    obtain ⟨a, b, h1, h2, h3⟩ := zipT_get (ts := ts) (us := us) (i := i) h
    exact ⟨a, b, h1, h2, h3⟩
theorem zipT_len : ∀ {ts us : List T}, ts.length ≤ (zipT ts us).length ∨ us.length ≤ (zipT ts us).length
  | [], _ => .inl (Nat.zero_le _)
  | _ :: _, [] => .inr (Nat.zero_le _)
  | t :: ts, u :: us => by
    rcases zipT_len (ts := ts) (us := us) with h | h
    · exact .inl (by simp [zipT]; exact h)
    · exact .inr (by simp [zipT]; exact h)
theorem enum_zl {ts us : List T} {p p' : Addr} (k : KeepT Γ K P (.lst ts) (.ref p)) (k' : KeepT Γ K P (.lst us) (.ref p')) : Enum Γ K P (Itz K p p') (zipT ts us) := by
  intro g st H w hp
  obtain ⟨a, xs, e, h, n, b⟩ := (k g st H w hp).lst w
  cases e
  obtain ⟨a, ys, e, h', n', b'⟩ := (k' g st H w hp).lst w
  cases e
  refine ⟨fun i t ht => ?_, xs, ys, SqL.of h, SqL.of h', by rw [← b.length, ← b'.length]; exact zipT_len⟩
  obtain ⟨u, u', e1, e2, e3⟩ := zipT_get ht
  subst e3
  obtain ⟨x, h1, h2⟩ := b.get e1
  obtain ⟨x', h1', h2'⟩ := b'.get e2
  refine ⟨⟨xs, ys, x, x', SqL.of h, SqL.of h', h1, h1'⟩, fun y H' ⟨p', z, z', ey, hn, eH, q, q'⟩ => ?_⟩
  subst ey eH
  have := q xs (SqL.of h)
  rw [h1] at this
  cases this
  have := q' ys (SqL.of h')
  rw [h1'] at this
  cases this
  exact ⟨Step.alloc hn, w.alloc hn, .tup (SqT.of upd_same) (.cons (RelT.mono (Mono.alloc hn) _ _ h2) (.cons (RelT.mono (Mono.alloc hn) _ _ h2') .nil))⟩
theorem enum_zt {ts us : List T} {p p' : Addr} (k : KeepT Γ K P (.tup ts) (.ref p)) (k' : KeepT Γ K P (.tup us) (.ref p')) : Enum Γ K P (RZ.ItzT K p p') (zipT ts us) := by
  intro g st H w hp
  obtain ⟨a, xs, e, h, b⟩ := (k g st H w hp).tup'
  cases e
  obtain ⟨a, ys, e, h', b'⟩ := (k' g st H w hp).tup'
  cases e
  refine ⟨fun i t ht => ?_, xs, ys, h, h', by rw [← b.length, ← b'.length]; exact zipT_len⟩
  obtain ⟨u, u', e1, e2, e3⟩ := zipT_get ht
  subst e3
  obtain ⟨x, h1, h2⟩ := b.get e1
  obtain ⟨x', h1', h2'⟩ := b'.get e2
  refine ⟨⟨xs, ys, x, x', h, h', h1, h1'⟩, fun y H' ⟨p', z, z', ey, hn, eH, q, q'⟩ => ?_⟩
  subst ey eH
  have := q xs h
  rw [h1] at this
  cases this
  have := q' ys h'
  rw [h1'] at this
  cases this
  exact ⟨Step.alloc hn, w.alloc hn, .tup (SqT.of upd_same) (.cons (RelT.mono (Mono.alloc hn) _ _ h2) (.cons (RelT.mono (Mono.alloc hn) _ _ h2') .nil))⟩
end
/-! ### what a loop walks -/
def tI (Γ : Gam) (K : PySem.W.Frag) (n : Nat) (W : WX) (ik : IK) (m : EL) : TI := fun σ H R => ∃ g st ρ, RepE Γ K g st ρ σ H ∧
  Wg Γ K (fun g1 H1 xs J => Enum Γ K (fun g2 H2 => Step g1 H1 g2 H2) J xs) (fun c d H' => W c d σ H') g H (M.bind (evRs Γ (orc Γ n) m ρ) (items ik) st) R
def tIA (Γ : Gam) (K : PySem.W.Frag) (n : Nat) (W : WX) (ik : IK) (m : EL) : TI := fun σ H R => ∃ g st ρ, RepE Γ K g st ρ σ H ∧
  Wg Γ K (fun g1 H1 xs J => Enum Γ K (fun g2 H2 => Mono K g1 H1 g2 H2) J xs) (fun c d H' => W c d σ H') g H (M.bind (evA Γ (orc Γ n) m ρ) (items ik) st) R
section
variable {Γ : Gam} {X : Cx} {n : Nat} {W : WX} {pos p apos : Pos} {l r e o tg : Expr} {a b c : E} {es : List Expr} {m : EL}
theorem _root_.L2.PI.imp {X : Cx} {tg e : Expr} {t t' : TI} (h : PI X tg e t) (k : ∀ σ H Q, t' σ H Q → t σ H Q) : PI X tg e t' := ⟨fun pins s σ H Q I hw => h.run pins s σ H Q I (k σ H Q hw)⟩
/-- a list, a tuple, a str -/
theorem pi_any {tl : TE} (hl : PE X l tl) : PI X tg l (fun σ H R => tl σ H fun x H1 => (∃ a, x = .ref a ∧ (∃ xs, SqL X.K H1 a xs) ∧ R (Itl X.K a) H1) ∨ (∃ a, x = .ref a ∧ (∃ xs, SqT X.K H1 a xs) ∧ R (Itt X.K a) H1) ∨ ∃ z, x = .str z ∧ R (Its z) H1) := by
  refine ⟨fun pins s σ H R I h => ?_⟩
  refine thn (hl.run pins s σ H _ I h) fun v s1 ⟨x, H1, I1, r1, q1⟩ => ?_
  rcases q1 with ⟨a, e, ⟨xs, hq⟩, q⟩ | ⟨a, e, ⟨xs, hq⟩, q⟩ | ⟨z, e, q⟩
  · subst e
    cases r1
    obtain ⟨its, rv, p, hz⟩ := I1.list hq
    refine wpAny_pyIter_list p.isList ?_
    refine ⟨s1.heap.objs.size, [s1.heap.objs.size], _, _, H1, rfl, I1.kept (t' := s1.toks) fun b o e => Heap.get?_push_of_some _ e, turn_list a _, ⟨_, Heap.get?_push_size _ rfl, rfl, rfl⟩, fun b hb => ?_, q⟩
    have e : b = s1.heap.objs.size := by simpa using hb
    subst e
    exact I1.fpOk (Nat.le_refl _) (I1.hok.fresh (Nat.le_refl _))
  · subst e
    cases r1
    obtain ⟨its, rv, p, hz⟩ := I1.tuple hq
    refine wpAny_pyIter_tuple (show s1.heap.IsTuple a its.toArray from p) ?_
    refine ⟨s1.heap.objs.size, [s1.heap.objs.size], _, _, H1, rfl, I1.kept (t' := s1.toks) fun b o e => Heap.get?_push_of_some _ e, turn_tuple a _, ⟨_, Heap.get?_push_size _ rfl, rfl, rfl⟩, fun b hb => ?_, q⟩
    have e : b = s1.heap.objs.size := by simpa using hb
    subst e
    exact I1.fpOk (Nat.le_refl _) (I1.hok.fresh (Nat.le_refl _))
  · subst e
    obtain ⟨t, rfl⟩ := r1
    cases ha : z.cps.all (· < 128)
    · exact wpAny_pyIter_wide ha (pi_one (tk := s1.toks) I1 _ (turn_str _ z t "str_iterator" (.inr rfl)) ⟨_, Heap.get?_push_size _ rfl, rfl, rfl⟩ q)
    · exact wpAny_pyIter_ascii ha (pi_one (tk := s1.toks) I1 _ (turn_str _ z t "str_ascii_iterator" (.inl rfl)) ⟨_, Heap.get?_push_size _ rfl, rfl, rfl⟩ q)
/-- one value walked -/
theorem seq_core {P : Gh → Hp → Gh → Hp → Prop} {E : XK} {g1 : Gh} {st1 : Store} {H1 : Hp} {t : T} {v : V} {R : It → Hp → Prop} (w1 : WF Γ X.K g1 st1 H1) (pr : P g1 H1 g1 H1) (k : KeepT Γ X.K (P g1 H1) t v)
    (q : Wg Γ X.K (fun g1 H1 xs J => Enum Γ X.K (P g1 H1) J xs) E g1 H1 (items .seq [t] st1) R) :
    (∃ a, v = .ref a ∧ (∃ xs, SqL X.K H1 a xs) ∧ R (Itl X.K a) H1) ∨ (∃ a, v = .ref a ∧ (∃ xs, SqT X.K H1 a xs) ∧ R (Itt X.K a) H1) ∨ ∃ z, v = .str z ∧ R (Its z) H1 := by
  have k0 := k g1 st1 H1 w1 pr
  cases t with
  | lst ts =>
    obtain ⟨p, xs, rfl, h, n, b⟩ := k0.lst w1
    exact .inl ⟨p, rfl, ⟨xs, SqL.of h⟩, q g1 H1 _ Step.refl w1 (enum_lst k)⟩
  | tup ts =>
    obtain ⟨p, xs, rfl, h, b⟩ := k0.tup'
    exact .inr (.inl ⟨p, rfl, ⟨xs, h⟩, q g1 H1 _ Step.refl w1 (enum_tup k)⟩)
  | scr ns =>
    obtain ⟨p, rfl, h⟩ := k0.scr
    exact .inl ⟨p, rfl, ⟨_, h.sq⟩, q g1 H1 _ Step.refl w1 (enum_scr k)⟩
  | str l =>
    cases k0.str
    exact .inr (.inr ⟨_, rfl, q g1 H1 _ Step.refl w1 enum_str⟩)
  | _ => exact False.elim q
theorem Wg.re {α β : Type} {rel : Gh → Hp → α → β → Prop} {E : XK} {g g1 : Gh} {H H1 : Hp} {r : Res α} {Q : β → Hp → Prop} (h : Wg Γ X.K rel E g H r Q) (s : Step g H g1 H1) : Wg Γ X.K rel E g1 H1 r Q := h.restart s fun _ _ _ _ q => q
theorem evRs_one (O : Or) (ρ : Ro) (a : E) : evRs Γ O (.cons a .nil) ρ = M.bind (ev Γ O a ρ) fun x => .ok [x.1] := by
  unfold evRs
  congr 1
theorem evA_one (O : Or) (ρ : Ro) (a : E) : evA Γ O (.cons a .nil) ρ = M.bind (M.bind (ev Γ O a ρ) keepR) fun x => .ok [x] := by
  unfold evA
  congr 1
theorem it_seq (ha : PE X l (tE Γ X.K n W a)) : PI X tg l (tI Γ X.K n W .seq (.cons a .nil)) := by
  refine (pi_any ha).imp fun σ H R ⟨g, st, ρ, rp, q⟩ => ?_
  rw [evRs_one, M.bind_assoc] at q
  refine ⟨g, st, ρ, rp, q.split fun x st1 g1 H1 v s1 w1 r1 q1 => ?_⟩
  exact seq_core (P := fun g1 H1 g2 H2 => Step g1 H1 g2 H2) w1 Step.refl (fun g2 st2 H2 w2 s2 => r1.rd.step s2 w1) (q1.re s1)
theorem it_seqA (ha : PE X l (tE Γ X.K n W a)) : PI X tg l (tIA Γ X.K n W .seq (.cons a .nil)) := by
  refine (pi_any ha).imp fun σ H R ⟨g, st, ρ, rp, q⟩ => ?_
  rw [evA_one, M.bind_assoc, M.bind_assoc] at q
  refine ⟨g, st, ρ, rp, q.split fun x st1 g1 H1 v s1 w1 r1 q1 => ?_⟩
  obtain ⟨g2, s2, w2, r2, m2, e2, q2⟩ := q1.stay s1 w1 r1
  exact seq_core (P := fun g1 H1 g2 H2 => Mono X.K g1 H1 g2 H2) w2 Mono.refl (fun g3 st3 H3 w3 m3 => .inl (RelT.mono m3 _ _ r2)) (q2.re s2)
/-- values as they are read -/
def KeepTs (Γ : Gam) (K : PySem.W.Frag) (P : Gh → Hp → Prop) : List T → List V → Prop
  | [], [] => True
  | t :: ts, v :: vs => KeepT Γ K P t v ∧ KeepTs Γ K P ts vs
  | _, _ => False
theorem RelRds.keep {g1 : Gh} {st1 : Store} {H1 : Hp} (w1 : WF Γ X.K g1 st1 H1) : ∀ {ts : List T} {vs : List V}, RelRds X.K g1 H1 ts vs → KeepTs Γ X.K (fun g2 H2 => Step g1 H1 g2 H2) ts vs
  | [], _, h => by cases h; trivial
  | t :: ts, _, h => by
    cases h with
    | cons a b => exact ⟨fun g st H w s => a.step s w1, RelRds.keep w1 b⟩
theorem RelTs.keep {g1 : Gh} {H1 : Hp} : ∀ {ts : List T} {vs : List V}, RelTs X.K g1 H1 ts vs → KeepTs Γ X.K (fun g2 H2 => Mono X.K g1 H1 g2 H2) ts vs
  | [], _, h => by cases h; trivial
  | t :: ts, _, h => by
    cases h with
    | cons a b => exact ⟨fun g st H w s => .inl (RelT.mono s _ _ a), RelTs.keep b⟩
theorem items_no {ik : IK} : ∀ {ts : List T}, ik ≠ .seq → ts.length ≠ 1 → ts.length ≠ 2 → items ik ts = M.fail := by
  intro ts h h1 h2
  match ts, h1, h2 with
  | [], _, _ => cases ik <;> first | rfl | exact absurd rfl h
  | [_], h1, _ => exact absurd rfl h1
  | [_, _], _, h2 => exact absurd rfl h2
  | a :: b :: c :: d, _, _ => cases ik <;> first | (exact absurd rfl h) | (cases a <;> first | rfl | (cases b <;> rfl))
theorem items1_fail {ik : IK} {t : T} (h : ∀ j, t ≠ .int j) (h2 : ik = .rng) : items ik [t] = M.fail := by
  subst h2
  cases t with
  | int j => exact absurd rfl (h j)
  | _ => rfl
theorem rng_core1 {P : Gh → Hp → Gh → Hp → Prop} {E : XK} {g1 : Gh} {st1 : Store} {H1 : Hp} {ts : List T} {vs : List V} {R : It → Hp → Prop} (w1 : WF Γ X.K g1 st1 H1) (pr : P g1 H1 g1 H1) (k : KeepTs Γ X.K (P g1 H1) ts vs) (h1 : vs.length = 1)
    (q : Wg Γ X.K (fun g1 H1 xs J => Enum Γ X.K (P g1 H1) J xs) E g1 H1 (items .rng ts st1) R) : ∃ j : Int, vs = [.int j] ∧ -(2 ^ 62) ≤ j ∧ j < 2 ^ 62 ∧ R (Itr 0 j.toNat) H1 := by
  match ts, vs, k, h1 with
  | _ :: _ :: _, [_], ⟨_, z⟩, _ => exact False.elim z
  | [t], [v], ⟨kt, _⟩, _ =>
    cases t with
    | int j =>
      cases (kt g1 st1 H1 w1 pr).int
      have q' : Wg Γ X.K (fun g1 H1 xs J => Enum Γ X.K (P g1 H1) J xs) E g1 H1 ((if j < 2 ^ 62 ∧ -(2 ^ 62) ≤ j then M.ok ((List.range j.toNat).map fun (k : Nat) => T.int (k : Int)) else M.fail) st1) R := q
      by_cases hj : j < 2 ^ 62 ∧ -(2 ^ 62) ≤ j
      · rw [if_pos hj] at q'
        refine ⟨j, rfl, hj.2, hj.1, q' g1 H1 _ Step.refl w1 ?_⟩
        have e : ((List.range j.toNat).map fun (k : Nat) => T.int (k : Int)) = (List.range j.toNat).map fun (k : Nat) => T.int (0 + (k : Int)) := by
          refine List.map_congr_left fun k _ => ?_
          rw [Int.zero_add]
        rw [e]
        exact enum_rng
      · rw [if_neg hj] at q'; exact False.elim q'
    | _ => exact False.elim q
theorem rng_core2 {P : Gh → Hp → Gh → Hp → Prop} {E : XK} {g1 : Gh} {st1 : Store} {H1 : Hp} {ts : List T} {vs : List V} {R : It → Hp → Prop} (w1 : WF Γ X.K g1 st1 H1) (pr : P g1 H1 g1 H1) (k : KeepTs Γ X.K (P g1 H1) ts vs) (h1 : vs.length = 2)
    (q : Wg Γ X.K (fun g1 H1 xs J => Enum Γ X.K (P g1 H1) J xs) E g1 H1 (items .rng ts st1) R) : ∃ i j : Int, vs = [.int i, .int j] ∧ (-(2 ^ 62) ≤ i ∧ i < 2 ^ 62 ∧ -(2 ^ 62) ≤ j ∧ j < 2 ^ 62) ∧ R (Itr i (j - i).toNat) H1 := by
  match ts, vs, k, h1 with
  | [_], [_, _], ⟨_, z⟩, _ => exact False.elim z
  | _ :: _ :: _ :: _, [_, _], ⟨_, _, z⟩, _ => exact False.elim z
  | [t, u], [v, w], ⟨kt, ku, _⟩, _ =>
    cases t with
    | int i =>
      cases u with
      | int j =>
        cases (kt g1 st1 H1 w1 pr).int
        cases (ku g1 st1 H1 w1 pr).int
        have q' : Wg Γ X.K (fun g1 H1 xs J => Enum Γ X.K (P g1 H1) J xs) E g1 H1 ((if -(2 ^ 62) ≤ i ∧ i < 2 ^ 62 ∧ -(2 ^ 62) ≤ j ∧ j < 2 ^ 62 then M.ok ((List.range (j - i).toNat).map fun (k : Nat) => T.int (i + (k : Int))) else M.fail) st1) R := q
        by_cases hj : -(2 ^ 62) ≤ i ∧ i < 2 ^ 62 ∧ -(2 ^ 62) ≤ j ∧ j < 2 ^ 62
        · rw [if_pos hj] at q'
          exact ⟨i, j, rfl, hj, q' g1 H1 _ Step.refl w1 enum_rng⟩
        · rw [if_neg hj] at q'; exact False.elim q'
      | _ => exact False.elim q
    | _ => exact False.elim (by cases u <;> exact q)
theorem enum_core {P : Gh → Hp → Gh → Hp → Prop} {E : XK} {g1 : Gh} {st1 : Store} {H1 : Hp} {ts : List T} {vs : List V} {R : It → Hp → Prop} (w1 : WF Γ X.K g1 st1 H1) (pr : P g1 H1 g1 H1) (k : KeepTs Γ X.K (P g1 H1) ts vs) (h1 : vs.length = 1)
    (q : Wg Γ X.K (fun g1 H1 xs J => Enum Γ X.K (P g1 H1) J xs) E g1 H1 (items .enum ts st1) R) : ∃ a xs, vs = [.ref a] ∧ SqL X.K H1 a xs ∧ R (Ite X.K a) H1 := by
  match ts, vs, k, h1 with
  | _ :: _ :: _, [_], ⟨_, z⟩, _ => exact False.elim z
  | [t], [v], ⟨kt, _⟩, _ =>
    cases t with
    | lst us =>
      obtain ⟨p, xs, rfl, h, n, b⟩ := (kt g1 st1 H1 w1 pr).lst w1
      exact ⟨p, xs, rfl, SqL.of h, q g1 H1 _ Step.refl w1 (enum_en kt)⟩
    | _ => exact False.elim q
theorem zip_core {P : Gh → Hp → Gh → Hp → Prop} {E : XK} {g1 : Gh} {st1 : Store} {H1 : Hp} {ts : List T} {vs : List V} {R : It → Hp → Prop} (w1 : WF Γ X.K g1 st1 H1) (pr : P g1 H1 g1 H1) (k : KeepTs Γ X.K (P g1 H1) ts vs) (h1 : vs.length = 2)
    (q : Wg Γ X.K (fun g1 H1 xs J => Enum Γ X.K (P g1 H1) J xs) E g1 H1 (items .zip ts st1) R) : ∃ a b xs ys, vs = [.ref a, .ref b] ∧ ((SqL X.K H1 a xs ∧ SqL X.K H1 b ys ∧ R (Itz X.K a b) H1) ∨ (SqT X.K H1 a xs ∧ SqT X.K H1 b ys ∧ R (RZ.ItzT X.K a b) H1)) := by
  match ts, vs, k, h1 with
  | [_], [_, _], ⟨_, z⟩, _ => exact False.elim z
  | _ :: _ :: _ :: _, [_, _], ⟨_, _, z⟩, _ => exact False.elim z
  | [t, u], [v, w], ⟨kt, ku, _⟩, _ =>
    cases t with
    | lst us =>
      cases u with
      | lst us' =>
        obtain ⟨p, xs, rfl, h, n, b⟩ := (kt g1 st1 H1 w1 pr).lst w1
        obtain ⟨p', xs', rfl, h', n', b'⟩ := (ku g1 st1 H1 w1 pr).lst w1
        exact ⟨p, p', xs, xs', rfl, .inl ⟨SqL.of h, SqL.of h', q g1 H1 _ Step.refl w1 (enum_zl kt ku)⟩⟩
      | _ => exact False.elim q
    | tup us =>
      cases u with
      | tup us' =>
        obtain ⟨p, xs, rfl, h, b⟩ := (kt g1 st1 H1 w1 pr).tup'
        obtain ⟨p', xs', rfl, h', b'⟩ := (ku g1 st1 H1 w1 pr).tup'
        exact ⟨p, p', xs, xs', rfl, .inr ⟨h, h', q g1 H1 _ Step.refl w1 (enum_zt kt ku)⟩⟩
      | _ => exact False.elim q
    | _ => exact False.elim (by cases u <;> exact q)
end
end G

set_option Elab.async false
set_option linter.all false
set_option maxRecDepth 100000
set_option maxHeartbeats 1000000
/-! Loops' sources; comprehensions. -/
namespace G
open PySem PySem.Spec PyProof.Rows L2

section
variable {Γ : Gam} {X : Cx} {n : Nat} {W : WX} {pos p apos tpos : Pos} {l r e o tg : Expr} {a b c : E} {es elts : List Expr} {m : EL} {kk : Nat}
theorem Wg.splitE {K : PySem.W.Frag} {α β γ δ : Type} {E : XK} {g : Gh} {H : Hp} {st : Store} {rel : Gh → Hp → β → δ → Prop} {relA : Gh → Hp → α → γ → Prop} {m : M α} {k : α → M β} {Q : δ → Hp → Prop} {R : γ → Hp → Prop} (h : Wg Γ K rel E g H (M.bind m k st) Q)
    (hk : ∀ a st1 g1 H1 b, m st = .ok a st1 → Step g H g1 H1 → WF Γ K g1 st1 H1 → relA g1 H1 a b → Wg Γ K rel E g H (k a st1) Q → R b H1) : Wg Γ K relA E g H (m st) R := by
  cases e : m st with
  | ok a st1 =>
    rw [bind_ok e] at h
    exact fun g1 H1 b s w r => hk a st1 g1 H1 b e s w r h
  | exn x fs st1 =>
    rw [bind_exn e] at h
    exact h
  | fail =>
    rw [bind_fail e] at h
    exact h
theorem bind_inv {α β : Type} {m : M α} {k : α → M β} {st st2 : Store} {b : β} (h : M.bind m k st = .ok b st2) : ∃ a st1, m st = .ok a st1 ∧ k a st1 = .ok b st2 := by
  cases e : m st with
  | ok a st1 => rw [bind_ok e] at h; exact ⟨a, st1, rfl, h⟩
  | exn x fs st1 => rw [bind_exn e] at h; cases h
  | fail => rw [bind_fail e] at h; cases h
def EL.len : EL → Nat
  | .nil => 0
  | .cons _ r => r.len + 1
theorem evRs_n {O : Or} {ρ : Ro} : ∀ {m : EL} {st st1 : Store} {ts : List T}, evRs Γ O m ρ st = .ok ts st1 → ts.length = m.len := by
  intro m
  induction m using EL.rec (motive_1 := fun _ => True) (motive_3 := fun _ => True) (motive_4 := fun _ => True) with
  | nil =>
    intro st st1 ts h
    unfold evRs at h
    have h : (Res.ok [] st : Res (List T)) = .ok ts st1 := h
    cases h
    rfl
  | cons e r _ ih =>
    intro st st1 ts h
    unfold evRs at h
    obtain ⟨x, st2, _, h⟩ := bind_inv h
    obtain ⟨us, st3, h3, h⟩ := bind_inv h
    have h : (Res.ok (x.1 :: us) st3 : Res (List T)) = .ok ts st1 := h
    cases h
    simp [EL.len, ih h3]
  | _ => trivial
theorem evA_n {O : Or} {ρ : Ro} : ∀ {m : EL} {st st1 : Store} {ts : List T}, evA Γ O m ρ st = .ok ts st1 → ts.length = m.len := by
  intro m
  induction m using EL.rec (motive_1 := fun _ => True) (motive_3 := fun _ => True) (motive_4 := fun _ => True) with
  | nil =>
    intro st st1 ts h
    unfold evA at h
    have h : (Res.ok [] st : Res (List T)) = .ok ts st1 := h
    cases h
    rfl
  | cons e r _ ih =>
    intro st st1 ts h
    unfold evA at h
    obtain ⟨x, st2, _, h⟩ := bind_inv h
    obtain ⟨us, st3, h3, h⟩ := bind_inv h
    have h : (Res.ok (x :: us) st3 : Res (List T)) = .ok ts st1 := h
    cases h
    simp [EL.len, ih h3]
  | _ => trivial
theorem RelRds.length {K : PySem.W.Frag} {g : Gh} {H : Hp} {ts : List T} {vs : List V} (h : RelRds K g H ts vs) : ts.length = vs.length := by
  induction h with
  | nil => rfl
  | cons _ _ ih => simp [ih]
/-- the source's values, read or kept -/
theorem src_R {ik : IK} {σ : St} {H : Hp} {R : It → Hp → Prop} {Q : List V → Hp → Prop} (h : tI Γ X.K n W ik m σ H R)
    (k : ∀ (E : XK) g1 st1 H1 ts vs, WF Γ X.K g1 st1 H1 → KeepTs Γ X.K (fun g2 H2 => Step g1 H1 g2 H2) ts vs → vs.length = m.len → Wg Γ X.K (fun g1 H1 xs J => Enum Γ X.K (fun g2 H2 => Step g1 H1 g2 H2) J xs) E g1 H1 (items ik ts st1) R → Q vs H1) : tR Γ X.K n W m σ H Q := by
  obtain ⟨g, st, ρ, rp, q⟩ := h
  refine ⟨g, st, ρ, rp, Wg.splitE q fun ts st1 g1 H1 vs e s1 w1 r1 q1 => ?_⟩
  exact k _ g1 st1 H1 ts vs w1 (r1.keep w1) (by rw [← r1.length]; exact evRs_n e) (q1.re s1)
theorem src_A {ik : IK} {σ : St} {H : Hp} {R : It → Hp → Prop} {Q : List V → Hp → Prop} (h : tIA Γ X.K n W ik m σ H R)
    (k : ∀ (E : XK) g1 st1 H1 ts vs, WF Γ X.K g1 st1 H1 → KeepTs Γ X.K (fun g2 H2 => Mono X.K g1 H1 g2 H2) ts vs → vs.length = m.len → Wg Γ X.K (fun g1 H1 xs J => Enum Γ X.K (fun g2 H2 => Mono X.K g1 H1 g2 H2) J xs) E g1 H1 (items ik ts st1) R → Q vs H1) : tA Γ X.K n W m σ H Q := by
  obtain ⟨g, st, ρ, rp, q⟩ := h
  refine ⟨g, st, ρ, rp, Wg.splitE q fun ts st1 g1 H1 vs e s1 w1 r1 q1 => ?_⟩
  exact k _ g1 st1 H1 ts vs w1 r1.keep (by rw [← r1.length]; exact evA_n e) (q1.re s1)
theorem it_rng1 (hg : Gl X "range") (hm : X.mg "range" = none) (ha : PA X [e] (tR Γ X.K n W m)) (hl : m.len = 1) (hs : starEach [e] X.env = [(false, eval e X.env)]) : PI X tg (.Call (.Name "range" p) [e] [] pos) (tI Γ X.K n W .rng m) :=
  (pi_range1 hg hm ha hs).imp fun σ H R h => src_R h fun E g1 st1 H1 ts vs w k hn q => rng_core1 (P := fun g1 H1 g2 H2 => Step g1 H1 g2 H2) w Step.refl k (by rw [hn, hl]) q
theorem it_rng1A (hg : Gl X "range") (hm : X.mg "range" = none) (ha : PA X [e] (tA Γ X.K n W m)) (hl : m.len = 1) (hs : starEach [e] X.env = [(false, eval e X.env)]) : PI X tg (.Call (.Name "range" p) [e] [] pos) (tIA Γ X.K n W .rng m) :=
  (pi_range1 hg hm ha hs).imp fun σ H R h => src_A h fun E g1 st1 H1 ts vs w k hn q => rng_core1 (P := fun g1 H1 g2 H2 => Mono X.K g1 H1 g2 H2) w Mono.refl k (by rw [hn, hl]) q
theorem it_rng2 {e2 : Expr} (hg : Gl X "range") (hm : X.mg "range" = none) (ha : PA X [e, e2] (tR Γ X.K n W m)) (hl : m.len = 2) (hs : starEach [e, e2] X.env = [(false, eval e X.env), (false, eval e2 X.env)]) (hs2 : starEach [e2] X.env = [(false, eval e2 X.env)]) :
    PI X tg (.Call (.Name "range" p) [e, e2] [] pos) (tI Γ X.K n W .rng m) :=
  (pi_range2 hg hm ha hs hs2).imp fun σ H R h => src_R h fun E g1 st1 H1 ts vs w k hn q => rng_core2 (P := fun g1 H1 g2 H2 => Step g1 H1 g2 H2) w Step.refl k (by rw [hn, hl]) q
theorem it_rng2A {e2 : Expr} (hg : Gl X "range") (hm : X.mg "range" = none) (ha : PA X [e, e2] (tA Γ X.K n W m)) (hl : m.len = 2) (hs : starEach [e, e2] X.env = [(false, eval e X.env), (false, eval e2 X.env)]) (hs2 : starEach [e2] X.env = [(false, eval e2 X.env)]) :
    PI X tg (.Call (.Name "range" p) [e, e2] [] pos) (tIA Γ X.K n W .rng m) :=
  (pi_range2 hg hm ha hs hs2).imp fun σ H R h => src_A h fun E g1 st1 H1 ts vs w k hn q => rng_core2 (P := fun g1 H1 g2 H2 => Mono X.K g1 H1 g2 H2) w Mono.refl k (by rw [hn, hl]) q
theorem it_enum (hg : Gl X "enumerate") (hm : X.mg "enumerate" = none) (ha : PA X [e] (tR Γ X.K n W m)) (hl : m.len = 1) (hs : starEach [e] X.env = [(false, eval e X.env)]) : PI X (.Tuple elts kk tpos) (.Call (.Name "enumerate" p) [e] [] pos) (tI Γ X.K n W .enum m) :=
  (pi_enum hg hm ha hs).imp fun σ H R h => src_R h fun E g1 st1 H1 ts vs w k hn q => enum_core (P := fun g1 H1 g2 H2 => Step g1 H1 g2 H2) w Step.refl k (by rw [hn, hl]) q
theorem it_enumA (hg : Gl X "enumerate") (hm : X.mg "enumerate" = none) (ha : PA X [e] (tA Γ X.K n W m)) (hl : m.len = 1) (hs : starEach [e] X.env = [(false, eval e X.env)]) : PI X (.Tuple elts kk tpos) (.Call (.Name "enumerate" p) [e] [] pos) (tIA Γ X.K n W .enum m) :=
  (pi_enum hg hm ha hs).imp fun σ H R h => src_A h fun E g1 st1 H1 ts vs w k hn q => enum_core (P := fun g1 H1 g2 H2 => Mono X.K g1 H1 g2 H2) w Mono.refl k (by rw [hn, hl]) q
theorem it_zip {e2 : Expr} (hg : Gl X "zip") (hm : X.mg "zip" = none) (ha : PA X [e, e2] (tR Γ X.K n W m)) (hl : m.len = 2) (hs : starEach [e, e2] X.env = (false, eval e X.env) :: starEach [e2] X.env) (hpl : (backTo pos (starEach [e2] X.env)).any (·.1) = false) :
    PI X (.Tuple elts kk tpos) (.Call (.Name "zip" p) [e, e2] [] pos) (tI Γ X.K n W .zip m) :=
  (RZ.pi_zipA hg hm ha hs hpl).imp fun σ H R h => src_R h fun E g1 st1 H1 ts vs w k hn q => zip_core (P := fun g1 H1 g2 H2 => Step g1 H1 g2 H2) w Step.refl k (by rw [hn, hl]) q
theorem it_zipA {e2 : Expr} (hg : Gl X "zip") (hm : X.mg "zip" = none) (ha : PA X [e, e2] (tA Γ X.K n W m)) (hl : m.len = 2) (hs : starEach [e, e2] X.env = (false, eval e X.env) :: starEach [e2] X.env) (hpl : (backTo pos (starEach [e2] X.env)).any (·.1) = false) :
    PI X (.Tuple elts kk tpos) (.Call (.Name "zip" p) [e, e2] [] pos) (tIA Γ X.K n W .zip m) :=
  (RZ.pi_zipA hg hm ha hs hpl).imp fun σ H R h => src_A h fun E g1 st1 H1 ts vs w k hn q => zip_core (P := fun g1 H1 g2 H2 => Mono X.K g1 H1 g2 H2) w Mono.refl k (by rw [hn, hl]) q

/-! ### comprehensions -/
def lcF (Γ : Gam) (O : Or) (tg : Tg) (cs : B) (e : E) (ρ : Ro) (x : T) : M (Option T) := (M.of (bindTg tg x ρ)).bind fun ρ1 => (tst Γ O cs ρ1).bind fun k => if k then ((ev Γ O e ρ1).bind keepR).bind fun t => .ok (some t) else .ok none
theorem of_inv {α : Type} {o : Option α} {st st' : Store} {a : α} (h : M.of o st = .ok a st') : o = some a ∧ st' = st := by
  cases o with
  | none => cases h
  | some b =>
    have h : (Res.ok b st : Res α) = .ok a st' := h
    cases h; exact ⟨rfl, rfl⟩
theorem tyes_tst : ∀ σ H Q, tB Γ X.K n W .yes σ H Q → tYes σ H Q := fun σ H Q ⟨g, st, ρ, rp, q⟩ => by
  unfold tst at q
  exact q g H true Step.refl rp.wf rfl
theorem pts_yes : PTs X [] (tB Γ X.K n W .yes) := ⟨fun pins s σ H Q I h => pts_nil.run pins s σ H Q I (tyes_tst σ H Q h)⟩
theorem nox_inv {β δ : Type} {K : PySem.W.Frag} {rel : Gh → Hp → β → δ → Prop} {E : XK} {g : Gh} {H : Hp} {m : M β} {st : Store} {Q : δ → Hp → Prop} (h : Wg Γ K rel E g H (M.nox m st) Q) : ∃ b st', m st = .ok b st' ∧ Wg Γ K rel E g H (.ok b st') Q := by
  unfold M.nox at h
  cases e : m st with
  | ok b st' => rw [e] at h; exact ⟨b, st', rfl, h⟩
  | exn x fs st' => rw [e] at h; exact False.elim h
  | fail => rw [e] at h; exact False.elim h
theorem lc_re {own : List (Str × Nat)} {tgT : Tg} {cs : B} {ik : IK} {σ : St} {H : Hp} {Q : VK} (htg : ∀ i ∈ tgT.vars, i ∈ own.map (·.2)) (h : tE Γ X.K n W (.lc a tgT ik m cs (own.map (·.2))) σ H Q) :
    tLc (tI Γ X.K n W ik m) (gT Γ X.K tgT) (tB Γ X.K n (fun _ _ _ _ => False) cs) (tE Γ X.K n (fun _ _ _ _ => False) a) (own.map (·.2)) σ H Q := by
  obtain ⟨vs, hvs⟩ : ∃ vs, vs = own.map (·.2) := ⟨_, rfl⟩
  rw [← hvs] at h htg
  obtain ⟨g, st, ρ, rp, q⟩ := h
  unfold ev at q
  have q : Wg Γ X.K (RelR X.K H) (fun c d H' => W c d σ H') g H (M.bind (evRs Γ (orc Γ n) m ρ) (fun ts => M.bind (items ik ts) fun xs => M.nox (M.bind (lcGo (lcF Γ (orc Γ n) tgT cs a (wipeR ρ vs)) [] xs) fun ys => .ok (.lst ys, .fr))) st) Q := q
  rw [← M.bind_assoc] at q
  refine ⟨g, st, ρ, rp, q.split fun xs st1 g1 H1 J s1 w1 en q1 => ?_⟩
  intro D hD
  obtain ⟨r, st2, er, qf⟩ := nox_inv q1
  obtain ⟨ys, st3, ey, er⟩ := bind_inv er
  have er : (Res.ok (T.lst ys, Fl.fr) st3 : Res G.R) = .ok r st2 := er
  cases er
  have rp1 : RepE Γ X.K g1 st1 ρ σ H1 := rp.step s1 w1
  subst hvs
  refine ⟨fun i m' H' => m' = xs.length - i ∧ i ≤ xs.length ∧ ∃ g' st' acc ws, Step g1 H1 g' H' ∧ WF Γ X.K g' st' H' ∧ H' D = some (.lst ws) ∧ ¬ g'.F D ∧ D ∉ g'.η ∧ RelTs X.K g' H' acc ws ∧ lcGo (lcF Γ (orc Γ n) tgT cs a (wipeR ρ (own.map (·.2)))) acc (xs.drop i) st' = .ok ys st2,
    ⟨xs.length, by simp, Nat.zero_le _, g1, st1, [], [], Step.alloc hD, w1.alloc hD, upd_same, w1.notF hD, w1.notη hD, .nil, by simpa using ey⟩, ?_⟩
  rintro i m' H' ⟨rfl, hi', g', st', acc, ws, s', w', hD', nF, nη, racc, el⟩
  obtain ⟨e1, e2⟩ := en g' st' H' w' s'
  by_cases hlt : i < xs.length
  · have hx : xs[i]? = some xs[i] := List.getElem?_eq_getElem hlt
    obtain ⟨go, yl⟩ := e1 i _ hx
    refine .inr ⟨go, fun H'' => ∃ g' st' acc ws, Step g1 H1 g' H'' ∧ WF Γ X.K g' st' H'' ∧ H'' D = some (.lst ws) ∧ ¬ g'.F D ∧ D ∉ g'.η ∧ RelTs X.K g' H'' acc ws ∧ lcGo (lcF Γ (orc Γ n) tgT cs a (wipeR ρ (own.map (·.2)))) acc (xs.drop (i + 1)) st' = .ok ys st2,
      fun H'' z => ⟨xs.length - (i + 1), by omega, rfl, hlt, z⟩, fun x H2 hy => ?_⟩
    obtain ⟨sy, wy, ry⟩ := yl x H2 hy
    have hd : xs.drop i = xs[i] :: xs.drop (i + 1) := (List.drop_eq_getElem_cons hlt)
    rw [hd] at el
    unfold lcGo at el
    obtain ⟨o, st4, eo, el⟩ := bind_inv el
    unfold lcF at eo
    obtain ⟨ρ1, st5, eb0, eo1⟩ := bind_inv eo
    obtain ⟨eb, est⟩ := of_inv eb0
    subst est
    obtain ⟨k, st6, ek, eo2⟩ := bind_inv eo1
    have sD : ∀ g2 H3, Step g' H2 g2 H3 → H3 D = some (.lst ws) ∧ D ∉ g2.η ∧ ¬ g2.F D := fun g2 H3 s => by
      have h2 : H2 D = some (.lst ws) := sy.keep D _ hD' nη
      refine ⟨s.keep D _ h2 nη, fun z => ?_, fun z => ?_⟩
      · obtain ⟨ex, x1, x2⟩ := s.ext
        rw [x1] at z
        rcases List.mem_append.mp z with z | z
        · exact nη z
        · rw [x2 D z] at h2; cases h2
      · rcases s.new D z with z | z
        · exact nF z
        · rw [h2] at z; cases z
    have sg2 : Step g1 H1 g' H2 := s'.trans sy
    have rpw : RepE Γ X.K g' st5 (wipeR ρ (own.map (·.2))) (L2.wipe σ (own.map (·.2))) H2 := (rp1.step sg2 wy).wipe
    refine ⟨g', st5, xs[i], wipeR ρ (own.map (·.2)), ρ1, wy, ry, eb, fun σ2 sets => ⟨?_, ?_⟩⟩
    · rw [sets.wipe htg]
      have ww : ∀ (vs : List Nat) (σ : St), L2.wipe (L2.wipe σ vs) vs = L2.wipe σ vs := by
        intro vs σ
        have z : ∀ (us : List Nat) (σ : St), (∀ i ∈ us, i ∈ vs) → L2.wipe (L2.wipe σ us) vs = L2.wipe σ vs := by
          intro us
          induction us with
          | nil => intro σ _; rfl
          | cons u us ih =>
            intro σ h
            show L2.wipe ((L2.wipe σ us).set u none) vs = _
            rw [wipe_set (h u List.mem_cons_self)]
            exact ih σ fun i hi => h i (List.mem_cons_of_mem _ hi)
        exact z vs σ fun _ h => h
      exact ww _ _
    · have rp2 : RepE Γ X.K g' st5 ρ1 σ2 H2 := rpw.sets sets
      refine ⟨g', st5, ρ1, rp2, ?_⟩
      rw [ek]
      intro g3 H3 bb s3 w3 ebb
      have ebb : k = bb := ebb
      subst ebb
      cases k with
      | false =>
        rw [if_neg (by simp)]
        have eo : (Res.ok none st6 : Res (Option T)) = .ok o st4 := eo2
        cases eo
        obtain ⟨d1, d2, d3⟩ := sD g3 H3 s3
        exact ⟨g3, st4, acc, ws, sg2.trans s3, w3, d1, d3, d2, racc.step (sy.trans s3) w', el⟩
      | true =>
        rw [if_pos rfl]
        have eo : M.bind (M.bind (ev Γ (orc Γ n) a ρ1) keepR) (fun t => .ok (some t)) st6 = .ok o st4 := eo2
        obtain ⟨t, st7, et, eo⟩ := bind_inv eo
        have eo : (Res.ok (some t) st7 : Res (Option T)) = .ok o st4 := eo
        cases eo
        obtain ⟨rr, st8, err, ekp⟩ := bind_inv et
        have rp3 : RepE Γ X.K g3 st6 ρ1 σ2 H3 := rp2.step s3 w3
        refine ⟨g3, st6, ρ1, rp3, ?_⟩
        rw [err]
        intro g4 H4 y s4 w4 r4
        obtain ⟨es7, et7, g5, s5, w5, r5, m5⟩ := r4.stay s4 w4 ekp
        subst es7 et7
        obtain ⟨d1, d2, d3⟩ := sD g5 H4 (s3.trans s5)
        have el : (if acc.length < big then lcGo (lcF Γ (orc Γ n) tgT cs a (wipeR ρ (own.map (·.2)))) (acc ++ [rr.1]) (xs.drop (i + 1)) else M.fail) st4 = .ok ys st2 := el
        by_cases hb : acc.length < big
        · rw [if_pos hb] at el
          have ra : RelTs X.K g5 H4 acc ws := racc.step (sy.trans (s3.trans s5)) w'
          refine ⟨ws, d1, by rw [← ra.length, ← big_eq]; exact hb, g5, st4, acc ++ [rr.1], ws ++ [y], ?_, w5.own d1 d3 d2, upd_same, d3, d2, ?_, el⟩
          · exact Step.own (sg2.trans (s3.trans s5)) d1 hD
          · exact RelTs.mono (Mono.own d1 d3) _ _ (ra.append (.cons r5 .nil))
        · rw [if_neg hb] at el; cases el
  · have e : i = xs.length := by omega
    subst e
    refine .inl ⟨e2, ?_⟩
    rw [List.drop_length] at el
    have el : (Res.ok acc st' : Res (List T)) = .ok ys st2 := el
    cases el
    exact qf g' H' (.ref D) (s1.trans s') w' ⟨_, D, ws, rfl, rfl, hD', racc, nF, nη, s1.back hD⟩
theorem snd_lc {scope : Scope} {own : List (Str × Nat)} {ifs : List Expr} {elt iter : Expr} {tgT : Tg} {cs : B} {ik : IK} {vs : List Nat} (hc : X.calm = true) (hN : X.N.Nodup) (hvs : vs = own.map (·.2)) (htg : ∀ i ∈ tgT.vars, i ∈ vs) (hi : PI X tg iter (tI Γ X.K n W ik m)) (ok : BlkOk X.N X.env.scope scope own)
    (hg : ∀ (s : Shared) (H : Hp) (C : Addr) (cl : List (Str × Addr)) (fp : List Addr), PG (X.blk s H scope (compEnvC scope cl C X.env) fp) tg (gT Γ X.K tgT))
    (ht : ∀ (s : Shared) (H : Hp) (C : Addr) (cl : List (Str × Addr)) (fp : List Addr), PTs (X.blk s H scope (compEnvC scope cl C X.env) fp) ifs (tB Γ X.K n (fun _ _ _ _ => False) cs))
    (he : ∀ (s : Shared) (H : Hp) (C : Addr) (cl : List (Str × Addr)) (fp : List Addr), PE (X.blk s H scope (compEnvC scope cl C X.env) fp) elt (tE Γ X.K n (fun _ _ _ _ => False) a))
    (hs : ∀ x, foldedSetIterable iter X.env x = pure x) : PE X (.ListComp elt [⟨tg, iter, ifs, 0⟩] scope pos) (tE Γ X.K n W (.lc a tgT ik m cs vs)) := by
  subst hvs
  exact (pe_lc hc hN hi ok hg ht he hs).imp fun σ H Q h => lc_re htg h
end
end G

set_option Elab.async false
set_option linter.all false
set_option maxRecDepth 100000
set_option maxHeartbeats 1000000
/-! Statements: what stands between them; small statements. -/
namespace G
open PySem PySem.Spec PyProof.Rows L2

/-- between statements; g0, H0: at the def's entry -/
structure RepS (Γ : Gam) (K : PySem.W.Frag) (g0 : Gh) (H0 : Hp) (g : Gh) (st : Store) (ρ : Ro) (σ : St) (H : Hp) : Prop where
  e : RepE Γ K g st ρ σ H
  s : Step g0 H0 g H
  ow : ∀ (i : Nat) ts a, ρ[i]? = some (.ow ts) → σ[i]? = some (some (.ref a)) → ¬ g.F a ∧ H0 a = none
  dj : ∀ (i j : Nat) ts us, ρ[i]? = some (.ow ts) → ρ[j]? = some (.ow us) → σ[i]? = σ[j]? → i = j
section
variable {Γ : Gam} {K : PySem.W.Frag} {g0 g g1 : Gh} {st st1 : Store} {ρ ρ' : Ro} {σ σ' : St} {H0 H H1 : Hp}
theorem RepS.at (r : RepS Γ K g0 H0 g st ρ σ H) {i : Nat} {ts : List T} (h : ρ[i]? = some (.ow ts)) : ∃ a xs, σ[i]? = some (some (.ref a)) ∧ H a = some (.lst xs) ∧ a ∉ g.η ∧ RelTs K g H ts xs ∧ ¬ g.F a ∧ H0 a = none := by
  obtain ⟨v, h1, a, xs, e, h2, h3, h4⟩ := r.e.ow i ts h
  subst e
  obtain ⟨h5, h6⟩ := r.ow i ts a h h1
  exact ⟨a, xs, h1, h2, h3, h4, h5, h6⟩
theorem RepS.step (r : RepS Γ K g0 H0 g st ρ σ H) (s : Step g H g1 H1) (w : WF Γ K g1 st1 H1) : RepS Γ K g0 H0 g1 st1 ρ σ H1 := by
  refine ⟨r.e.step s w, r.s.trans s, fun i ts a h1 h2 => ?_, r.dj⟩
  obtain ⟨b, xs, e1, e2, e3, e4, e5, e6⟩ := r.at h1
  rw [h2] at e1
  cases e1
  refine ⟨fun z => ?_, e6⟩
  rcases s.new a z with z | z
  · exact e5 z
  · rw [e2] at z; cases z
theorem RepS.put {i : Nat} {t : T} {v : V} (r : RepS Γ K g0 H0 g st ρ σ H) (h : RelT K g H t v) : RepS Γ K g0 H0 g st (ρ.set i (.va t)) (σ.set i (some v)) H := by
  have ne : ∀ (j : Nat) us, (ρ.set i (.va t))[j]? = some (.ow us) → i ≠ j ∧ ρ[j]? = some (.ow us) := fun j us e => by
    by_cases hij : i = j
    · subst hij
      have hl : i < ρ.length := by
        have := (List.getElem?_eq_some_iff.mp e).1
        rwa [List.length_set] at this
      rw [List.getElem?_set_self hl] at e
      cases e
    · rw [List.getElem?_set_ne hij] at e
      exact ⟨hij, e⟩
  refine ⟨r.e.put h, r.s, fun j us a h1 h2 => ?_, fun j k us ws h1 h2 h3 => ?_⟩
  · obtain ⟨e1, e2⟩ := ne j us h1
    rw [List.getElem?_set_ne e1] at h2
    exact r.ow j us a e2 h2
  · obtain ⟨e1, e2⟩ := ne j us h1
    obtain ⟨e3, e4⟩ := ne k ws h2
    rw [List.getElem?_set_ne e1, List.getElem?_set_ne e3] at h3
    exact r.dj j k us ws e2 e4 h3
theorem RepS.sets {I : List Nat} (r : RepS Γ K g0 H0 g st ρ σ H) (a : Sets K g H I ρ σ ρ' σ') : RepS Γ K g0 H0 g st ρ' σ' H := by
  induction a with
  | refl => exact r
  | step h1 h2 _ ih => exact ih (r.put h2)
theorem RepS.putOw {i : Nat} {ts : List T} {a : Addr} {xs : List V} (r : RepS Γ K g0 H0 g st ρ σ H) (h1 : H a = some (.lst xs)) (h2 : RelTs K g H ts xs) (h3 : ¬ g.F a) (h4 : a ∉ g.η) (h5 : H0 a = none)
    (h6 : ∀ (j : Nat) us, ρ[j]? = some (.ow us) → j ≠ i → σ[j]? ≠ some (some (.ref a))) : RepS Γ K g0 H0 g st (ρ.set i (.ow ts)) (σ.set i (some (.ref a))) H := by
  have cs : ∀ (j : Nat) s, (ρ.set i (.ow ts))[j]? = some s → (i = j ∧ s = .ow ts ∧ (σ.set i (some (.ref a)))[j]? = some (some (.ref a))) ∨ (i ≠ j ∧ ρ[j]? = some s ∧ (σ.set i (some (.ref a)))[j]? = σ[j]?) := fun j s e => by
    by_cases hij : i = j
    · subst hij
      have hl : i < ρ.length := by
        have := (List.getElem?_eq_some_iff.mp e).1
        rwa [List.length_set] at this
      rw [List.getElem?_set_self hl] at e
      cases e
      exact .inl ⟨rfl, rfl, List.getElem?_set_self (by rw [← r.e.len]; exact hl)⟩
    · rw [List.getElem?_set_ne hij] at e
      exact .inr ⟨hij, e, List.getElem?_set_ne hij⟩
  refine ⟨⟨r.e.wf, by rw [List.length_set, List.length_set]; exact r.e.len, fun j u e => ?_, fun j us e => ?_⟩, r.s, fun j us b e1 e2 => ?_, fun j k us ws e1 e2 e3 => ?_⟩
  · rcases cs j _ e with ⟨_, z, _⟩ | ⟨_, z1, z2⟩
    · cases z
    · rw [z2]; exact r.e.va j u z1
  · rcases cs j _ e with ⟨_, z, z2⟩ | ⟨_, z1, z2⟩
    · cases z
      exact ⟨_, z2, a, xs, rfl, h1, h4, h2⟩
    · rw [z2]; exact r.e.ow j us z1
  · rcases cs j _ e1 with ⟨_, z, z2⟩ | ⟨_, z1, z2⟩
    · rw [z2] at e2
      cases e2
      exact ⟨h3, h5⟩
    · rw [z2] at e2
      exact r.ow j us b z1 e2
  · rcases cs j _ e1 with ⟨q, _, z2⟩ | ⟨q, z1, z2⟩
    · rcases cs k _ e2 with ⟨q', _, y2⟩ | ⟨q', y1, y2⟩
      · rw [← q, ← q']
      · rw [z2, y2] at e3
        exact absurd e3.symm (h6 k ws y1 (Ne.symm q'))
    · rcases cs k _ e2 with ⟨q', _, y2⟩ | ⟨q', y1, y2⟩
      · rw [z2, y2] at e3
        exact absurd e3 (h6 j us z1 (Ne.symm q))
      · rw [z2, y2] at e3
        exact r.dj j k us ws z1 y1 e3
/-- a slot's own list is rewritten -/
theorem RepS.mut {i : Nat} {ts ts' : List T} {a : Addr} {xs ys : List V} (r : RepS Γ K g0 H0 g st ρ σ H) (h : ρ[i]? = some (.ow ts)) (h0 : σ[i]? = some (some (.ref a))) (h1 : H a = some (.lst xs)) (h2 : RelTs K g H ts' ys) :
    RepS Γ K g0 H0 g st (ρ.set i (.ow ts')) σ (upd H a (.lst ys)) ∧ Mono K g H g (upd H a (.lst ys)) := by
  obtain ⟨b, zs, e1, e2, e3, e4, e5, e6⟩ := r.at h
  rw [h0] at e1
  cases e1
  have mo : Mono K g H g (upd H a (.lst ys)) := Mono.own h1 e5
  have w' := r.e.wf.own (ys := ys) h1 e5 e3
  have hl : i < ρ.length := (List.getElem?_eq_some_iff.mp h).1
  refine ⟨⟨⟨w', by rw [List.length_set]; exact r.e.len, fun j u e => ?_, fun j us e => ?_⟩, Step.own r.s h1 e6, fun j us b e1 e2 => ?_, fun j k us ws e1 e2 e3 => ?_⟩, mo⟩
  · by_cases hij : i = j
    · subst hij
      rw [List.getElem?_set_self hl] at e; cases e
    · rw [List.getElem?_set_ne hij] at e
      obtain ⟨v, k1, k2⟩ := r.e.va j u e
      exact ⟨v, k1, RelT.mono mo _ _ k2⟩
  · by_cases hij : i = j
    · subst hij
      rw [List.getElem?_set_self hl] at e
      cases e
      exact ⟨_, h0, a, ys, rfl, upd_same, e3, RelTs.mono mo _ _ h2⟩
    · rw [List.getElem?_set_ne hij] at e
      obtain ⟨b, zs, k1, k2, k3, k4, k5, k6⟩ := r.at e
      refine ⟨_, k1, b, zs, rfl, ?_, k3, RelTs.mono mo _ _ k4⟩
      rw [upd_ne fun z => ?_]
      · exact k2
      · rw [z] at k1
        exact hij (r.dj i j _ _ h e (h0.trans k1.symm))
  · by_cases hij : i = j
    · subst hij
      exact r.ow i ts b h e2
    · rw [List.getElem?_set_ne hij] at e1
      exact r.ow j us b e1 e2
  · have back : ∀ (j : Nat) us, (ρ.set i (.ow ts'))[j]? = some (.ow us) → ∃ us', ρ[j]? = some (.ow us') := fun j us e => by
      by_cases hij : i = j
      · subst hij; exact ⟨_, h⟩
      · rw [List.getElem?_set_ne hij] at e; exact ⟨_, e⟩
    obtain ⟨_, q1⟩ := back j us e1
    obtain ⟨_, q2⟩ := back k ws e2
    exact r.dj j k _ _ q1 q2 e3
/-- a cell is rewritten -/
theorem RepS.cell {n : Nat} {a : Addr} {c c' : Cell} {o' : HO} (r : RepS Γ K g0 H0 g st ρ σ H) (h : g.η[n]? = some a) (hc : ∀ m, Mono K g H g (upd H a o') → m = upd H a o' → CellAt Γ K g m c' a) :
    RepS Γ K g0 H0 g (st.set n c') ρ σ (upd H a o') ∧ Mono K g H g (upd H a o') := by
  have w := r.e.wf
  have mem : a ∈ g.η := List.mem_of_getElem? h
  have mo : Mono K g H g (upd H a o') := by
    refine ⟨fun b zs f hb => ⟨f, ?_⟩, fun b zs hb => ?_, fun b zs hb => ?_, fun _ _ h => h⟩
    · rw [upd_ne (fun e => (w.fl b f).2 (by rw [e]; exact mem))]; exact hb
    · rcases hb with (hb | ⟨o, hb⟩) | hb
      · exact .inl (.inl (by rw [upd_ne (fun e => w.tupN hb (by rw [e]; exact mem))]; exact hb))
      · exact .inl (.inr ⟨o, by rw [upd_ne (fun e => w.frzN hb (by rw [e]; exact mem))]; exact hb⟩)
      · exact .inr hb
    · rcases hb with ⟨o, hb⟩ | hb
      · exact .inl ⟨o, by rw [upd_ne (fun e => w.frzN hb (by rw [e]; exact mem))]; exact hb⟩
      · exact .inr hb
  have w' : WF Γ K g (st.set n c') (upd H a o') := by
    refine ⟨fun b f => ?_, w.nd, by rw [List.length_set]; exact w.len, fun k d b h1 h2 => ?_⟩
    · obtain ⟨⟨zs, hb⟩, h2⟩ := w.fl b f
      exact ⟨⟨zs, by rw [upd_ne (fun e => h2 (by rw [e]; exact mem))]; exact hb⟩, h2⟩
    · by_cases hk : n = k
      · subst hk
        rw [h] at h2
        cases h2
        have hl := (List.getElem?_eq_some_iff.mp h1).1
        rw [List.length_set] at hl
        rw [List.getElem?_set_self hl] at h1
        cases h1
        exact hc _ mo rfl
      · rw [List.getElem?_set_ne hk] at h1
        have hb : b ≠ a := fun e => by
          subst e
          have l1 := (List.getElem?_eq_some_iff.mp h).1
          exact hk ((List.getElem?_inj l1 w.nd).mp (h.trans h2.symm))
        exact (w.ce k d b h1 h2).mono mo fun o ho => by rw [upd_ne hb]; exact ho
  refine ⟨⟨⟨w', r.e.len, fun j u e => ?_, fun j us e => ?_⟩, ?_, r.ow, r.dj⟩, mo⟩
  · obtain ⟨v, k1, k2⟩ := r.e.va j u e
    exact ⟨v, k1, RelT.mono mo _ _ k2⟩
  · obtain ⟨v, k1, b, zs, rfl, k2, k3, k4⟩ := r.e.ow j us e
    refine ⟨_, k1, b, zs, rfl, ?_, k3, RelTs.mono mo _ _ k4⟩
    rw [upd_ne fun z => k3 (by rw [z]; exact mem)]; exact k2
  · obtain ⟨o, ho⟩ : ∃ o, H a = some o := by
      rcases w.cellO mem with ⟨_, e⟩ | ⟨_, _, _, e⟩ <;> exact ⟨_, e⟩
    refine ⟨r.s.mono, r.s.new, r.s.ext, fun b u hb hη => ?_, fun b u hb => ?_⟩
    · have hba : b ≠ a := fun z => by
        subst z
        obtain ⟨ex, x1, x2⟩ := r.s.ext
        rw [x1] at mem
        rcases List.mem_append.mp mem with m | m
        · exact hη m
        · rw [x2 b m] at hb; cases hb
      rw [upd_ne hba]; exact r.s.keep b u hb hη
    · by_cases hba : b = a
      · exact ⟨o', by rw [hba]; exact upd_same⟩
      · obtain ⟨u', hu⟩ := r.s.dom b u hb
        exact ⟨u', by rw [upd_ne hba]; exact hu⟩
/-- slots are frozen -/
theorem RepS.frz : ∀ (fz : List Nat), RepS Γ K g0 H0 g st ρ σ H → ∃ g', RepS Γ K g0 H0 g' st (frz ρ fz) σ H ∧ Mono K g H g' H
  | [], r => ⟨g, r, Mono.refl⟩
  | i :: fz, r => by
    obtain ⟨g', r', m'⟩ := RepS.frz fz r
    unfold G.frz
    cases h : (G.frz ρ fz)[i]? with
    | none => exact ⟨g', r', m'⟩
    | some s =>
      cases s with
      | un => exact ⟨g', r', m'⟩
      | va t => exact ⟨g', r', m'⟩
      | ow ts =>
        show ∃ g'', RepS Γ K g0 H0 g'' st ((G.frz ρ fz).set i (.va (.lst ts))) σ H ∧ Mono K g H g'' H
        obtain ⟨a, xs, e1, e2, e3, e4, e5, e6⟩ := r'.at h
        have hl : i < (G.frz ρ fz).length := (List.getElem?_eq_some_iff.mp h).1
        have mo : Mono K g' H (g'.frz a) H := Mono.frz
        have wf := r'.e.wf.frz e2 e3
        refine ⟨g'.frz a, ⟨⟨wf, by rw [List.length_set]; exact r'.e.len, fun j u e => ?_, fun j us e => ?_⟩, r'.s.frz e6, fun j us b q1 q2 => ?_, fun j k us ws q1 q2 q3 => ?_⟩, m'.trans mo⟩
        · by_cases hij : i = j
          · subst hij
            rw [List.getElem?_set_self hl] at e
            cases e
            exact ⟨_, e1, .lst (.inr rfl) e2 (RelTs.mono mo _ _ e4)⟩
          · rw [List.getElem?_set_ne hij] at e
            obtain ⟨v, k1, k2⟩ := r'.e.va j u e
            exact ⟨v, k1, RelT.mono mo _ _ k2⟩
        · by_cases hij : i = j
          · subst hij
            rw [List.getElem?_set_self hl] at e; cases e
          · rw [List.getElem?_set_ne hij] at e
            obtain ⟨v, k1, k2⟩ := r'.e.ow j us e
            exact ⟨v, k1, k2.mono mo rfl⟩
        · by_cases hij : i = j
          · subst hij
            rw [List.getElem?_set_self hl] at q1; cases q1
          · rw [List.getElem?_set_ne hij] at q1
            obtain ⟨k1, k2⟩ := r'.ow j us b q1 q2
            refine ⟨fun z => ?_, k2⟩
            rcases z with z | z
            · exact k1 z
            · subst z
              exact hij (r'.dj i j _ _ h q1 (e1.trans q2.symm))
        · have back : ∀ (j : Nat) us, ((G.frz ρ fz).set i (.va (.lst ts)))[j]? = some (.ow us) → ∃ us', (G.frz ρ fz)[j]? = some (.ow us') := fun j us e => by
            by_cases hij : i = j
            · subst hij; exact ⟨_, h⟩
            · rw [List.getElem?_set_ne hij] at e; exact ⟨_, e⟩
          obtain ⟨_, y1⟩ := back j us q1
          obtain ⟨_, y2⟩ := back k ws q2
          exact r'.dj j k _ _ y1 y2 q3
end

/-! ### what is wanted behind a statement -/
section
variable (Γ : Gam) (K : PySem.W.Frag) (W : WX) (g0 : Gh) (H0 : Hp)
def WgS (g : Gh) (H : Hp) (D : Ends) (r : RS) : Prop := match r with
  | .ok .nx ρ st => ∀ g' H' σ, Mono K g H g' H' → RepS Γ K g0 H0 g' st ρ σ H' → D.nx σ H'
  | .ok .bk ρ st => ∀ g' H' σ, Mono K g H g' H' → RepS Γ K g0 H0 g' st ρ σ H' → D.bk σ H'
  | .ok .ct ρ st => ∀ g' H' σ, Mono K g H g' H' → RepS Γ K g0 H0 g' st ρ σ H' → D.ct σ H'
  | .ok (.rt r) _ st => ∀ g' H' v, Mono K g H g' H' → Step g0 H0 g' H' → WF Γ K g' st H' → RelR K H0 g' H' r v → D.rt v H'
  | .exn x fs ρ st => ∀ g' H' σ d, Mono K g H g' H' → RepS Γ K g0 H0 g' st ρ σ H' → RelX Γ K g' H' fs d → W (.ref (excA Γ K x)) d σ H'
  | .fail => False
def tS (n : Nat) (m : S) : TS := fun D σ H => ∃ g0 H0 g st ρ, RepS Γ K g0 H0 g st ρ σ H ∧ WgS Γ K W g0 H0 g H D (evS Γ (orc Γ n) m ρ st)
end
section
variable {Γ : Gam} {K : PySem.W.Frag} {W : WX} {g0 g g1 : Gh} {st st1 : Store} {ρ ρ' : Ro} {σ σ' : St} {H0 H H1 : Hp} {D : Ends}
theorem WgS.re {r : RS} (h : WgS Γ K W g0 H0 g H D r) (m : Mono K g H g1 H1) : WgS Γ K W g0 H0 g1 H1 D r := by
  cases r with
  | ok f ρ st =>
    cases f with
    | nx => exact fun g' H' σ m' r => h g' H' σ (m.trans m') r
    | bk => exact fun g' H' σ m' r => h g' H' σ (m.trans m') r
    | ct => exact fun g' H' σ m' r => h g' H' σ (m.trans m') r
    | rt r => exact fun g' H' v m' s w q => h g' H' v (m.trans m') s w q
  | exn x fs ρ st => exact fun g' H' σ d m' r q => h g' H' σ d (m.trans m') r q
  | fail => exact h
theorem then_ok {α : Type} {m : M α} {k : α → MS} {a : α} (h : m st = .ok a st1) : M.then m ρ k st = k a st1 := by unfold M.then; rw [h]
theorem then_exn {α : Type} {m : M α} {k : α → MS} {x : Nat} {fs : List (Nat × T)} (h : m st = .exn x fs st1) : M.then m ρ k st = .exn x fs ρ st1 := by unfold M.then; rw [h]
theorem then_fail {α : Type} {m : M α} {k : α → MS} (h : m st = .fail) : M.then m ρ k st = .fail := by unfold M.then; rw [h]
/-- an expression ahead of a statement's rest -/
theorem thenS {α β : Type} {rel : Gh → Hp → α → β → Prop} {m : M α} {k : α → MS} {R : β → Hp → Prop} (rs : RepS Γ K g0 H0 g st ρ σ H) (q : WgS Γ K W g0 H0 g H D (M.then m ρ k st))
    (hk : ∀ a st1 g1 H1 b, Step g H g1 H1 → WF Γ K g1 st1 H1 → rel g1 H1 a b → RepS Γ K g0 H0 g1 st1 ρ σ H1 → WgS Γ K W g0 H0 g1 H1 D (k a st1) → R b H1) : Wg Γ K rel (fun c d H' => W c d σ H') g H (m st) R := by
  cases e : m st with
  | ok a st1 =>
    rw [then_ok e] at q
    exact fun g1 H1 b s w r => hk a st1 g1 H1 b s w r (rs.step s w) (q.re (s.mon rs.e.wf))
  | exn x fs st1 =>
    rw [then_exn e] at q
    exact fun g1 H1 d s w r => q g1 H1 σ d (s.mon rs.e.wf) (rs.step s w) r
  | fail =>
    rw [then_fail e] at q
    exact q
end
end G

set_option Elab.async false
set_option linter.all false
set_option maxRecDepth 100000
set_option maxHeartbeats 1000000
/-! Statements' rules. -/
namespace G
open PySem PySem.Spec PyProof.Rows L2

section
variable {Γ : Gam} {X : Cx} {n : Nat} {W : WX} {pos pos' p apos cpos tpos : Pos} {l r e o : Expr} {a b c : E} {es : List Expr} {m : EL} {s1 s2 : S} {s : Stmt} {ss rest : List Stmt} {fz : List Nat}
theorem s_pass : PS X (.Pass pos) (tS Γ X.K W n .pass) := ps_pass.imp fun D σ H ⟨g0, H0, g, st, ρ, rs, q⟩ => q g H σ Mono.refl rs
theorem s_doc {x j} : PS X (.Expr (.Constant (.str x) j pos) pos') (tS Γ X.K W n .pass) := ps_doc.imp fun D σ H ⟨g0, H0, g, st, ρ, rs, q⟩ => q g H σ Mono.refl rs
theorem s_brk : PS X (.Break pos) (tS Γ X.K W n .brk) := ps_break.imp fun D σ H ⟨g0, H0, g, st, ρ, rs, q⟩ => q g H σ Mono.refl rs
theorem s_cont : PS X (.Continue pos) (tS Γ X.K W n .cont) := ps_continue.imp fun D σ H ⟨g0, H0, g, st, ρ, rs, q⟩ => q g H σ Mono.refl rs
theorem ss_nil : PSs X [] (tS Γ X.K W n .pass) := pss_nil.imp fun D σ H ⟨g0, H0, g, st, ρ, rs, q⟩ => q g H σ Mono.refl rs
theorem ss_one (h : PS X s (tS Γ X.K W n s1)) : PSs X [s] (tS Γ X.K W n s1) := pss_one h
theorem seq_re {Γ : Gam} {O : Or} {K : PySem.W.Frag} {g0 g : Gh} {H0 H : Hp} {st : Store} {ρ : Ro} {D : Ends} (q : WgS Γ K W g0 H0 g H D (evS Γ O (.seq s1 s2) ρ st))
    (k : ∀ σ' H', (∃ g' st' ρ', RepS Γ K g0 H0 g' st' ρ' σ' H' ∧ WgS Γ K W g0 H0 g' H' D (evS Γ O s2 ρ' st')) → D.nx σ' H' → D.nx σ' H') {N : St → Hp → Prop}
    (hN : ∀ g' H' σ' st' ρ', RepS Γ K g0 H0 g' st' ρ' σ' H' → WgS Γ K W g0 H0 g' H' D (evS Γ O s2 ρ' st') → N σ' H') : WgS Γ K W g0 H0 g H { D with nx := N } (evS Γ O s1 ρ st) := by
  have q : WgS Γ K W g0 H0 g H D (MS.seq (evS Γ O s1 ρ) (evS Γ O s2) st) := q
  unfold MS.seq at q
  cases h : evS Γ O s1 ρ st with
  | ok f ρ1 st1 =>
    rw [h] at q
    cases f with
    | nx => exact fun g' H' σ' m rs => hN g' H' σ' st1 ρ1 rs (q.re m)
    | bk => exact q
    | ct => exact q
    | rt r => exact q
  | exn x fs ρ1 st1 => rw [h] at q; exact q
  | fail => rw [h] at q; exact q
theorem ss_seq (h1 : PS X s (tS Γ X.K W n s1)) (h2 : PSs X rest (tS Γ X.K W n s2)) : PSs X (s :: rest) (tS Γ X.K W n (.seq s1 s2)) := by
  refine (pss_cons h1 h2).imp fun D σ H ⟨g0, H0, g, st, ρ, rs, q⟩ => ?_
  exact ⟨g0, H0, g, st, ρ, rs, seq_re q (fun _ _ _ h => h) fun g' H' σ' st' ρ' rs' q' => ⟨g0, H0, g', st', ρ', rs', q'⟩⟩
theorem s_ret (ha : PE X e (tE Γ X.K n W a)) : PS X (.Return (some e) pos) (tS Γ X.K W n (.ret fz a)) := by
  refine (ps_ret ha).imp fun D σ H ⟨g0, H0, g, st, ρ, rs, q⟩ => ?_
  obtain ⟨g', rs', m'⟩ := rs.frz fz
  have q := q.re m'
  unfold evS at q
  refine ⟨g', st, _, rs'.e, thenS rs' q fun r st1 g1 H1 v s1 w1 rr rs1 q1 => ?_⟩
  have rr' := rr.restart rs'.s
  obtain ⟨t, fl⟩ := r
  cases fl with
  | va => exact q1 g1 H1 v Mono.refl rs1.s w1 rr'
  | fr => exact q1 g1 H1 v Mono.refl rs1.s w1 rr'
  | bo => exact False.elim q1
theorem s_retv {i : Nat} {x : Str} (hN : X.N[i]? = some x) (hv : Vis X.env.scope x) (hd : (x == ("__debug__" : Str)) = false) (hcd : (x == ("__classdict__" : Str)) = false) : PS X (.Return (some (.Name x p)) pos) (tS Γ X.K W n (.retv i)) := by
  refine (ps_ret (pe_var (i := i) hN hv hd hcd)).imp fun D σ H ⟨g0, H0, g, st, ρ, rs, q⟩ => ?_
  unfold evS at q
  cases h : ρ[i]? with
  | none => rw [h] at q; exact False.elim q
  | some s =>
    rw [h] at q
    cases s with
    | un => exact False.elim q
    | va t =>
      obtain ⟨v, h1, h2⟩ := rs.e.va i t h
      exact ⟨v, h1, q g H v Mono.refl rs.s rs.e.wf h2⟩
    | ow ts =>
      obtain ⟨a, xs, e1, e2, e3, e4, e5, e6⟩ := rs.at h
      exact ⟨_, e1, q g H _ Mono.refl rs.s rs.e.wf ⟨ts, a, xs, rfl, rfl, e2, e4, e5, e3, e6⟩⟩
theorem s_retn : PS X (.Return none pos) (tS Γ X.K W n .retn) := ps_retN.imp fun D σ H ⟨g0, H0, g, st, ρ, rs, q⟩ => q g H .non Mono.refl rs.s rs.e.wf .non
theorem s_ite {cb : B} {sa sb : List Stmt} (hc : PT X e (tB Γ X.K n W cb)) (ha : PSs X sa (tS Γ X.K W n s1)) (hb : PSs X sb (tS Γ X.K W n s2)) : PS X (.If e sa sb pos) (tS Γ X.K W n (.ite fz cb s1 s2)) := by
  refine (ps_if hc ha hb).imp fun D σ H ⟨g0, H0, g, st, ρ, rs, q⟩ => ?_
  obtain ⟨g', rs', m'⟩ := rs.frz fz
  have q := q.re m'
  unfold evS at q
  refine ⟨g', st, _, rs'.e, thenS rs' q fun k st1 g1 H1 v s1 w1 rr rs1 q1 => ?_⟩
  cases rr
  cases k with
  | true => exact ⟨g0, H0, g1, st1, _, rs1, q1⟩
  | false => exact ⟨g0, H0, g1, st1, _, rs1, q1⟩
theorem s_ex (ha : PE X e (tE Γ X.K n W a)) (hs : swapsWith e none pos.line X.env = pure false) : PS X (.Expr e pos) (tS Γ X.K W n (.ex fz a)) := by
  refine (ps_expr ha hs).imp fun D σ H ⟨g0, H0, g, st, ρ, rs, q⟩ => ?_
  obtain ⟨g', rs', m'⟩ := rs.frz fz
  have q := q.re m'
  unfold evS at q
  exact ⟨g', st, _, rs'.e, thenS rs' q fun r st1 g1 H1 v s1 w1 rr rs1 q1 => q1 g1 H1 σ Mono.refl rs1⟩

/-! ### assignments -/
theorem setTg_va {i : Nat} {t : T} {ρ : Ro} : setTg (.n i) (t, .va) ρ = some (ρ.set i (.va t)) := by cases t <;> rfl
theorem setTg_tup {a : TgL} {t : T} {fl : Fl} {ρ ρ' : Ro} (h : setTg (.tup a) (t, fl) ρ = some ρ') : fl = .va ∧ bindTg (.tup a) t ρ = some ρ' := by
  cases fl with
  | va => exact ⟨rfl, h⟩
  | fr => cases h
  | bo => cases h
theorem set_name {K : PySem.W.Frag} {g0 g g1 : Gh} {H0 H H1 : Hp} {st st1 : Store} {ρ ρ1 : Ro} {σ : St} {i : Nat} {r : R} {v : V} (rs : RepS Γ K g0 H0 g st ρ σ H) (s1 : Step g H g1 H1) (w1 : WF Γ K g1 st1 H1) (rr : RelR K H g1 H1 r v)
    (e : setTg (.n i) r ρ = some ρ1) : RepS Γ K g0 H0 g1 st1 ρ1 (σ.set i (some v)) H1 := by
  have rs1 := rs.step s1 w1
  obtain ⟨t, fl⟩ := r
  cases fl with
  | va =>
    rw [setTg_va] at e
    cases e
    exact rs1.put rr
  | bo => cases t <;> cases e
  | fr =>
    obtain ⟨ts, a, xs, e1, e2, e3, e4, e5, e6, e7⟩ := rr
    have e1 : t = .lst ts := e1
    subst e1 e2
    have e : some (ρ.set i (.ow ts)) = some ρ1 := e
    cases e
    refine rs1.putOw e3 e4 e5 e6 (rs.s.back e7) fun j us hj _ hz => ?_
    obtain ⟨b, zs, k1, k2, _⟩ := rs.at hj
    rw [hz] at k1
    cases k1
    rw [e7] at k2; cases k2
theorem asg_re {g0 g : Gh} {H0 H : Hp} {st : Store} {ρ : Ro} {σ : St} {D : Ends} {i : Nat} (rs : RepS Γ X.K g0 H0 g st ρ σ H) (q : WgS Γ X.K W g0 H0 g H D (evS Γ (orc Γ n) (.asg fz (.n i) a) ρ st)) : tAsg (tE Γ X.K n W a) (gName i) D σ H := by
  obtain ⟨g', rs', m'⟩ := rs.frz fz
  have q := q.re m'
  unfold evS at q
  refine ⟨g', st, _, rs'.e, thenS rs' q fun r st1 g1 H1 v s1 w1 rr rs1 q1 => ?_⟩
  cases e : setTg (.n i) r (frz ρ fz) with
  | none => rw [e] at q1; exact False.elim q1
  | some ρ1 =>
    rw [e] at q1
    exact q1 g1 H1 _ Mono.refl (set_name rs' s1 w1 rr e)
theorem s_set {i : Nat} {x : Str} (hN : X.N.Nodup) (hi : X.N[i]? = some x) (hx : Loc X.env.scope x) (ha : PE X e (tE Γ X.K n W a)) (hs : swapsWith e (some (.Name x pos')) pos.line X.env = pure false) (hf : X.fn x = true ∨ X.env.scope.names.lookup x = some .local) :
    PS X (.Assign [.Name x pos'] e pos) (tS Γ X.K W n (.asg fz (.n i) a)) := (ps_set hN hi hx ha hs hf).imp fun D σ H ⟨g0, H0, g, st, ρ, rs, q⟩ => asg_re rs q
theorem s_asgT {ta : TgL} (ha : PE X e (tE Γ X.K n W a)) (hg : PG X o (gT Γ X.K (.tup ta))) (hs : swapsWithSole [o] e pos.line X.env = pure false) (hw : swappedStores [o] e X.env = pure none) (h1 : (assignEach [o] X.env).map (·.2) = [assign o X.env]) :
    PS X (.Assign [o] e pos) (tS Γ X.K W n (.asg fz (.tup ta) a)) := by
  refine (ps_asg ha hg hs hw h1).imp fun D σ H ⟨g0, H0, g, st, ρ, rs, q⟩ => ?_
  obtain ⟨g', rs', m'⟩ := rs.frz fz
  have q := q.re m'
  unfold evS at q
  refine ⟨g', st, _, rs'.e, thenS rs' q fun r st1 g1 H1 v s1 w1 rr rs1 q1 => ?_⟩
  cases e : setTg (.tup ta) r (frz ρ fz) with
  | none => rw [e] at q1; exact False.elim q1
  | some ρ1 =>
    rw [e] at q1
    obtain ⟨t, fl⟩ := r
    obtain ⟨ef, eb⟩ := setTg_tup e
    subst ef
    exact ⟨g1, st1, t, _, ρ1, w1, rr, eb, fun σ' sets => q1 g1 H1 σ' Mono.refl (rs1.sets sets)⟩
/-- rows with their flags -/
inductive RelF (K : PySem.W.Frag) (H : Hp) (g' : Gh) (H' : Hp) : List R → List V → Prop
  | nil : RelF K H g' H' [] []
  | cons {r : R} {v : V} {rs : List R} {vs : List V} : RelR K H g' H' r v → (∀ a, r.2 = .fr → v = .ref a → ∀ p ∈ rs.zip vs, p.1.2 = .fr → p.2 ≠ .ref a) → RelF K H g' H' rs vs → RelF K H g' H' (r :: rs) (v :: vs)
def tF (Γ : Gam) (K : PySem.W.Frag) (n : Nat) (W : WX) (m : EL) : TA := fun σ H Q => ∃ g st ρ, RepE Γ K g st ρ σ H ∧ Wg Γ K (fun g' H' rs vs => RelF K H g' H' rs vs) (fun c d H' => W c d σ H') g H (evF Γ (orc Γ n) m ρ st) Q
theorem RelF.restart {K : PySem.W.Frag} {g g1 g' : Gh} {H H1 H' : Hp} (s : Step g H g1 H1) : ∀ {rs : List R} {vs : List V}, RelF K H1 g' H' rs vs → RelF K H g' H' rs vs := by
  intro rs vs h
  induction h with
  | nil => exact .nil
  | cons a b _ ih => exact .cons (a.restart s) b ih
theorem RelF.fr {K : PySem.W.Frag} {g' : Gh} {H H' : Hp} : ∀ {rs : List R} {vs : List V}, RelF K H g' H' rs vs → ∀ p ∈ rs.zip vs, p.1.2 = .fr → ∃ a, p.2 = .ref a ∧ H a = none := by
  intro rs vs h
  induction h with
  | nil => intro p hp; cases hp
  | @cons r v rs vs a b _ ih =>
    intro p hp e
    rcases List.mem_cons.mp hp with z | hp
    · subst z
      obtain ⟨t, fl⟩ := r
      have e : fl = .fr := e
      subst e
      obtain ⟨ts, a, xs, e1, e2, e3, e4, e5, e6, e7⟩ := a
      exact ⟨a, e2, e7⟩
    · exact ih p hp e
theorem snd_nilF : PA X [] (tF Γ X.K n W .nil) := pa_nil.imp fun σ H Q ⟨g, st, ρ, rp, q⟩ => q g H [] Step.refl rp.wf .nil
theorem snd_consF (ha : PE X e (tE Γ X.K n W a)) (hr : PA X es (tF Γ X.K n W m)) (hs : starEach (e :: es) X.env = (false, eval e X.env) :: starEach es X.env) : PA X (e :: es) (tF Γ X.K n W (.cons a m)) := by
  refine (pa_cons ha hr hs).imp fun σ H Q ⟨g, st, ρ, rp, q⟩ => ?_
  unfold evF at q
  refine ⟨g, st, ρ, rp, q.split fun x st1 g1 H1 v s1 w1 r1 q1 => ?_⟩
  by_cases hb : x.2 = .bo
  · rw [if_pos hb] at q1; exact False.elim q1
  · rw [if_neg hb] at q1
    refine ⟨g1, st1, ρ, rp.step s1 w1, Wg.split (q1.restart s1 fun _ _ _ _ h => h) fun ts st3 g3 H3 vs s3 w3 r3 q3 => ?_⟩
    refine q3 g3 H3 (v :: vs) s3 w3 (.cons ?_ ?_ (r3.restart s1))
    · obtain ⟨t, fl⟩ := x
      cases fl with
      | va => exact RelT.step r1 s3 w1
      | bo => exact absurd rfl hb
      | fr =>
        obtain ⟨ts, a, xs, e1, e2, e3, e4, e5, e6, e7⟩ := r1
        refine ⟨ts, a, xs, e1, e2, s3.keep a _ e3 e6, e4.step s3 w1, fun z => ?_, fun z => ?_, e7⟩
        · rcases s3.new a z with z | z
          · exact e5 z
          · rw [e3] at z; cases z
        · obtain ⟨ex, x1, x2⟩ := s3.ext
          rw [x1] at z
          rcases List.mem_append.mp z with z | z
          · exact e6 z
          · rw [x2 a z] at e3; cases e3
    · intro a ef ev p hp epf
      obtain ⟨t, fl⟩ := x
      have ef : fl = .fr := ef
      subst ef
      obtain ⟨ts, a', xs, e1, e2, e3, _⟩ := r1
      obtain ⟨b, k1, k2⟩ := r3.fr p hp epf
      rw [k1]
      intro z
      rw [ev] at e2
      cases e2
      cases z
      rw [e3] at k2; cases k2
def setV : List Nat → List V → St → St
  | i :: is, v :: vs, σ => setV is vs (σ.set i (some v))
  | _, _, σ => σ
theorem RepS.row {K : PySem.W.Frag} {g0 g1 : Gh} {H0 H H1 : Hp} {st1 : Store} (hb : ∀ a, H a = none → H0 a = none) : ∀ {is : List Nat} {rs : List R} {vs : List V} {ρ ρ' : Ro} {σ : St}, RelF K H g1 H1 rs vs → RepS Γ K g0 H0 g1 st1 ρ σ H1 →
    (∀ (j : Nat) us a, ρ[j]? = some (.ow us) → σ[j]? = some (some (.ref a)) → ∀ p ∈ rs.zip vs, p.1.2 = .fr → p.2 ≠ .ref a) → setRow is rs ρ = some ρ' → RepS Γ K g0 H0 g1 st1 ρ' (setV is vs σ) H1
  | [], [], _, ρ, ρ', σ, h, rp, _, e => by
    cases h
    have e : some ρ = some ρ' := e
    cases e
    exact rp
  | [], _ :: _, _, _, _, _, _, _, _, e => by cases e
  | _ :: _, [], _, _, _, _, _, _, _, e => by cases e
  | i :: is, r :: rs, _, ρ, ρ', σ, h, rp, inv, e => by
    cases h with
    | @cons _ v _ vs h1 h2 h3 =>
      have e : ((setTg (.n i) r ρ).bind fun ρ1 => setRow is rs ρ1) = some ρ' := e
      cases q : setTg (.n i) r ρ with
      | none => rw [q] at e; cases e
      | some ρ1 =>
        rw [q] at e
        show RepS Γ K g0 H0 g1 st1 ρ' (setV is vs (σ.set i (some v))) H1
        obtain ⟨t, fl⟩ := r
        have old : ∀ (j : Nat) us s, i ≠ j → (ρ.set i s)[j]? = some (.ow us) → ∀ a, (σ.set i (some v))[j]? = some (some (.ref a)) → ∀ p ∈ rs.zip vs, p.1.2 = .fr → p.2 ≠ .ref a := fun j us s hij e1 a e2 p hp => by
          rw [List.getElem?_set_ne hij] at e1 e2
          exact inv j us a e1 e2 p (List.mem_cons_of_mem _ hp)
        cases fl with
        | va =>
          rw [setTg_va] at q
          cases q
          refine RepS.row hb h3 (rp.put h1) (fun j us a e1 e2 p hp => ?_) e
          by_cases hij : i = j
          · subst hij
            have hl : i < ρ.length := by
              have := (List.getElem?_eq_some_iff.mp e1).1
              rwa [List.length_set] at this
            rw [List.getElem?_set_self hl] at e1
            cases e1
          · exact old j us _ hij e1 a e2 p hp
        | bo => cases t <;> cases q
        | fr =>
          obtain ⟨ts, a, xs, e1, e2, e3, e4, e5, e6, e7⟩ := h1
          have e1 : t = .lst ts := e1
          subst e1 e2
          have q : some (ρ.set i (.ow ts)) = some ρ1 := q
          cases q
          refine RepS.row hb h3 (rp.putOw e3 e4 e5 e6 (hb a e7) fun j us hj _ hz => ?_) (fun j us b k1 k2 p hp => ?_) e
          · exact inv j us a hj hz _ List.mem_cons_self rfl rfl
          · by_cases hij : i = j
            · subst hij
              have hl : i < σ.length := by
                have := (List.getElem?_eq_some_iff.mp k2).1
                rwa [List.length_set] at this
              rw [List.getElem?_set_self hl] at k2
              cases k2
              exact h2 a rfl rfl p hp
            · exact old j us _ hij k1 b k2 p hp
theorem par_re {g0 g : Gh} {H0 H : Hp} {st : Store} {ρ : Ro} {σ : St} {D : Ends} {is : List Nat} (rs : RepS Γ X.K g0 H0 g st ρ σ H) (q : WgS Γ X.K W g0 H0 g H D (evS Γ (orc Γ n) (.par fz is m) ρ st)) :
    tF Γ X.K n W m σ H fun vs H1 => D.nx (setV is vs σ) H1 := by
  obtain ⟨g', rs', m'⟩ := rs.frz fz
  have q := q.re m'
  unfold evS at q
  refine ⟨g', st, _, rs'.e, thenS rs' q fun r st1 g1 H1 vs s1 w1 rr rs1 q1 => ?_⟩
  cases e : setRow is r (frz ρ fz) with
  | none => rw [e] at q1; exact False.elim q1
  | some ρ1 =>
    rw [e] at q1
    refine q1 g1 H1 _ Mono.refl (RepS.row (fun a h => rs'.s.back h) rr rs1 (fun j us a e1 e2 p hp ef => ?_) e)
    obtain ⟨b, k1, k2⟩ := rr.fr p hp ef
    rw [k1]
    intro z
    cases z
    obtain ⟨b, zs, y1, y2, _⟩ := rs'.at e1
    rw [e2] at y1
    cases y1
    rw [k2] at y2; cases y2
theorem evF_n {O : Or} {ρ : Ro} : ∀ {m : EL} {st st1 : Store} {ts : List R}, evF Γ O m ρ st = .ok ts st1 → ts.length = m.len := by
  intro m
  induction m using EL.rec (motive_1 := fun _ => True) (motive_3 := fun _ => True) (motive_4 := fun _ => True) with
  | nil =>
    intro st st1 ts h
    unfold evF at h
    have h : (Res.ok [] st : Res (List R)) = .ok ts st1 := h
    cases h
    rfl
  | cons e r _ ih =>
    intro st st1 ts h
    unfold evF at h
    obtain ⟨x, st2, _, h⟩ := bind_inv h
    by_cases hb : x.2 = .bo
    · rw [if_pos hb] at h; cases h
    · rw [if_neg hb] at h
      obtain ⟨us, st3, h3, h⟩ := bind_inv h
      have h : (Res.ok (x :: us) st3 : Res (List R)) = .ok ts st1 := h
      cases h
      simp [EL.len, ih h3]
  | _ => trivial
theorem RelF.length {K : PySem.W.Frag} {g' : Gh} {H H' : Hp} {rs : List R} {vs : List V} (h : RelF K H g' H' rs vs) : rs.length = vs.length := by
  induction h with
  | nil => rfl
  | cons _ _ _ ih => simp [ih]
theorem tF_len {σ : St} {H : Hp} {Q : List V → Hp → Prop} (h : tF Γ X.K n W m σ H Q) : tF Γ X.K n W m σ H fun vs H1 => vs.length = m.len ∧ Q vs H1 := by
  obtain ⟨g, st, ρ, rp, q⟩ := h
  refine ⟨g, st, ρ, rp, ?_⟩
  cases e : evF Γ (orc Γ n) m ρ st with
  | ok rs st1 =>
    rw [e] at q
    exact fun g' H' b s w r => ⟨by rw [← r.length]; exact evF_n e, q g' H' b s w r⟩
  | exn x fs st1 => rw [e] at q; exact q
  | fail => rw [e] at q; exact q
theorem s_par2 {i j : Nat} {x y : Str} {e2 : Expr} {px py pt : Pos} {kt k2 pt2} (hm : m.len = 2) (hc : X.calm = true) (hN : X.N.Nodup) (hi : X.N[i]? = some x) (hj : X.N[j]? = some y) (hij : i ≠ j)
    (hx : X.env.scope.names.lookup x = some .local) (hy : X.env.scope.names.lookup y = some .local) (ha : PA X [e, e2] (tF Γ X.K n W m))
    (hw : swappedStores [.Tuple [.Name x px, .Name y py] kt pt] (.Tuple [e, e2] k2 pt2) X.env = pure (some [x, y]))
    (hs : swapsWithSole [.Tuple [.Name x px, .Name y py] kt pt] (.Tuple [e, e2] k2 pt2) pos.line X.env = pure false) :
    PS X (.Assign [.Tuple [.Name x px, .Name y py] kt pt] (.Tuple [e, e2] k2 pt2) pos) (tS Γ X.K W n (.par fz [i, j] m)) := by
  refine (ps_par hc hN hi hj hij hx hy ha hw hs).imp fun D σ H ⟨g0, H0, g, st, ρ, rs, q⟩ => ?_
  have h := tF_len (par_re rs q)
  obtain ⟨g, st, ρ, rp, q⟩ := h
  refine ⟨g, st, ρ, rp, ?_⟩
  cases e : evF Γ (orc Γ n) m ρ st with
  | ok rs st1 =>
    rw [e] at q
    intro g' H' b s w r
    obtain ⟨h1, h2⟩ := q g' H' b s w r
    rw [hm] at h1
    match b, h1, h2 with
    | [v, w], _, h2 => exact ⟨v, w, rfl, h2⟩
  | exn x fs st1 => rw [e] at q; exact q
  | fail => rw [e] at q; exact q
theorem s_par3 {i j k : Nat} {x y z : Str} {e2 e3 : Expr} {px py pz pt : Pos} {kt k2 pt2} (hm : m.len = 3) (hc : X.calm = true) (hN : X.N.Nodup) (hi : X.N[i]? = some x) (hj : X.N[j]? = some y) (hk : X.N[k]? = some z) (hij : i ≠ j) (hik : i ≠ k) (hjk : j ≠ k)
    (hx : X.env.scope.names.lookup x = some .local) (hy : X.env.scope.names.lookup y = some .local) (hz : X.env.scope.names.lookup z = some .local) (ha : PA X [e, e2, e3] (tF Γ X.K n W m))
    (hw : swappedStores [.Tuple [.Name x px, .Name y py, .Name z pz] kt pt] (.Tuple [e, e2, e3] k2 pt2) X.env = pure (some [x, y, z]))
    (hs : swapsWithSole [.Tuple [.Name x px, .Name y py, .Name z pz] kt pt] (.Tuple [e, e2, e3] k2 pt2) pos.line X.env = pure false) :
    PS X (.Assign [.Tuple [.Name x px, .Name y py, .Name z pz] kt pt] (.Tuple [e, e2, e3] k2 pt2) pos) (tS Γ X.K W n (.par fz [i, j, k] m)) := by
  refine (ps_par3 hc hN hi hj hk hij hik hjk hx hy hz ha hw hs).imp fun D σ H ⟨g0, H0, g, st, ρ, rs, q⟩ => ?_
  have h := tF_len (par_re rs q)
  obtain ⟨g, st, ρ, rp, q⟩ := h
  refine ⟨g, st, ρ, rp, ?_⟩
  cases e : evF Γ (orc Γ n) m ρ st with
  | ok rs st1 =>
    rw [e] at q
    intro g' H' b s w r
    obtain ⟨h1, h2⟩ := q g' H' b s w r
    rw [hm] at h1
    match b, h1, h2 with
    | [u, v, w], _, h2 => exact ⟨u, v, w, rfl, h2⟩
  | exn x fs st1 => rw [e] at q; exact q
  | fail => rw [e] at q; exact q

/-! ### augmented -/
def ipA (op : BOp) : TIp := fun x y H Q => ∃ (K : PySem.W.Frag) (g : Gh) (st : Store) (Γ : Gam) (t u z : T), WF Γ K g st H ∧ RelT K g H t x ∧ RelRd K g H u y ∧ evAug op t u = some z ∧ ∀ v, (∀ g H, RelT K g H z v) → Q v H
theorem ip_aug (op : BOp) : PIp X op.op (ipA op) := by
  intro pins s σ H x y v u Q I rx ry ⟨K, g, st, Γ', t, t', z, w, rt, ru, e, q⟩
  cases op with
  | add =>
    cases t with
    | int i => cases t' with
      | int j =>
        cases rt
        cases ru.int
        have e : some (T.int (i + j)) = some z := e
        cases e
        exact ip_add pins s σ H _ _ v u Q I rx ry ⟨i, j, rfl, rfl, q _ fun _ _ => .int _⟩
      | _ => cases e
    | str i => cases t' with
      | str j =>
        cases rt
        cases ru.str
        have e : (if i.length + j.length ≤ big then some (T.str (i ++ j)) else none) = some z := e
        by_cases hl : i.length + j.length ≤ big
        · rw [if_pos hl] at e
          cases e
          refine iop_add_str pins s σ H _ _ v u Q I rx ry ⟨_, _, rfl, rfl, ?_, ?_⟩
          · rw [toS_len, toS_len, ← big_eq]; exact hl
          · rw [toS_app]; exact q _ fun _ _ => .str _
        · rw [if_neg hl] at e; cases e
      | _ => cases e
    | _ => cases e
  | sub =>
    cases t with
    | int i => cases t' with
      | int j =>
        cases rt
        cases ru.int
        have e : some (T.int (i - j)) = some z := e
        cases e
        exact ip_sub pins s σ H _ _ v u Q I rx ry ⟨i, j, rfl, rfl, q _ fun _ _ => .int _⟩
      | _ => cases e
    | _ => cases e
  | _ => cases e
theorem s_aug {i : Nat} {x : Str} {op : BOp} (hN : X.N.Nodup) (hi : X.N[i]? = some x) (hx : Loc X.env.scope x) (ha : PE X e (tE Γ X.K n W a)) (hf : X.fn x = true ∨ X.env.scope.names.lookup x = some .local) :
    PS X (.AugAssign (.Name x pos') op.op e pos) (tS Γ X.K W n (.aug i op a)) := by
  refine (ps_aug hN hi hx ha (ip_aug op) hf).imp fun D σ H ⟨g0, H0, g, st, ρ, rs, q⟩ => ?_
  unfold evS at q
  cases h : ρ[i]? with
  | none => rw [h] at q; exact False.elim q
  | some s =>
    rw [h] at q
    cases s with
    | un => exact False.elim q
    | ow ts => exact False.elim q
    | va t =>
      obtain ⟨v, h1, h2⟩ := rs.e.va i t h
      refine ⟨v, h1, g, st, ρ, rs.e, thenS rs q fun r st1 g1 H1 y s1 w1 rr rs1 q1 => ?_⟩
      cases ez : evAug op t r.1 with
      | none => rw [ez] at q1; exact False.elim q1
      | some z =>
        rw [ez] at q1
        exact ⟨X.K, g1, st1, Γ, t, r.1, z, w1, h2.step s1 rs.e.wf, rr.rd, ez, fun v rv => q1 g1 H1 _ Mono.refl (rs1.put (rv g1 H1))⟩
end
end G

set_option Elab.async false
set_option linter.all false
set_option maxRecDepth 100000
set_option maxHeartbeats 1000000
/-! Statements' rules: lists, fields, loops. -/
namespace G
open PySem PySem.Spec PyProof.Rows L2

section
variable {Γ : Gam} {X : Cx} {n : Nat} {W : WX} {pos pos' p apos cpos tpos : Pos} {l r e o : Expr} {a b c : E} {es : List Expr} {m : EL} {s1 s2 : S} {s : Stmt} {ss rest : List Stmt} {fz : List Nat}
theorem lookF {K : PySem.W.Frag} {g : Gh} {H : Hp} {fs : List (Nat × T)} {vs : List (Str × V)} {f : Nat} {s : Str} {t : T} {v : V} (nd : Γ.fnm.Nodup) (hs : Γ.fnm[f]? = some s) (r : RelT K g H t v) (h : RelFs Γ K g H fs vs) : RelFs Γ K g H (G.putN f t fs) (putF s v vs) := by
  induction h with
  | nil => exact .cons hs r .nil
  | @cons f' s' t' v' fs vs h1 h2 h3 ih =>
    unfold G.putN putF
    by_cases e : f' = f
    · subst e
      have es : s' = s := Option.some.inj (h1.symm.trans hs)
      subst es
      rw [if_pos rfl, if_pos rfl]
      exact .cons h1 r h3
    · have es : s' ≠ s := fun z => by
        subst z
        have l1 := (List.getElem?_eq_some_iff.mp h1).1
        exact e ((List.getElem?_inj l1 nd).mp (h1.trans hs.symm))
      rw [if_neg e, if_neg es]
      exact .cons h1 h2 ih
/-! ### one's own lists -/
theorem s_app {i : Nat} {x : Str} (hN : X.N[i]? = some x) (hv : Vis X.env.scope x) (hd : (x == ("__debug__" : Str)) = false) (hcd : (x == ("__classdict__" : Str)) = false) (ha : PE X e (tE Γ X.K n W a))
    (hbase : attributeBase (.Name x p) "append" X.env (eval (.Name x p) X.env) = eval (.Name x p) X.env)
    (hfew : ((backTo cpos (starEach [e] X.env)).all (fun x => !x.1) && (backToKw cpos (keywordEach [] X.env)).all (fun x => x.1.isSome)
      && decide (([e] : List Expr).length + ([] : List Keyword).length + (if ([] : List Keyword).isEmpty then 0 else 1) < 30)) = true)
    (hline : (apos.endLine == cpos.line) = true) (hs : starEach [e] X.env = (false, eval e X.env) :: starEach [] X.env)
    (hsw : swapsWith (.Call (.Attribute (.Name x p) "append" apos) [e] [] cpos) none pos.line X.env = pure false) :
    PS X (.Expr (.Call (.Attribute (.Name x p) "append" apos) [e] [] cpos) pos) (tS Γ X.K W n (.app fz i a)) := by
  refine (ps_expr (pe_bm PySem.F.plainAttrs_list PySem.F.slot_list_append PySem.F.type_list_append mt_append (pe_var (i := i) hN hv hd hcd) (pa_cons ha pa_nil hs) hbase hfew hline hs rfl) hsw).imp fun D σ H ⟨g0, H0, g, st, ρ, rs, q⟩ => ?_
  obtain ⟨g', rs', m'⟩ := rs.frz fz
  have q := q.re m'
  unfold evS at q
  cases h : (frz ρ fz)[i]? with
  | none => rw [h] at q; exact False.elim q
  | some sl =>
    rw [h] at q
    cases sl with
    | un => exact False.elim q
    | va _ => exact False.elim q
    | ow ts =>
      obtain ⟨A, xs, e1, e2, e3, e4, e5, e6⟩ := rs'.at h
      have q : WgS Γ X.K W g0 H0 g' H D ((((ev Γ (orc Γ n) a (frz ρ fz)).bind keepR).then (frz ρ fz) fun t => if ts.length < big then nxt ((frz ρ fz).set i (.ow (ts ++ [t]))) else MS.fail) st) := q
      refine ⟨_, e1, .inl ⟨rfl, xs, SqL.of e2⟩, g', st, _, rs'.e, ?_⟩
      cases ee : ev Γ (orc Γ n) a (frz ρ fz) st with
      | fail =>
        have q := q
        rw [then_fail (bind_fail ee)] at q
        exact False.elim q
      | exn y fs st1 =>
        rw [then_exn (bind_exn ee)] at q
        exact fun g1 H1 d s w r => q g1 H1 σ d (s.mon rs'.e.wf) (rs'.step s w) r
      | ok r st1 =>
        intro g1 H1 v s1 w1 rr
        have rs1 := rs'.step s1 w1
        cases ek : keepR r st1 with
        | fail => rw [then_fail ((bind_ok ee).trans ek)] at q; exact False.elim q
        | exn y fs st2 =>
          obtain ⟨t, fl⟩ := r
          cases fl <;> cases ek
        | ok t st2 =>
          rw [then_ok ((bind_ok ee).trans ek)] at q
          obtain ⟨es2, et, g2, s2, w2, r2, m2⟩ := rr.stay s1 w1 ek
          subst es2 et
          have rs2 := rs'.step s2 w2
          by_cases hl : ts.length < big
          · rw [if_pos hl] at q
            obtain ⟨A', xs', k1, k2, k3, k4, k5, k6⟩ := rs2.at h
            rw [e1] at k1
            cases k1
            obtain ⟨rs3, m3⟩ := rs2.mut h e1 k2 (k4.append (.cons r2 .nil))
            exact ⟨A, xs', v, rfl, rfl, k2, by rw [← k4.length, ← big_eq]; exact hl, q g2 _ σ ((s2.mon rs'.e.wf).trans m3) rs3⟩
          · rw [if_neg hl] at q; exact False.elim q
theorem s_ext {i : Nat} {x : Str} (hN : X.N[i]? = some x) (hv : Vis X.env.scope x) (hd : (x == ("__debug__" : Str)) = false) (hcd : (x == ("__classdict__" : Str)) = false) (ha : PE X e (tE Γ X.K n W a))
    (hbase : attributeBase (.Name x p) "extend" X.env (eval (.Name x p) X.env) = eval (.Name x p) X.env)
    (hfew : ((backTo cpos (starEach [e] X.env)).all (fun x => !x.1) && (backToKw cpos (keywordEach [] X.env)).all (fun x => x.1.isSome)
      && decide (([e] : List Expr).length + ([] : List Keyword).length + (if ([] : List Keyword).isEmpty then 0 else 1) < 30)) = true)
    (hline : (apos.endLine == cpos.line) = true) (hs : starEach [e] X.env = (false, eval e X.env) :: starEach [] X.env)
    (hsw : swapsWith (.Call (.Attribute (.Name x p) "extend" apos) [e] [] cpos) none pos.line X.env = pure false) :
    PS X (.Expr (.Call (.Attribute (.Name x p) "extend" apos) [e] [] cpos) pos) (tS Γ X.K W n (.ext fz i a)) := by
  refine (ps_expr (pe_bm PySem.F.plainAttrs_list PySem.F.slot_list_extend PySem.F.type_list_extend mt_extend (pe_var (i := i) hN hv hd hcd) (pa_cons ha pa_nil hs) hbase hfew hline hs rfl) hsw).imp fun D σ H ⟨g0, H0, g, st, ρ, rs, q⟩ => ?_
  obtain ⟨g', rs', m'⟩ := rs.frz fz
  have q := q.re m'
  unfold evS at q
  cases h : (frz ρ fz)[i]? with
  | none => rw [h] at q; exact False.elim q
  | some sl =>
    rw [h] at q
    cases sl with
    | un => exact False.elim q
    | va _ => exact False.elim q
    | ow ts =>
      obtain ⟨A, xs, e1, e2, e3, e4, e5, e6⟩ := rs'.at h
      refine ⟨_, e1, .inl ⟨rfl, xs, SqL.of e2⟩, g', st, _, rs'.e, thenS rs' q fun r st1 g1 H1 v s1 w1 rr rs1 q1 => ?_⟩
      obtain ⟨t, fl⟩ := r
      cases t with
      | lst us =>
        obtain ⟨B, zs, rfl, y1, y2, y3⟩ := rr.rd.lst w1
        by_cases hl : ts.length + us.length ≤ big
        · have q1 : WgS Γ X.K W g0 H0 g1 H1 D ((if ts.length + us.length ≤ big then nxt ((frz ρ fz).set i (.ow (ts ++ us))) else MS.fail) st1) := q1
          rw [if_pos hl] at q1
          obtain ⟨A', xs', k1, k2, k3, k4, k5, k6⟩ := rs1.at h
          rw [e1] at k1
          cases k1
          obtain ⟨rs3, m3⟩ := rs1.mut h e1 k2 (k4.append y3)
          exact ⟨A, B, xs', zs, rfl, rfl, k2, y1, by rw [← k4.length, ← y3.length, ← big_eq]; exact hl, q1 g1 _ σ m3 rs3⟩
        · have q1 : WgS Γ X.K W g0 H0 g1 H1 D ((if ts.length + us.length ≤ big then nxt ((frz ρ fz).set i (.ow (ts ++ us))) else MS.fail) st1) := q1
          rw [if_neg hl] at q1; exact False.elim q1
      | _ => exact False.elim q1
theorem pop_pe {i : Nat} {x : Str} (hN : X.N[i]? = some x) (hv : Vis X.env.scope x) (hd : (x == ("__debug__" : Str)) = false) (hcd : (x == ("__classdict__" : Str)) = false)
    (hbase : attributeBase (.Name x p) "pop" X.env (eval (.Name x p) X.env) = eval (.Name x p) X.env) (hline : (apos.endLine == cpos.line) = true) : PE X (.Call (.Attribute (.Name x p) "pop" apos) [] [] cpos) (tBM0 X.K "list" rPop (tVar i)) :=
  pe_bm0 PySem.F.plainAttrs_list PySem.F.slot_list_pop PySem.F.type_list_pop mt_pop (pe_var (i := i) hN hv hd hcd) hbase hline
theorem pop_re {i : Nat} {tg : Tg} {D : Ends} {σ : St} {H : Hp} {R : V → Hp → Prop} (h : tS Γ X.K W n (.pop tg i) D σ H)
    (k : ∀ g0 H0 g st ρ H1 t v ρ1, RepS Γ X.K g0 H0 g st ρ σ H1 → RelT X.K g H1 t v → setTg tg (t, .va) ρ = some ρ1 → WgS Γ X.K W g0 H0 g H1 D (nxt ρ1 st) → R v H1) : tBM0 X.K "list" rPop (tVar i) σ H R := by
  obtain ⟨g0, H0, g, st, ρ, rs, q⟩ := h
  unfold evS at q
  cases h : ρ[i]? with
  | none => rw [h] at q; exact False.elim q
  | some sl =>
    rw [h] at q
    cases sl with
    | un => exact False.elim q
    | va _ => exact False.elim q
    | ow ts =>
      obtain ⟨A, xs, e1, e2, e3, e4, e5, e6⟩ := rs.at h
      cases hl : ts.getLast? with
      | none =>
        have q : WgS Γ X.K W g0 H0 g H D ((match ts.getLast? with | some t => (match setTg tg (t, .va) (ρ.set i (.ow ts.dropLast)) with | some ρ1 => nxt ρ1 | none => MS.fail) | none => MS.fail) st) := q
        rw [hl] at q; exact False.elim q
      | some t =>
        have q : WgS Γ X.K W g0 H0 g H D ((match ts.getLast? with | some t => (match setTg tg (t, .va) (ρ.set i (.ow ts.dropLast)) with | some ρ1 => nxt ρ1 | none => MS.fail) | none => MS.fail) st) := q
        rw [hl] at q
        cases hs : setTg tg (t, .va) (ρ.set i (.ow ts.dropLast)) with
        | none =>
          have q : WgS Γ X.K W g0 H0 g H D ((match setTg tg (t, .va) (ρ.set i (.ow ts.dropLast)) with | some ρ1 => nxt ρ1 | none => MS.fail) st) := q
          rw [hs] at q; exact False.elim q
        | some ρ1 =>
          have q : WgS Γ X.K W g0 H0 g H D ((match setTg tg (t, .va) (ρ.set i (.ow ts.dropLast)) with | some ρ1 => nxt ρ1 | none => MS.fail) st) := q
          rw [hs] at q
          have hl' : ts[ts.length - 1]? = some t := by rw [← List.getLast?_eq_getElem?]; exact hl
          obtain ⟨v, h1, h2⟩ := e4.get hl'
          obtain ⟨rs3, m3⟩ := rs.mut h e1 e2 e4.dropLast
          refine ⟨_, e1, .inl ⟨rfl, xs, SqL.of e2⟩, A, xs, v, rfl, rfl, e2, by rw [← e4.length]; exact h1, ?_⟩
          exact k g0 H0 g st _ _ t v ρ1 rs3 (RelT.mono m3 _ _ h2) hs (q.re m3)
theorem s_pop {i j : Nat} {x y : Str} (hN : X.N[i]? = some x) (hv : Vis X.env.scope x) (hd : (x == ("__debug__" : Str)) = false) (hcd : (x == ("__classdict__" : Str)) = false)
    (hbase : attributeBase (.Name x p) "pop" X.env (eval (.Name x p) X.env) = eval (.Name x p) X.env) (hline : (apos.endLine == cpos.line) = true) (hNd : X.N.Nodup) (hj : X.N[j]? = some y) (hx : Loc X.env.scope y)
    (hs : swapsWith (.Call (.Attribute (.Name x p) "pop" apos) [] [] cpos) (some (.Name y pos')) pos.line X.env = pure false) (hf : X.fn y = true ∨ X.env.scope.names.lookup y = some .local) :
    PS X (.Assign [.Name y pos'] (.Call (.Attribute (.Name x p) "pop" apos) [] [] cpos) pos) (tS Γ X.K W n (.pop (.n j) i)) := by
  refine (ps_set hNd hj hx (pop_pe hN hv hd hcd hbase hline) hs hf).imp fun D σ H h => ?_
  refine pop_re h fun g0 H0 g st ρ H1 t v ρ1 rs rv e q => ?_
  rw [setTg_va] at e
  cases e
  exact q g H1 _ Mono.refl (rs.put rv)
theorem s_popT {i : Nat} {x : Str} {ta : TgL} (hN : X.N[i]? = some x) (hv : Vis X.env.scope x) (hd : (x == ("__debug__" : Str)) = false) (hcd : (x == ("__classdict__" : Str)) = false)
    (hbase : attributeBase (.Name x p) "pop" X.env (eval (.Name x p) X.env) = eval (.Name x p) X.env) (hline : (apos.endLine == cpos.line) = true) (hg : PG X o (gT Γ X.K (.tup ta)))
    (hs : swapsWithSole [o] (.Call (.Attribute (.Name x p) "pop" apos) [] [] cpos) pos.line X.env = pure false) (hw : swappedStores [o] (.Call (.Attribute (.Name x p) "pop" apos) [] [] cpos) X.env = pure none) (h1 : (assignEach [o] X.env).map (·.2) = [assign o X.env]) :
    PS X (.Assign [o] (.Call (.Attribute (.Name x p) "pop" apos) [] [] cpos) pos) (tS Γ X.K W n (.pop (.tup ta) i)) := by
  refine (ps_asg (pop_pe hN hv hd hcd hbase hline) hg hs hw h1).imp fun D σ H h => ?_
  refine pop_re h fun g0 H0 g st ρ H1 t v ρ1 rs rv e q => ?_
  obtain ⟨_, eb⟩ := setTg_tup e
  exact ⟨g, st, t, ρ, ρ1, rs.e.wf, rv, eb, fun σ' sets => q g H1 σ' Mono.refl (rs.sets sets)⟩

/-! ### cells -/
theorem s_setix {i : Expr} (ha : PE X e (tE Γ X.K n W a)) (ho : PE X o (tE Γ X.K n W b)) (hi : PE X i (tE Γ X.K n W c))
    (hasg : ∀ v, assign (.Subscript o i tpos) X.env v = (do
      let ov ← holding [v] (eval o X.env)
      let iv ← holding [v, ov] (eval i X.env)
      standAt tpos
      holding [v, ov, iv] (setItem ov iv v)
      release [v, ov, iv] []))
    (hs : swapsWithSole [.Subscript o i tpos] e pos.line X.env = pure false) (hw : swappedStores [.Subscript o i tpos] e X.env = pure none) (h1 : (assignEach [.Subscript o i tpos] X.env).map (·.2) = [assign (.Subscript o i tpos) X.env]) :
    PS X (.Assign [.Subscript o i tpos] e pos) (tS Γ X.K W n (.setix fz b c a)) := by
  refine (ps_asg ha (pg_sub ho hi set_list hasg) hs hw h1).imp fun D σ H ⟨g0, H0, g, st, ρ, rs, q⟩ => ?_
  obtain ⟨g', rs', m'⟩ := rs.frz fz
  have q := q.re m'
  unfold evS at q
  refine ⟨g', st, _, rs'.e, ?_⟩
  cases ee : ev Γ (orc Γ n) a (frz ρ fz) st with
  | fail =>
    rw [then_fail (bind_fail ee)] at q
    exact False.elim q
  | exn y fs st1 =>
    rw [then_exn (bind_exn ee)] at q
    exact fun g1 H1 d s w r => q g1 H1 σ d (s.mon rs'.e.wf) (rs'.step s w) r
  | ok r st1 =>
    intro g1 H1 v s1 w1 rr
    cases ek : keepR r st1 with
    | fail => rw [then_fail ((bind_ok ee).trans ek)] at q; exact False.elim q
    | exn y fs st2 =>
      obtain ⟨t, fl⟩ := r
      cases fl <;> cases ek
    | ok t st2 =>
      rw [then_ok ((bind_ok ee).trans ek)] at q
      obtain ⟨es2, et, g2, s2, w2, r2, m2⟩ := rr.stay s1 w1 ek
      subst es2 et
      have rs2 := rs'.step s2 w2
      have q := q.re (s2.mon rs'.e.wf)
      refine ⟨g2, st2, _, rs2.e, thenS rs2 q fun x st3 g3 H3 vo s3 w3 r3 rs3 q3 => ?_⟩
      refine ⟨g3, st3, _, rs3.e, thenS rs3 q3 fun y st4 g4 H4 vi s4 w4 r4 rs4 q4 => ?_⟩
      obtain ⟨tx, fx⟩ := x
      obtain ⟨ty, fy⟩ := y
      cases tx with
      | loc k =>
        cases ty with
        | int j =>
          obtain ⟨A, rfl, eA⟩ := (r3.rd.step s4 w3).loc
          cases r4.rd.int
          have q4 : WgS Γ X.K W g0 H0 g4 H4 D (match st4[k]? with | some (.lst ts) => (match ixN ts.length j with | some i => .ok .nx (frz ρ fz) (st4.set k (.lst (ts.set i r.1))) | none => .fail) | _ => .fail) := q4
          cases hc : st4[k]? with
          | none => rw [hc] at q4; exact False.elim q4
          | some cl =>
            rw [hc] at q4
            cases cl with
            | ins _ _ => exact False.elim q4
            | lst ts =>
              have q4 : WgS Γ X.K W g0 H0 g4 H4 D (match ixN ts.length j with | some i => .ok .nx (frz ρ fz) (st4.set k (.lst (ts.set i r.1))) | none => .fail) := q4
              cases hx : ixN ts.length j with
              | none => rw [hx] at q4; exact False.elim q4
              | some i =>
                rw [hx] at q4
                have ce := w4.ce k _ A hc eA
                cases ce with
                | @lst _ _ xs k1 k2 =>
                  have rv : RelT X.K g4 H4 r.1 v := (r2.step s3 w2).step s4 w3
                  obtain ⟨rs5, m5⟩ := rs4.cell (c := .lst ts) (c' := .lst (ts.set i r.1)) (o' := .lst (xs.set i v)) eA (fun m mm em => by
                    subst em
                    exact .lst upd_same (RelTs.mono mm _ _ (RelTs.set rv i k2)))
                  exact ⟨A, xs, j, i, rfl, rfl, k1, by rw [← k2.length]; exact hx, q4 g4 _ σ m5 rs5⟩
        | _ => exact False.elim q4
      | _ => exact False.elim (by cases ty <;> exact q4)
theorem s_setfld {f : Nat} {s : Str} (F : Facts Γ X.K X.mg) (hf : Γ.fnm[f]? = some s) (ho : PE X o (tE Γ X.K n W b)) (ha : PE X e (tE Γ X.K n W a)) (hs : swapsWith e (some (.Attribute o s pos')) pos.line X.env = pure false) :
    PS X (.Assign [.Attribute o s pos'] e pos) (tS Γ X.K W n (.setfld fz b f a)) := by
  refine (ps_fld ho ha hs).imp fun D σ H ⟨g0, H0, g, st, ρ, rs, q⟩ => ?_
  obtain ⟨g', rs', m'⟩ := rs.frz fz
  have q := q.re m'
  unfold evS at q
  refine ⟨g', st, _, rs'.e, ?_⟩
  cases ee : ev Γ (orc Γ n) a (frz ρ fz) st with
  | fail =>
    rw [then_fail (bind_fail ee)] at q
    exact False.elim q
  | exn y fs st1 =>
    rw [then_exn (bind_exn ee)] at q
    exact fun g1 H1 d s w r => q g1 H1 σ d (s.mon rs'.e.wf) (rs'.step s w) r
  | ok r st1 =>
    intro g1 H1 v s1 w1 rr
    cases ek : keepR r st1 with
    | fail => rw [then_fail ((bind_ok ee).trans ek)] at q; exact False.elim q
    | exn y fs st2 =>
      obtain ⟨t, fl⟩ := r
      cases fl <;> cases ek
    | ok t st2 =>
      rw [then_ok ((bind_ok ee).trans ek)] at q
      obtain ⟨es2, et, g2, s2, w2, r2, m2⟩ := rr.stay s1 w1 ek
      subst es2 et
      have rs2 := rs'.step s2 w2
      have q := q.re (s2.mon rs'.e.wf)
      refine ⟨g2, st2, _, rs2.e, thenS rs2 q fun x st3 g3 H3 vo s3 w3 r3 rs3 q3 => ?_⟩
      obtain ⟨tx, fx⟩ := x
      cases tx with
      | loc k =>
        obtain ⟨A, rfl, eA⟩ := r3.rd.loc
        have q3 : WgS Γ X.K W g0 H0 g3 H3 D (match st3[k]? with | some (.ins c fs) => if fs.length < 900 then .ok .nx (frz ρ fz) (st3.set k (.ins c (putN f r.1 fs))) else .fail | _ => .fail) := q3
        cases hc : st3[k]? with
        | none => rw [hc] at q3; exact False.elim q3
        | some cl =>
          rw [hc] at q3
          cases cl with
          | lst _ => exact False.elim q3
          | ins c fs =>
            have q3 : WgS Γ X.K W g0 H0 g3 H3 D (if fs.length < 900 then .ok .nx (frz ρ fz) (st3.set k (.ins c (putN f r.1 fs))) else .fail) := q3
            by_cases hl : fs.length < 900
            · rw [if_pos hl] at q3
              have ce := w3.ce k _ A hc eA
              cases ce with
              | @ins _ dx _ C _ vs hC k1 k2 =>
                have rv : RelT X.K g3 H3 r.1 v := r2.step s3 w2
                obtain ⟨rs5, m5⟩ := rs3.cell (c := .ins c fs) (c' := .ins c (putN f r.1 fs)) (o' := .ins (clsA Γ X.K c) dx (putF s v vs)) eA (fun m mm em => by
                  subst em
                  exact .ins hC upd_same ((lookF F.nd hf rv k2).mono mm))
                have hlen := k2.length
                exact ⟨A, _, dx, vs, rfl, k1, (F.cl c C hC).1, F.na c C f s hC hf, by omega, q3 g3 _ σ m5 rs5⟩
            · rw [if_neg hl] at q3; exact False.elim q3
      | _ => exact False.elim q3
def rdA (op : BOp) : V → V → Hp → VK → Prop := ipA op
theorem s_augfld {f : Nat} {s : Str} {op : BOp} (F : Facts Γ X.K X.mg) (hf : Γ.fnm[f]? = some s) (ho : PE X o (tE Γ X.K n W b)) (ha : PE X e (tE Γ X.K n W a)) :
    PS X (.AugAssign (.Attribute o s tpos) op.op e pos) (tS Γ X.K W n (.augfld b f op a)) := by
  refine (ps_fldaug ho ha (ip_aug op)).imp fun D σ H ⟨g0, H0, g, st, ρ, rs, q⟩ => ?_
  unfold evS at q
  refine ⟨g, st, _, rs.e, thenS rs q fun x st1 g1 H1 vo s1 w1 r1 rs1 q1 => ?_⟩
  obtain ⟨tx, fx⟩ := x
  cases tx with
  | loc k =>
    obtain ⟨A, rfl, eA⟩ := r1.rd.loc
    have q1 : WgS Γ X.K W g0 H0 g1 H1 D (match st1[k]? with
      | some (.ins c0 fs) => ((match fs.lookup f with
        | some t => (ev Γ (orc Γ n) a ρ).then ρ fun y st' => (match evAug op t y.1, st'[k]? with
          | some z, some (.ins c fs') => if c = c0 ∧ fs'.length < 900 then .ok .nx ρ (st'.set k (.ins c (putN f z fs'))) else .fail
          | _, _ => .fail)
        | none => MS.fail) st1)
      | _ => .fail) := q1
    cases hc : st1[k]? with
    | none => rw [hc] at q1; exact False.elim q1
    | some cl =>
      rw [hc] at q1
      cases cl with
      | lst _ => exact False.elim q1
      | ins c fs =>
        have q1 : WgS Γ X.K W g0 H0 g1 H1 D ((match fs.lookup f with
          | some t => (ev Γ (orc Γ n) a ρ).then ρ fun y st' => match evAug op t y.1, st'[k]? with
            | some z, some (.ins c' fs') => if c' = c ∧ fs'.length < 900 then .ok .nx ρ (st'.set k (.ins c' (putN f z fs'))) else .fail
            | _, _ => .fail
          | none => MS.fail) st1) := q1
        cases hl : fs.lookup f with
        | none => rw [hl] at q1; exact False.elim q1
        | some t =>
          rw [hl] at q1
          have ce := w1.ce k _ A hc eA
          cases ce with
          | @ins _ dx _ C _ vs hC k1 k2 =>
            obtain ⟨v, y1, y2⟩ := (RelFs.look F.nd hf k2).1 t hl
            refine ⟨A, _, dx, vs, v, rfl, k1, (F.cl c C hC).1, F.na c C f s hC hf, y1, g1, st1, ρ, rs1.e, thenS rs1 q1 fun y st2 g2 H2 vy s2 w2 r2 rs2 q2 => ?_⟩
            cases ez : evAug op t y.1 with
            | none => rw [ez] at q2; exact False.elim (by cases st2[k]? <;> exact q2)
            | some z =>
              rw [ez] at q2
              refine ⟨X.K, g2, st2, Γ, t, y.1, z, w2, y2.step s2 w1, r2.rd, ez, fun vz rz => ?_⟩
              have eA2 : g2.η[k]? = some A := (s2.mon w1).loc k A eA
              have q2 : WgS Γ X.K W g0 H0 g2 H2 D (match st2[k]? with | some (.ins c' fs') => if c' = c ∧ fs'.length < 900 then .ok .nx ρ (st2.set k (.ins c' (putN f z fs'))) else .fail | _ => .fail) := by
                cases hc2 : st2[k]? with
                | none => rw [hc2] at q2; exact q2
                | some cl => rw [hc2] at q2; cases cl <;> exact q2
              cases hc2 : st2[k]? with
              | none => rw [hc2] at q2; exact False.elim q2
              | some cl =>
                rw [hc2] at q2
                cases cl with
                | lst _ => exact False.elim q2
                | ins c' fs' =>
                  have q5 : WgS Γ X.K W g0 H0 g2 H2 D (if c' = c ∧ fs'.length < 900 then .ok .nx ρ (st2.set k (.ins c' (putN f z fs'))) else .fail) := q2
                  by_cases hl2 : c' = c ∧ fs'.length < 900
                  · rw [if_pos hl2] at q5
                    have ce2 := w2.ce k _ A hc2 eA2
                    cases ce2 with
                    | @ins _ dx' _ C' _ vs' hC' x1 x2 =>
                      obtain ⟨rs5, m5⟩ := rs2.cell (c := .ins c' fs') (c' := .ins c' (putN f z fs')) (o' := .ins (clsA Γ X.K c') dx' (putF s vz vs')) eA2 (fun m mm em => by
                        subst em
                        exact .ins hC' upd_same ((lookF F.nd hf (rz _ _) x2).mono mm))
                      have hlen := x2.length
                      have h9 := hl2.2
                      obtain ⟨ec, _⟩ := hl2
                      subst ec
                      exact ⟨dx', vs', x1, by omega, q5 g2 _ σ m5 rs5⟩
                  · rw [if_neg hl2] at q5; exact False.elim q5
  | _ => exact False.elim q1
end
end G

set_option Elab.async false
set_option linter.all false
set_option maxRecDepth 100000
set_option maxHeartbeats 1000000
/-! Loops. -/
namespace G
open PySem PySem.Spec PyProof.Rows L2

section
variable {Γ : Gam} {X : Cx} {n : Nat} {W : WX} {pos pos' p apos cpos tpos : Pos} {l r e o tg iter : Expr} {a b c : E} {es : List Expr} {m : EL} {s1 s2 : S} {s : Stmt} {ss rest body : List Stmt} {fz : List Nat}
/-- a loop's body, then on by k -/
theorem loop_re {K : PySem.W.Frag} {g0 g : Gh} {H0 H : Hp} {D : Ends} {r : RS} {k : Ro → MS} {N : St → Hp → Prop}
    (q : WgS Γ K W g0 H0 g H D (match r with | .ok .nx ρ1 st' => k ρ1 st' | .ok .ct ρ1 st' => k ρ1 st' | .ok .bk ρ1 st' => .ok .nx ρ1 st' | r => r))
    (hN : ∀ g' H' σ' st' ρ', Mono K g H g' H' → RepS Γ K g0 H0 g' st' ρ' σ' H' → WgS Γ K W g0 H0 g' H' D (k ρ' st') → N σ' H') : WgS Γ K W g0 H0 g H { nx := N, ct := N, bk := D.nx, rt := D.rt } r := by
  cases r with
  | ok f ρ1 st1 =>
    cases f with
    | nx => exact fun g' H' σ' m rs => hN g' H' σ' st1 ρ1 m rs (q.re m)
    | ct => exact fun g' H' σ' m rs => hN g' H' σ' st1 ρ1 m rs (q.re m)
    | bk => exact q
    | rt r => exact q
  | exn x fs ρ1 st1 => exact q
  | fail => exact q
theorem s_while {cb : B} (hp : PassesOwn (model X.prog X.w) X.A X.env X.xe) (hc : PT X e (tB Γ X.K n W cb)) (hb : PSs X body (tS Γ X.K W n s1)) : PS X (.While e body [] pos) (tS Γ X.K W n (.while cb s1)) := by
  refine (ps_while hp hc hb).imp fun D σ H ⟨g0, H0, g, st, ρ, rs, q⟩ => ?_
  refine ⟨fun m σ H => ∃ g st ρ, RepS Γ X.K g0 H0 g st ρ σ H ∧ WgS Γ X.K W g0 H0 g H D (whileGo (tst Γ (orc Γ n) cb) (evS Γ (orc Γ n) s1) m ρ st), ⟨Γ.wf, g, st, ρ, rs, q⟩, ?_⟩
  rintro m σ H ⟨g, st, ρ, rs, q⟩
  cases m with
  | zero => exact False.elim q
  | succ m =>
    unfold whileGo at q
    refine ⟨g, st, ρ, rs.e, thenS rs q fun k st1 g1 H1 v s1 w1 rr rs1 q1 => ?_⟩
    cases rr
    cases k with
    | false => exact q1 g1 H1 σ Mono.refl rs1
    | true =>
      rw [if_pos rfl]
      refine ⟨fun σ' H' => ∃ g st ρ, RepS Γ X.K g0 H0 g st ρ σ' H' ∧ WgS Γ X.K W g0 H0 g H' D (whileGo (tst Γ (orc Γ n) cb) (evS Γ (orc Γ n) _) m ρ st), fun σ' H' z => ⟨m, Nat.lt_succ_self m, z⟩, g0, H0, g1, st1, ρ, rs1, ?_⟩
      exact loop_re (k := whileGo (tst Γ (orc Γ n) cb) (evS Γ (orc Γ n) _) m) q1 fun g' H' σ' st' ρ' m' rs' q' => ⟨g', st', ρ', rs', q'⟩
theorem then_bind {α β : Type} {m : M α} {f : α → M β} {k : β → MS} {ρ : Ro} {st : Store} : M.then (M.bind m f) ρ k st = M.then m ρ (fun a => M.then (f a) ρ k) st := by
  cases e : m st with
  | ok a st1 =>
    rw [then_ok (k := fun a => M.then (f a) ρ k) e]
    unfold M.then
    rw [bind_ok e]
  | exn x fs st1 => rw [then_exn e, then_exn (bind_exn e)]
  | fail => rw [then_fail e, then_fail (bind_fail e)]
theorem s_for {tgT : Tg} {ik : IK} (hp : PassesOwn (model X.prog X.w) X.A X.env X.xe) (hc : X.calm = true) (hi : PI X tg iter (tIA Γ X.K n W ik m)) (hg : PG X tg (gT Γ X.K tgT)) (hb : PSs X body (tS Γ X.K W n s1))
    (hs : ∀ x, foldedSetIterable iter X.env x = pure x) : PS X (.For tg iter body [] pos) (tS Γ X.K W n (.for fz tgT ik m s1)) := by
  refine (ps_for hp hc hi hg hb hs).imp fun D σ H ⟨g0, H0, g, st, ρ, rs, q⟩ => ?_
  obtain ⟨g', rs', m'⟩ := rs.frz fz
  have q := q.re m'
  unfold evS at q
  rw [← then_bind] at q
  refine ⟨g', st, _, rs'.e, thenS rs' q fun xs st1 g1 H1 J s1 w1 en rs1 q1 => ?_⟩
  refine ⟨fun i m σ H => m = xs.length - i ∧ i ≤ xs.length ∧ ∃ g st ρ, RepS Γ X.K g0 H0 g st ρ σ H ∧ Mono X.K g1 H1 g H ∧ WgS Γ X.K W g0 H0 g H D (forGo tgT (evS Γ (orc Γ n) _) (xs.drop i) ρ st), ⟨xs.length, by simp, Nat.zero_le _, g1, st1, _, rs1, Mono.refl, by simpa using q1⟩, ?_⟩
  rintro i m2 σ2 H2 ⟨rfl, hi', g2, st2, ρ2, rs2, m2, q2⟩
  obtain ⟨e1, e2⟩ := en g2 st2 H2 rs2.e.wf m2
  by_cases hlt : i < xs.length
  · have hx : xs[i]? = some xs[i] := List.getElem?_eq_getElem hlt
    obtain ⟨go, yl⟩ := e1 i _ hx
    refine .inr ⟨go, fun σ' H' => ∃ g st ρ, RepS Γ X.K g0 H0 g st ρ σ' H' ∧ Mono X.K g1 H1 g H' ∧ WgS Γ X.K W g0 H0 g H' D (forGo tgT (evS Γ (orc Γ n) _) (xs.drop (i + 1)) ρ st),
      fun σ' H' z => ⟨xs.length - (i + 1), by omega, rfl, hlt, z⟩, fun x H3 hy => ?_⟩
    obtain ⟨sy, wy, ry⟩ := yl x H3 hy
    have hd : xs.drop i = xs[i] :: xs.drop (i + 1) := (List.drop_eq_getElem_cons hlt)
    rw [hd] at q2
    unfold forGo at q2
    have rs3 := rs2.step sy wy
    have m3 := m2.trans (sy.mon rs2.e.wf)
    have q2 := q2.re (sy.mon rs2.e.wf)
    cases eb : bindTg tgT xs[i] ρ2 with
    | none => rw [eb] at q2; exact False.elim q2
    | some ρ3 =>
      rw [eb] at q2
      refine ⟨g2, st2, xs[i], ρ2, ρ3, wy, ry, eb, fun σ3 sets => ?_⟩
      refine ⟨g0, H0, g2, st2, ρ3, rs3.sets sets, ?_⟩
      exact loop_re (k := forGo tgT (evS Γ (orc Γ n) _) (xs.drop (i + 1))) q2 fun g' H' σ' st' ρ' m' rs' q' => ⟨g', st', ρ', rs', m3.trans m', q'⟩
  · have e : i = xs.length := by omega
    subst e
    refine .inl ⟨e2, ?_⟩
    rw [List.drop_length] at q2
    exact q2 g2 H2 σ2 Mono.refl rs2
end
end G

set_option Elab.async false
set_option linter.all false
set_option maxRecDepth 100000
set_option maxHeartbeats 1000000
/-! raise, try. -/
namespace G
open PySem PySem.Spec PyProof.Rows L2

section
variable {X : Cx}
/-- the end of C(): the exception is let go; it has no dict -/
theorem mk_endN {pins : List (Addr × Obj)} {σ : St} {H1 H2 : Hp} {hp hp2 h2 : Heap} {g1 g2 : Array GenState} {d1 d2 : Drawn} {t1 t2 : Nat} {os1 os2 : OsState} {a C : Addr} (I1 : Inv X pins σ H1 ⟨hp, g1, d1, t1, os1⟩)
    (ha : hp.objs.size ≤ a) (k : ∀ b o, hp.get? b = some o → hp2.get? b = some o) (un : Un (frs X.stack) [] (upd H1 a (exo a C none)) H2 hp2 h2) (hok : HOk X.prog X.w H2 h2) (ho : os2 = os1) (hb : AllBare g2)
    (ea : H2 a = some (exo a C none)) :
    ∃ (t0 : Addr) (G : Heap), Inv X pins σ (del H2 a) ⟨G, g2, d2, t2, os2⟩ ∧ (∀ b o, G.get? b = some o → h2.get? b = some o) ∧ G.get? a = none ∧
      h2.get? a = some ({ cls := .ref C, dict := none, data := .fields #[.ref t0, .none, .none, .none, .bool false, .none] } : Obj) := by
  obtain ⟨t0, hoe⟩ := exo_at hok ea
  have hn : H1 a = none := I1.hok.fresh ha
  obtain ⟨G, g1', g2'⟩ := restrict h2 fun b => decide (b ≠ a)
  have gk : ∀ b, b ≠ a → G.get? b = h2.get? b := fun b hb => g1' b (decide_eq_true hb)
  have ge : G.get? a = none := g2' a (by simp)
  have nha : ∀ {b : Addr} {o : Obj}, hp.get? b = some o → b ≠ a := fun {b o} z => Nat.ne_of_lt (Nat.lt_of_lt_of_le (Heap.lt_size z) ha)
  have up : ∀ {b : Addr}, b ≠ a → H1 b = none → upd H1 a (exo a C none) b = none := fun {b} hb n => by rw [upd_ne hb]; exact n
  have U : Un (frs X.stack) [] H1 (del H2 a) hp G := {
    keep := fun b o z n hf hx => by
      rw [gk b (nha z)]
      exact un.keep b o (k b o z) (up (nha z) n) hf hx
    slot := fun b o z n hf hx => by
      rw [gk b (nha z)]
      exact un.slot b o (k b o z) (up (nha z) n) hf hx
    free := fun b o z n hx => by
      rw [del_ne (nha z)]
      exact un.free b o (k b o z) (up (nha z) n) hx
    there := fun b o z hx => by
      rw [gk b (nha z)]
      exact un.there b o (k b o z) hx
    tups := fun b xs z => by
      rw [del_ne (ne_of_none z hn)]
      exact un.tups b xs (by rw [upd_ne (ne_of_none z hn)]; exact z)
    frzs := fun b o v z => by
      rw [del_ne (ne_of_none z hn)]
      exact un.frzs b o v (by rw [upd_ne (ne_of_none z hn)]; exact z)
    tbls := fun b ps z => by
      rw [del_ne (ne_of_none z hn)]
      exact un.tbls b ps (by rw [upd_ne (ne_of_none z hn)]; exact z) }
  have hok3 : HOk X.prog X.w (del H2 a) G := fun b o z => by
    have hba : b ≠ a := fun e => by
      rw [e, del_same] at z
      cases z
    rw [del_ne hba] at z
    have noa : ∀ {c : Addr}, H2 c = some (.own b) → c ≠ a := fun {c} hc => at_ne ea hc exo_own
    exact (hok b o z).stay (fun c v hc y => by
        have hca : c ≠ a := by
          rcases hc with hc | hc
          · rw [hc]
            exact hba
          · exact noa hc
        rw [gk c hca]
        exact y)
      (fun c hc => by rw [del_ne (noa hc)]; exact hc) (fun c xs hc => by rw [del_ne (at_ne ea hc exo_tup)]; exact hc)
  have J : Inv X pins σ (del H2 a) ⟨G, g2, d2, t2, os2⟩ := I1.call' (ch := []) ho U hok3 hb (fun b z => absurd z (by simp))
  refine ⟨t0, G, J, fun b o z => ?_, ge, hoe⟩
  by_cases hba : b = a
  · rw [hba, ge] at z
    cases z
  · exact (gk b hba).symm.trans z
/-- __init__ of an exception leaves its instance as it is -/
def spI (K : PySem.W.Frag) : Sp := fun vs H Q _ => ∃ a C, vs = [.ref a] ∧ OexC K C ∧ H a = some (exo a C none) ∧ Q .non H
theorem pmk_bare {x : Str} {C fI : Addr} {k : Nat} {fd : FuncData} {ps : List Str} {p pos : Pos} (T : OexC X.K C) (iC : PySem.W.findIn X.K (.ref C) "__init__" = some (some (.ref fI))) (tI : PySem.W.typeIn X.K (.ref fI) = some (.type "function"))
    (F1 : FnOk X.prog X.w X.K X.mg X.base (L2.CX X.prog X.w) k fI fd ps (spI X.K)) (hr : Room (k + 1) X.A) (hb : Binds X.K fd ps []) (hg : Gl X x) (hm : X.mg x = some (.ref C)) (hdb : (x == ("__debug__" : Str)) = false) :
    PMk X (.Call (.Name x p) [] [] pos) (fun _ H Q => Q (.ref C) none H) := by
  intro pins s σ H Q I h
  obtain ⟨nm, q, N, bs, bm, sn, sub, ab, col, dd, k0, k1, k2, k3, k5, hC, hbm⟩ := T.cls
  refine wpAny_Call_Name_kw (ld_glob I hg hm ?_ hdb)
  refine PySem.W.callWith_K0 I.kIn T.kC ?_
  obtain ⟨hp, g, dr, tk, os⟩ := s
  have hsz : hp.objs.size ≤ hp.objs.size + 1 := Nat.le_succ _
  have hn : H (hp.objs.size + 1) = none := I.hok.fresh hsz
  have kk : ∀ b o, hp.get? b = some o → ((hp.push (PySem.W.kdv_tup [])).push (PySem.HandSPX.excO C hp.objs.size)).get? b = some o := fun b o e => Heap.get?_push_of_some _ (Heap.get?_push_of_some _ e)
  have hget : ((hp.push (PySem.W.kdv_tup [])).push (PySem.HandSPX.excO C hp.objs.size)).get? (hp.objs.size + 1) = some (PySem.HandSPX.excO C hp.objs.size) := by heap_get
  have I2 : Inv X pins σ (upd H (hp.objs.size + 1) (exo (hp.objs.size + 1) C none)) ⟨(hp.push (PySem.W.kdv_tup [])).push (PySem.HandSPX.excO C hp.objs.size), g, dr, tk, os⟩ :=
    I.laid (t' := tk) (a := hp.objs.size + 1) (o := exo (hp.objs.size + 1) C none) (h' := (hp.push (PySem.W.kdv_tup [])).push (PySem.HandSPX.excO C hp.objs.size)) kk hsz (exo_ok hget)
  have r2 : Vals [V.ref (hp.objs.size + 1)] [Value.ref (hp.objs.size + 1)] := .cons rfl .nil
  have hq : spI X.K [V.ref (hp.objs.size + 1)] (upd H (hp.objs.size + 1) (exo (hp.objs.size + 1) C none)) (fun v H2 => v = .non ∧ H2 = upd H (hp.objs.size + 1) (exo (hp.objs.size + 1) C none)) (fun _ _ _ => False) :=
    ⟨_, C, rfl, T, upd_same, rfl, rfl⟩
  have hl : [Value.ref (hp.objs.size + 1)].length = ps.length := by
    have e := r2.length
    rw [F1.len _ _ _ _ hq] at e
    exact e.symm
  have b := hb _ [Value.ref (hp.objs.size + 1)] I2.kIn (by rw [List.append_nil]; exact hl)
  rw [List.append_nil] at b
  refine wpAny_call (PySem.HandSPX.call_own F.excBase_ValueError (fun Y => PySem.HandSPX.refsVE_contains Y bm hbm) (I.kIn _ _ hC) (PySem.W.looks_findIn I.kIn iC) (fun self => PySem.W.bind_fn I.kIn self tI) (by show 0 ≤ sizeLine; exact Nat.zero_le _)
    (codeAny_mono (F1.run _ X.stack _ _ ⟨[Value.ref (hp.objs.size + 1)], []⟩ [Value.ref (hp.objs.size + 1)] _ _ (fun _ _ _ => False) (hr.make C [] []) (I2.env0.make C [] []) b r2 hq) fun r s' hq' => ?_))
  cases r with
  | error er => exact (passL (X := X)) pins σ _ _ er s' I2 hq'
  | ok fl =>
    cases fl with
    | ret u =>
      obtain ⟨v, H2, os2, bare2, un2, hok2, rv, ev, eH⟩ := hq'
      subst ev eH
      obtain ⟨h2, g2, d2, t2, os'⟩ := s'
      obtain ⟨t0, G, J, kG, ge, hoe⟩ := mk_endN (d2 := d2) (t2 := t2) I hsz kk un2 hok2 os2 bare2 upd_same
      have e0 : del (upd H (hp.objs.size + 1) (exo (hp.objs.size + 1) C none)) (hp.objs.size + 1) = H := by
        funext b
        by_cases hb : b = hp.objs.size + 1
        · rw [hb, del_same, hn]
        · rw [del_ne hb, upd_ne hb]
      rw [e0] at J
      refine ⟨rv, hp.objs.size + 1, _, _, ⟨G, g2, d2, t2, os'⟩, H, .ref C, none, rfl, J, kG, ge, hoe, ⟨rfl, rfl⟩, rfl, rfl, hn, rfl, bare2, raises_own T.exC T.tyC, h⟩
    | next => exact False.elim hq'
    | brk => exact False.elim hq'
    | cont => exact False.elim hq'
end
/-- the exceptions without fields that the layer knows -/
def ExOk (P : Program) (w : World) (K : PySem.W.Frag) (mg : Str → Option Value) (base : Heap) (Γ : Gam) : Prop :=
  ∀ (x : Nat) C, Γ.exs[x]? = some C → mg C.name = some (.ref (excA Γ K x)) ∧ PySem.W.exmOne K (.ref (excA Γ K x)) (.ref (excA Γ K x)) = some true ∧ (C.flds = [] → OexC K (excA Γ K x) ∧
    ∃ fI fd ps, PySem.W.findIn K (.ref (excA Γ K x)) "__init__" = some (some (.ref fI)) ∧ PySem.W.typeIn K (.ref fI) = some (.type "function") ∧ FnOk P w K mg base (L2.CX P w) 1 fI fd ps (spI K) ∧ Binds K fd ps [])
section
variable {Γ : Gam} {X : Cx} {n : Nat} {W : WX} {pos pos' p : Pos} {s1 s2 : S} {s : Stmt} {ss : List Stmt} {m : S}
theorem s_never (h : ∀ O ρ st, evS Γ O m ρ st = .fail) : PS X s (tS Γ X.K W n m) := ps_never.imp fun D σ H ⟨g0, H0, g, st, ρ, rs, q⟩ => by
  rw [h] at q
  exact q
theorem s_raise {x : Nat} {C : XD} {nm : Str} (hE : ExOk X.prog X.w X.K X.mg X.base Γ) (hc : X.calm = true) (hr : Room (n + 2) X.A) (tk : Takes X W) (hx : Γ.exs[x]? = some C) (hf : C.flds = []) (hn : nm = C.name) (hg : Gl X nm) (hdb : (nm == ("__debug__" : Str)) = false) :
    PS X (.Raise (some (.Call (.Name nm p) [] [] pos)) none pos') (tS Γ X.K W n (.raise x .nil)) := by
  subst hn
  obtain ⟨h1, h2, h3⟩ := hE x C hx
  obtain ⟨T, fI, fd, ps, f1, f2, f3, f4⟩ := h3 hf
  refine (ps_raise hc tk (pmk_bare T f1 f2 f3 (hr.mono (by omega)) f4 hg h1 hdb)).imp fun D σ H ⟨g0, H0, g, st, ρ, rs, q⟩ => ?_
  have e : evS Γ (orc Γ n) (.raise x .nil) ρ st = .exn x [] ρ st := by
    unfold evS
    rw [hx]
    show (if C.flds = [] then (fun st => RS.exn x [] ρ st) else MS.fail) st = _
    rw [if_pos hf]
  rw [e] at q
  exact q g H σ none Mono.refl rs (.inl ⟨rfl, rfl⟩)
theorem s_raise0 {x : Nat} {C : XD} {es : EL} (hx : Γ.exs[x]? = some C) (hf : C.flds ≠ []) : PS X s (tS Γ X.K W n (.raise x es)) := s_never fun O ρ st => by
  unfold evS
  cases es with
  | cons _ _ => rfl
  | nil =>
    rw [hx]
    show (if C.flds = [] then (fun st => RS.exn x [] ρ st) else MS.fail) st = _
    rw [if_neg hf]
    rfl
theorem s_raise1 {x : Nat} {e : E} {es : EL} : PS X s (tS Γ X.K W n (.raise x (.cons e es))) := s_never fun O ρ st => by
  unfold evS
  rfl
theorem s_try {x : Nat} {C : XD} {nm : Str} {body suite : List Stmt} {b₀ : Stmt} {np : Pos} (hE : ExOk X.prog X.w X.K X.mg X.base Γ) (hs : X.stack = X.env :: X.outer) (hf : X.env.frame = some X.env.locals) (tk : Takes X W) (hx : Γ.exs[x]? = some C) (hn : nm = C.name) (hg : Gl X nm)
    (hdb : (nm == ("__debug__" : Str)) = false)
    (hb : ∀ (W : WX) (pn : List (Addr × Obj)) (xe : Value → Shared → Prop), Takes (X.tr pn xe) W → PassesOwn (model X.prog X.w) X.A X.env xe → PSs (X.tr pn xe) body (tS Γ X.K W n s1))
    (hsu : ∀ (a : Addr) (oe : Obj) (pn : List (Addr × Obj)), PSs (X.suite a ((a, oe) :: pn)) (b₀ :: suite) (tS Γ X.K (fun _ _ _ _ => False) n s2)) :
    PS X (.Try body [.ExceptHandler (some (.Name nm np)) none (b₀ :: suite) pos'] [] [] pos) (tS Γ X.K W n (.try s1 x s2)) := by
  subst hn
  obtain ⟨h1, h2, _⟩ := hE x C hx
  refine (ps_try_only (tb := fun W => tS Γ X.K W n s1) (ts := fun _ _ _ => tS Γ X.K (fun _ _ _ _ => False) n s2) hs hf ⟨hg, hdb, .inl h1⟩ tk hb (fun a oe cls d pn _ _ => hsu a oe pn)).imp fun D σ H ⟨g0, H0, g, st, ρ, rs, q⟩ => ?_
  refine ⟨g0, H0, g, st, ρ, rs, ?_⟩
  unfold evS at q
  cases e : evS Γ (orc Γ n) s1 ρ st with
  | ok f ρ1 st1 =>
    rw [e] at q
    have q1 : WgS Γ X.K W g0 H0 g H D (.ok f ρ1 st1) := q
    cases f <;> exact q1
  | fail => rw [e] at q; exact q
  | exn y fs ρ1 st1 =>
    rw [e] at q
    have q1 : WgS Γ X.K W g0 H0 g H D (if y = x then (match evS Γ (orc Γ n) s2 ρ1 st1 with | .exn _ _ _ _ => .fail | r => r) else .fail) := q
    by_cases hy : y = x
    · rw [if_pos hy] at q1
      subst hy
      intro g' H' σ' d m' rs' _
      refine ⟨true, h2, fun _ a _ => ?_, fun z => nomatch z⟩
      refine ⟨g0, H0, g', st1, ρ1, rs', ?_⟩
      have q2 := q1.re m'
      cases e2 : evS Γ (orc Γ n) s2 ρ1 st1 with
      | ok f ρ2 st2 =>
        rw [e2] at q2
        have q3 : WgS Γ X.K W g0 H0 g' H' D (.ok f ρ2 st2) := q2
        cases f <;> exact q3
      | fail => rw [e2] at q2; exact q2
      | exn _ _ _ _ => rw [e2] at q2; exact False.elim q2
    · rw [if_neg hy] at q1; exact False.elim q1
end
end G

set_option Elab.async false
set_option linter.all false
set_option maxRecDepth 100000
set_option maxHeartbeats 1000000
/-! The checker's small facts about the text. -/
namespace G
open PySem PySem.Spec PyProof.Rows L2

def starB : Expr → Bool
  | .Starred .. => true
  | _ => false
def plainsB : List Expr → Bool
  | [] => true
  | e :: es => !starB e && plainsB es
theorem star_cons {e : Expr} {es : List Expr} {env : Env} (h : starB e = false) : starEach (e :: es) env = (false, eval e env) :: starEach es env := by
  cases e <;> first | rfl | cases h
theorem asg_cons {e : Expr} {es : List Expr} {env : Env} (h : starB e = false) : assignEach (e :: es) env = (false, assign e env) :: assignEach es env := by
  cases e <;> first | rfl | cases h
theorem plains_all {es : List Expr} {env : Env} {pos : Pos} (h : plainsB es = true) : (backTo pos (starEach es env)).all (fun x => !x.1) = true := by
  induction es with
  | nil => rfl
  | cons e es ih =>
    simp only [plainsB, Bool.and_eq_true, Bool.not_eq_true'] at h
    rw [star_cons h.1]
    show (true && (backTo pos (starEach es env)).all (fun x => !x.1)) = true
    rw [ih h.2]
    rfl
theorem plains_any {es : List Expr} {env : Env} {pos : Pos} (h : plainsB es = true) : (backTo pos (starEach es env)).any (·.1) = false := by
  induction es with
  | nil => rfl
  | cons e es ih =>
    simp only [plainsB, Bool.and_eq_true, Bool.not_eq_true'] at h
    rw [star_cons h.1]
    show (false || (backTo pos (starEach es env)).any (·.1)) = false
    rw [ih h.2]
    rfl
theorem plains_len {es : List Expr} {env : Env} (h : plainsB es = true) : (assignEach es env).length = es.length ∧ (assignEach es env).findIdx? (·.1) = none := by
  induction es with
  | nil => exact ⟨rfl, rfl⟩
  | cons e es ih =>
    simp only [plainsB, Bool.and_eq_true, Bool.not_eq_true'] at h
    rw [asg_cons h.1]
    obtain ⟨h1, h2⟩ := ih h.2
    refine ⟨by simp [h1], ?_⟩
    rw [List.findIdx?_cons]
    simp [h2]
def baseB : Expr → Bool
  | .Name .. => true
  | .Constant .. => true
  | .List .. => true
  | .Attribute .. => true
  | .Subscript .. => true
  | .Tuple .. => true
  | _ => false
theorem base_ok {o : Expr} {s : Str} {env : Env} {w : Sem Value} (h : baseB o = true) : attributeBase o s env w = w := by
  cases o <;> first | rfl | cases h
theorem few_ok {es : List Expr} {env : Env} {pos : Pos} (h : plainsB es = true) (hl : decide (es.length < 30) = true) :
    ((backTo pos (starEach es env)).all (fun x => !x.1) && (backToKw pos (keywordEach [] env)).all (fun x => x.1.isSome) && decide (es.length + ([] : List Keyword).length + (if ([] : List Keyword).isEmpty then 0 else 1) < 30)) = true := by
  rw [plains_all h]
  exact hl
theorem meth_ht {o : Expr} {s : Str} {env : Env} {apos pos : Pos} {es : List Expr} (hb : baseB o = true) (h : plainsB es = true) (hl : decide (es.length < 30) = true) (hline : (apos.endLine == pos.line) = true) :
    eval (.Call (.Attribute o s apos) es [] pos) env = (do
      let ov ← eval o env
      standAt apos.atName
      let (f, first) ← holding [ov] (getMethod ov s (do return (← importBound o env).getD true))
      callWith pos f first (backTo pos (starEach es env)) (backToKw pos (keywordEach [] env))) := by
  have e0 : eval (.Call (.Attribute o s apos) es [] pos) env = (do
      let ov ← attributeBase o s env (eval o env)
      standAt apos.atName
      methodCall o s apos pos env ov (es.length + 0) (backTo pos (starEach es env)) (backToKw pos (keywordEach [] env))) := by
    rw [PySem.eval]
    rfl
  rw [e0, base_ok hb]
  have hf : methodCallForm (es.length + 0) (backTo pos (starEach es env)) (backToKw pos (keywordEach [] env)) = true := by
    unfold methodCallForm
    rw [plains_all h]
    exact hl
  have e1 : ∀ ov, methodCall o s apos pos env ov (es.length + 0) (backTo pos (starEach es env)) (backToKw pos (keywordEach [] env)) = (do
      let (f, first) ← holding [ov] (getMethod ov s (do return (← importBound o env).getD true))
      callWith pos f first (backTo pos (starEach es env)) (backToKw pos (keywordEach [] env))) := fun ov => by
    have e2 : methodCallPos true o env apos pos = pure pos := by
      unfold methodCallPos
      rw [hline]
      rfl
    unfold methodCall calleeOf
    rw [hf, e2]
    rfl
  simp only [e1]
/-- a subscript that is no slice -/
def ixB : Expr → Bool
  | .Slice .. => false
  | _ => true
theorem ix_ok {e : Expr} (h : ixB e = true) : PlainIx e := fun o i => by
  cases e <;> first | rfl | cases h
def setB : Expr → Bool
  | .Set .. => true
  | _ => false
theorem set_ok {e : Expr} {env : Env} (h : setB e = false) : ∀ x, foldedSetIterable e env x = pure x := fun x => by
  cases e <;> first | rfl | cases h
/-- no test of its own kind -/
def valB : Expr → Bool
  | .UnaryOp .. => false
  | .BoolOp .. => false
  | .IfExp .. => false
  | .Compare .. => false
  | _ => true
theorem val_ok {e : Expr} {env : Env} (h : valB e = true) : ∀ whole, isTrue e env whole = (do let v ← whole; standAt e.pos; holding [v] (truthy v)) := fun whole => by
  cases e <;> first | rfl | cases h
/-- no comprehension -/
def compB : Expr → Bool
  | .ListComp .. => true
  | .SetComp .. => true
  | .DictComp .. => true
  | _ => false
theorem sw_ok {e : Expr} {t : Option Expr} {l : Nat} {env : Env} (h : compB e = false) : swapsWith e t l env = pure false := by
  cases e <;> first | rfl | cases h
def nameB : Expr → Bool
  | .Name .. => true
  | _ => false
theorem sws_ok {e t : Expr} {l : Nat} {env : Env} (h : nameB t = false) : swapsWithSole [t] e l env = pure false := by
  show swapsWith e (some t) l env = pure false
  cases e <;> first | rfl | (cases t <;> first | rfl | cases h)
theorem swf_ok {e o : Expr} {s : Str} {p : Pos} {l : Nat} {env : Env} : swapsWith e (some (.Attribute o s p)) l env = pure false := by
  cases e <;> rfl
def tupB : Expr → Bool
  | .Tuple .. => true
  | .List .. => true
  | _ => false
theorem sst_ok {e t : Expr} {env : Env} (h : tupB e = false) : swappedStores [t] e env = pure none := by
  unfold swappedStores
  cases e <;> first | (cases t <;> rfl) | cases h
theorem sss_ok {e o i : Expr} {p : Pos} {env : Env} : swappedStores [.Subscript o i p] e env = pure none := by
  unfold swappedStores
  cases e <;> rfl
theorem mark_ok {op : CmpOp} {e : Expr} (h : setB e = false) : behindInMarks op e = false := by
  cases e <;> first | rfl | cases h
end G

set_option Elab.async false
set_option linter.all false
set_option maxRecDepth 100000
set_option maxHeartbeats 4000000
/-! The checker of expressions: that a text is what the layer's terms tell. -/
namespace G
open PySem PySem.Spec PyProof.Rows L2

structure Ck where
  N : List Str
  sc : Scope
  df : Bool
def dbgB (x : Str) : Bool := x == ("__debug__" : Str)
def cdB (x : Str) : Bool := x == ("__classdict__" : Str)
def slotB (ck : Ck) (i : Nat) (x : Str) : Bool := decide (ck.N[i]? = some x)
def visB (ck : Ck) (x : Str) : Bool := match ck.sc.names.lookup x with
  | some .local => true
  | some .cell => true
  | some .free => true
  | _ => false
def locB (ck : Ck) (x : Str) : Bool := match ck.sc.names.lookup x with
  | some .local => true
  | some .cell => ck.df
  | _ => false
def glB (ck : Ck) (x : Str) : Bool := match ck.sc.names.lookup x with
  | some .globalImplicit => true
  | _ => false
def varB (ck : Ck) (i : Nat) (x : Str) : Bool := slotB ck i x && visB ck x && !dbgB x && !cdB x
mutual
def ckT : Tg → Ck → Expr → Bool
  | .n i, ck, e => match e with
    | .Name x _ => slotB ck i x && locB ck x
    | _ => false
  | .tup a, ck, e => match e with
    | .Tuple es _ _ => plainsB es && decide (es.length = a.len) && ckTs a ck es
    | _ => false
def ckTs : TgL → Ck → List Expr → Bool
  | .nil, _, es => match es with
    | [] => true
    | _ => false
  | .cons a r, ck, es => match es with
    | e :: es => !starB e && ckT a ck e && ckTs r ck es
    | [] => false
end
def tupleB : Expr → Bool
  | .Tuple .. => true
  | _ => false
/-- the expressions that a source is made of -/
def srcOf (ck : Ck) (tg : Expr) : IK → Expr → Option (List Expr)
  | .seq, e => some [e]
  | .rng, e => match e with
    | .Call (.Name x _) [a] [] _ => if (decide (x = "range") && glB ck x && !starB a) = true then some [a] else none
    | .Call (.Name x _) [a, b] [] _ => if (decide (x = "range") && glB ck x && !starB a && !starB b) = true then some [a, b] else none
    | _ => none
  | .enum, e => match e with
    | .Call (.Name x _) [a] [] _ => if (decide (x = "enumerate") && glB ck x && !starB a && tupleB tg) = true then some [a] else none
    | _ => none
  | .zip, e => match e with
    | .Call (.Name x _) [a, b] [] _ => if (decide (x = "zip") && glB ck x && !starB a && !starB b && tupleB tg) = true then some [a, b] else none
    | _ => none
def ckIn (ck : Ck) (scope : Scope) : Ck := { ck with sc := relS scope ck.sc, df := false }
def ownOf (ck : Ck) (own : List Nat) : List (Str × Nat) := own.map fun i => (ck.N.getD i "", i)
section
variable (Γ : Gam)
mutual
def ckE : E → Ck → Expr → Bool
  | .v i, ck, e => match e with
    | .Name x _ => varB ck i x
    | _ => false
  | .c t, _, e => match e with
    | .Constant c _ _ => match t, c with
      | .non, .none => true
      | .bl a, .bool b => a == b
      | .int a, .int b => decide (a = b)
      | .str a, .str b => decide (b = toS a)
      | .byt a, .bytes b => decide (b = a)
      | _, _ => false
    | _ => false
  | .g k, ck, e => match e with
    | .Name x _ => match Γ.gls[k]? with
      | some p => decide (p.1 = x) && glB ck x && !dbgB x
      | none => false
    | _ => false
  | .bin op a b, ck, e => match e with
    | .BinOp l o r _ => decide (o = op.op) && ckE a ck l && ckE b ck r
    | _ => false
  | .neg a, ck, e => match e with
    | .UnaryOp .USub l _ => ckE a ck l
    | _ => false
  | .cmp op a b, ck, e => match e with
    | .Compare l [o] [r] _ => decide (o = op.op) && !setB r && ckE a ck l && ckE b ck r
    | _ => false
  | .ch2 op op' a b c, ck, e => match e with
    | .Compare l [o, o'] [r, r'] _ => decide (o = op.op) && decide (o' = op'.op) && !setB r' && ckE a ck l && ckE b ck r && ckE c ck r'
    | _ => false
  | .isn y a, ck, e => match e with
    | .Compare l [o] [.Constant .none _ _] _ => decide (o = if y = true then .Is else .IsNot) && ckE a ck l
    | _ => false
  | .isb y k a, ck, e => match e with
    | .Compare l [o] [.Constant (.bool k') _ _] _ => decide (o = if y = true then .Is else .IsNot) && (k == k') && ckE a ck l
    | _ => false
  | .and a b, ck, e => match e with
    | .BoolOp .And [l, r] _ => ckE a ck l && ckE b ck r
    | .BoolOp .And (l :: r :: r' :: rest) p => ckE a ck l && ckE b ck (.BoolOp .And (r :: r' :: rest) p)
    | _ => false
  | .or a b, ck, e => match e with
    | .BoolOp .Or [l, r] _ => ckE a ck l && ckE b ck r
    | .BoolOp .Or (l :: r :: r' :: rest) p => ckE a ck l && ckE b ck (.BoolOp .Or (r :: r' :: rest) p)
    | _ => false
  | .not a, ck, e => match e with
    | .UnaryOp .Not l _ => ckE a ck l
    | _ => false
  | .ife c a b, ck, e => match e with
    | .IfExp t l r _ => ckB c ck t && ckE a ck l && ckE b ck r
    | _ => false
  | .tup es, ck, e => match e with
    | .Tuple xs _ _ => ckL es ck xs
    | _ => false
  | .lst es, ck, e => match e with
    | .List xs _ => ckL es ck xs
    | _ => false
  | .new es, ck, e => match e with
    | .List xs _ => ckL es ck xs
    | _ => false
  | .ix a i, ck, e => match e with
    | .Subscript l r _ => ixB r && ckE a ck l && ckE i ck r
    | _ => false
  | .sl a lo hi, ck, e => match e with
    | .Subscript l (.Slice x y none _) _ => ckE a ck l && ckO lo ck x && ckO hi ck y
    | _ => false
  | .call f es, ck, e => match e with
    | .Call (.Name x _) (y :: ys) [] _ => (match Γ.fds[f]? with
      | some fd => decide (fd.owner = none) && decide (fd.nm = x)
      | none => false) && glB ck x && !dbgB x && ckL es ck (y :: ys)
    | _ => false
  | .bi b es, ck, e => match e with
    | .Call (.Name x _) (y :: ys) [] _ => decide (x = b.name) && glB ck x && ckL es ck (y :: ys)
    | _ => false
  | .isi a t, ck, e => match e with
    | .Call (.Name x _) [l, .Name tn _] [] _ => decide (x = "isinstance") && decide (tn = (t.name : Str)) && glB ck x && glB ck tn && !starB l && ckE a ck l
    | _ => false
  | .mt m o es, ck, e => match e with
    | .Call (.Attribute l s ap) (y :: ys) [] p => decide (s = "index") && (ap.endLine == p.line) && decide ((y :: ys).length < 30) && baseB l && ckL es ck (y :: ys) && (match m with
      | .lindex => ckE o ck l
      | .sindex => ckE o ck l
      | .tindex => match o, l with
        | .g k, .Name x _ => (match Γ.gls[k]? with
          | some q => decide (q.1 = x) && glB ck x && !dbgB x
          | none => false)
        | _, _ => false)
    | _ => false
  | .meth m o es, ck, e => match e with
    | .Call (.Attribute l s ap) ys [] p => decide (Γ.mnm[m]? = some s) && (ap.endLine == p.line) && decide (ys.length < 30) && baseB l && ckE o ck l && ckL es ck ys
    | _ => false
  | .fld o f, ck, e => match e with
    | .Attribute l s _ => decide (Γ.fnm[f]? = some s) && baseB l && ckE o ck l
    | _ => false
  | .mk c es, ck, e => match e with
    | .Call (.Name x _) ys [] _ => (match Γ.cls[c]? with
      | some C => decide (x = C.name)
      | none => false) && glB ck x && !dbgB x && ckL es ck ys
    | _ => false
  | .lc a tg ik it cs own, ck, e => match e with
    | .ListComp elt [⟨t, iter, ifs, z⟩] scope _ => decide (z = 0) && !setB iter && blkC ck.N ck.sc scope (ownOf ck own) && tg.vars.all (fun i => decide (i ∈ own)) && ckT tg (ckIn ck scope) t &&
        (match srcOf ck t ik iter with
        | some xs => ckL it ck xs
        | none => false) &&
        (match ifs with
        | [] => (match cs with
          | .yes => true
          | _ => false)
        | [c] => ckB cs (ckIn ck scope) c
        | _ => false) && ckE a (ckIn ck scope) elt
    | _ => false
def ckL : EL → Ck → List Expr → Bool
  | .nil, _, es => match es with
    | [] => true
    | _ => false
  | .cons a r, ck, es => match es with
    | e :: es => !starB e && ckE a ck e && ckL r ck es
    | [] => false
def ckO : EO → Ck → Option Expr → Bool
  | .none, _, o => match o with
    | none => true
    | some _ => false
  | .some a, ck, o => match o with
    | some e => ckE a ck e
    | none => false
def ckB : B → Ck → Expr → Bool
  | .yes, _, _ => false
  | .and a b, ck, e => match e with
    | .BoolOp .And [l, r] _ => ckB a ck l && ckB b ck r
    | .BoolOp .And (l :: r :: r' :: rest) p => ckB a ck l && ckB b ck (.BoolOp .And (r :: r' :: rest) p)
    | _ => false
  | .or a b, ck, e => match e with
    | .BoolOp .Or [l, r] _ => ckB a ck l && ckB b ck r
    | .BoolOp .Or (l :: r :: r' :: rest) p => ckB a ck l && ckB b ck (.BoolOp .Or (r :: r' :: rest) p)
    | _ => false
  | .not a, ck, e => match e with
    | .UnaryOp .Not l _ => ckB a ck l
    | _ => false
  | .of a, ck, e => (valB e && ckE a ck e) || (match a, e with
    | .cmp op a b, .Compare l [o] [r] _ => decide (o = op.op) && !setB r && ckE a ck l && ckE b ck r
    | .ch2 op op' a b c, .Compare l [o, o'] [r, r'] _ => decide (o = op.op) && decide (o' = op'.op) && !setB r' && ckE a ck l && ckE b ck r && ckE c ck r'
    | .isn y a, .Compare l [o] [.Constant .none _ _] _ => decide (o = if y = true then .Is else .IsNot) && ckE a ck l
    | .isb y k a, .Compare l [o] [.Constant (.bool k') _ _] _ => decide (o = if y = true then .Is else .IsNot) && (k == k') && ckE a ck l
    | _, _ => false)
end
end
end G

set_option Elab.async false
set_option linter.all false
set_option maxRecDepth 100000
set_option maxHeartbeats 4000000
/-! The checker of expressions is right. -/
namespace G
open PySem PySem.Spec PyProof.Rows L2

structure Good (Γ : Gam) (n : Nat) (ck : Ck) (X : Cx) (W : WX) : Prop where
  F : Facts Γ X.K X.mg
  C1 : CallsOk X.prog X.w X.K X.mg X.base Γ n
  C0 : CallsOk X.prog X.w X.K X.mg X.base Γ (n - 1)
  ro : Room (n + 2) X.A
  tk : Takes X W
  calm : X.calm = true
  nd : X.N.Nodup
  N : X.N = ck.N
  sc : X.env.scope = ck.sc
  df : ck.df = true → ∀ x, X.fn x = true
section
variable {Γ : Gam} {n : Nat} {ck : Ck} {X : Cx} {W : WX}
theorem Good.hu (G : Good Γ n ck X W) : X.A.units + 64 < cLine := by have := G.ro.un; omega
theorem Good.blk (G : Good Γ n ck X W) (scope : Scope) (s : Shared) (H : Hp) (C : Addr) (cl : List (Str × Addr)) (fp : List Addr) : Good Γ n (ckIn ck scope) (X.blk s H scope (compEnvC scope cl C X.env) fp) (fun _ _ _ _ => False) := by
  refine ⟨G.F, G.C1, G.C0, G.ro, takes0, G.calm, G.nd, G.N, ?_, fun h => by cases h⟩
  show relabel scope X.env = relS scope ck.sc
  unfold relabel relS
  show ({ scope with names := scope.names.map fun (n, k) => if (k == .free && X.env.scope.kind == .function && X.env.scope.names.lookup n == some .cell) then (n, NameKind.cell) else (n, k) } : Scope) = _
  rw [G.sc]
theorem Good.slot (G : Good Γ n ck X W) {i : Nat} {x : Str} (h : slotB ck i x = true) : X.N[i]? = some x := by
  rw [G.N]; exact of_decide_eq_true h
theorem Good.vis (G : Good Γ n ck X W) {x : Str} (h : visB ck x = true) : Vis X.env.scope x := by
  unfold Vis
  rw [G.sc]
  unfold visB at h
  split at h <;> simp_all
theorem Good.loc (G : Good Γ n ck X W) {x : Str} (h : locB ck x = true) : Loc X.env.scope x ∧ (X.fn x = true ∨ X.env.scope.names.lookup x = some .local) := by
  unfold L2.Loc
  rw [G.sc]
  unfold locB at h
  split at h
  · rename_i e; exact ⟨.inl e, .inr e⟩
  · rename_i e; exact ⟨.inr e, .inl (G.df h x)⟩
  · cases h
theorem Good.gl (G : Good Γ n ck X W) {x : Str} (h : glB ck x = true) : Gl X x := by
  unfold Gl Env.kindOf
  rw [G.sc]
  unfold glB at h
  split at h
  · rename_i e; exact e
  · cases h
theorem dbg_f {x : Str} (h : dbgB x = false) : (x == ("__debug__" : Str)) = false := h
theorem cd_f {x : Str} (h : cdB x = false) : (x == ("__classdict__" : Str)) = false := h
theorem ckL_plain : ∀ {m : EL} {ck : Ck} {es : List Expr}, ckL Γ m ck es = true → plainsB es = true ∧ m.len = es.length
  | .nil, ck, es, h => by
    unfold ckL at h
    split at h
    · exact ⟨rfl, rfl⟩
    · cases h
  | .cons a r, ck, es, h => by
    unfold ckL at h
    split at h
    · rename_i e es
      simp only [Bool.and_eq_true, Bool.not_eq_true'] at h
      obtain ⟨h1, h2⟩ := ckL_plain h.2
      refine ⟨?_, by simp [EL.len, h2]⟩
      simp only [plainsB, Bool.and_eq_true, Bool.not_eq_true']
      exact ⟨h.1.1, h1⟩
    · cases h
theorem isstar {e : Expr} (h : starB e = false) {es : List Expr} {env : Env} : starEach (e :: es) env = (false, eval e env) :: starEach es env := star_cons h
mutual
theorem ckT_ok : ∀ (t : Tg) (ck : Ck) (e : Expr) (X : Cx) (W : WX), Good Γ n ck X W → ckT t ck e = true → PG X e (gT Γ X.K t)
  | .n i, ck, e, X, W, G, h => by
    unfold ckT at h
    split at h
    · simp only [Bool.and_eq_true] at h
      obtain ⟨h1, h2⟩ := G.loc h.2
      exact tg_n G.nd (G.slot h.1) h1 h2
    · cases h
  | .tup a, ck, e, X, W, G, h => by
    unfold ckT at h
    split at h
    · simp only [Bool.and_eq_true, decide_eq_true_eq] at h
      obtain ⟨⟨h1, h2⟩, h3⟩ := h
      have := plains_len (env := X.env) h1
      exact tg_tup G.calm (ckTs_ok a ck _ X W G h3) (by rw [this.1, h2]) this.2
    · cases h
theorem ckTs_ok : ∀ (t : TgL) (ck : Ck) (es : List Expr) (X : Cx) (W : WX), Good Γ n ck X W → ckTs t ck es = true → PGs X es (gTs Γ X.K t)
  | .nil, ck, es, X, W, G, h => by
    unfold ckTs at h
    split at h
    · exact tgs_nil
    · cases h
  | .cons a r, ck, es, X, W, G, h => by
    unfold ckTs at h
    split at h
    · simp only [Bool.and_eq_true, Bool.not_eq_true'] at h
      refine tgs_cons (ckT_ok a ck _ X W G h.1.2) (ckTs_ok r ck _ X W G h.2) ?_
      rw [asg_cons h.1.1]
      rfl
    · cases h
end
theorem ownOf_ix {own : List Nat} : (ownOf ck own).map (·.2) = own := by
  unfold ownOf
  rw [List.map_map]
  exact List.map_id' own
/-- the source of a loop -/
theorem src_ok {tg iter : Expr} {ik : IK} {m : EL} {xs : List Expr} (G : Good Γ n ck X W) (hs : srcOf ck tg ik iter = some xs) (hl : m.len = xs.length) (hE : ∀ a, m = .cons a .nil → ∀ e, xs = [e] → PE X e (tE Γ X.K n W a)) (h : PA X xs (tR Γ X.K n W m)) : PI X tg iter (tI Γ X.K n W ik m) := by
  unfold srcOf at hs
  cases ik with
  | seq =>
    have hs : some [iter] = some xs := hs
    cases hs
    match m, hl with
    | .cons a .nil, _ => exact it_seq (hE a rfl iter rfl)
  | rng =>
    simp only at hs
    split at hs
    · split at hs
      · rename_i hc
        cases hs
        simp only [Bool.and_eq_true, decide_eq_true_eq, Bool.not_eq_true'] at hc
        obtain ⟨⟨rfl, h2⟩, h3⟩ := hc
        exact it_rng1 (G.gl h2) (G.F.bi _ (by simp [usedB])) h (by rw [hl]; rfl) (by rw [isstar h3]; rfl)
      · cases hs
    · split at hs
      · rename_i hc
        cases hs
        simp only [Bool.and_eq_true, decide_eq_true_eq, Bool.not_eq_true'] at hc
        obtain ⟨⟨⟨rfl, h2⟩, h3⟩, h4⟩ := hc
        exact it_rng2 (G.gl h2) (G.F.bi _ (by simp [usedB])) h (by rw [hl]; rfl) (by rw [isstar h3, isstar h4]; rfl) (by rw [isstar h4]; rfl)
      · cases hs
    · cases hs
  | enum =>
    simp only at hs
    split at hs
    · split at hs
      · rename_i hc
        cases hs
        simp only [Bool.and_eq_true, decide_eq_true_eq, Bool.not_eq_true'] at hc
        obtain ⟨⟨⟨rfl, h2⟩, h3⟩, h4⟩ := hc
        cases tg <;> first | exact it_enum (G.gl h2) (G.F.bi _ (by simp [usedB])) h (by rw [hl]; rfl) (by rw [isstar h3]; rfl) | cases h4
      · cases hs
    · cases hs
  | zip =>
    simp only at hs
    split at hs
    · split at hs
      · rename_i hc
        cases hs
        simp only [Bool.and_eq_true, decide_eq_true_eq, Bool.not_eq_true'] at hc
        obtain ⟨⟨⟨⟨rfl, h2⟩, h3⟩, h4⟩, h5⟩ := hc
        cases tg <;> first | exact it_zip (G.gl h2) (G.F.bi _ (by simp [usedB])) h (by rw [hl]; rfl) (by rw [isstar h3]) (plains_any (by simp [plainsB, h4])) | cases h5
      · cases hs
    · cases hs
theorem src_okA {tg iter : Expr} {ik : IK} {m : EL} {xs : List Expr} (G : Good Γ n ck X W) (hs : srcOf ck tg ik iter = some xs) (hl : m.len = xs.length) (hE : ∀ a, m = .cons a .nil → ∀ e, xs = [e] → PE X e (tE Γ X.K n W a)) (h : PA X xs (tA Γ X.K n W m)) : PI X tg iter (tIA Γ X.K n W ik m) := by
  unfold srcOf at hs
  cases ik with
  | seq =>
    have hs : some [iter] = some xs := hs
    cases hs
    match m, hl with
    | .cons a .nil, _ => exact it_seqA (hE a rfl iter rfl)
  | rng =>
    simp only at hs
    split at hs
    · split at hs
      · rename_i hc
        cases hs
        simp only [Bool.and_eq_true, decide_eq_true_eq, Bool.not_eq_true'] at hc
        obtain ⟨⟨rfl, h2⟩, h3⟩ := hc
        exact it_rng1A (G.gl h2) (G.F.bi _ (by simp [usedB])) h (by rw [hl]; rfl) (by rw [isstar h3]; rfl)
      · cases hs
    · split at hs
      · rename_i hc
        cases hs
        simp only [Bool.and_eq_true, decide_eq_true_eq, Bool.not_eq_true'] at hc
        obtain ⟨⟨⟨rfl, h2⟩, h3⟩, h4⟩ := hc
        exact it_rng2A (G.gl h2) (G.F.bi _ (by simp [usedB])) h (by rw [hl]; rfl) (by rw [isstar h3, isstar h4]; rfl) (by rw [isstar h4]; rfl)
      · cases hs
    · cases hs
  | enum =>
    simp only at hs
    split at hs
    · split at hs
      · rename_i hc
        cases hs
        simp only [Bool.and_eq_true, decide_eq_true_eq, Bool.not_eq_true'] at hc
        obtain ⟨⟨⟨rfl, h2⟩, h3⟩, h4⟩ := hc
        cases tg <;> first | exact it_enumA (G.gl h2) (G.F.bi _ (by simp [usedB])) h (by rw [hl]; rfl) (by rw [isstar h3]; rfl) | cases h4
      · cases hs
    · cases hs
  | zip =>
    simp only at hs
    split at hs
    · split at hs
      · rename_i hc
        cases hs
        simp only [Bool.and_eq_true, decide_eq_true_eq, Bool.not_eq_true'] at hc
        obtain ⟨⟨⟨⟨rfl, h2⟩, h3⟩, h4⟩, h5⟩ := hc
        cases tg <;> first | exact it_zipA (G.gl h2) (G.F.bi _ (by simp [usedB])) h (by rw [hl]; rfl) (by rw [isstar h3]) (plains_any (by simp [plainsB, h4])) | cases h5
      · cases hs
    · cases hs
end
end G

set_option Elab.async false
set_option linter.all false
set_option maxRecDepth 100000
set_option maxHeartbeats 4000000
/-! The checker of expressions is right. -/
namespace G
open PySem PySem.Spec PyProof.Rows L2
theorem bi_used (b : Bi) : b.name ∈ usedB := by cases b <;> simp [usedB, Bi.name]
theorem ty_used (t : Ty) : (t.name : Str) ∈ usedB := by cases t <;> simp [usedB, Ty.name]
section
variable {Γ : Gam} {n : Nat}
mutual
theorem ckE_ok : ∀ (m : E) (ck : Ck) (e : Expr) (X : Cx) (W : WX), Good Γ n ck X W → ckE Γ m ck e = true → PE X e (tE Γ X.K n W m)
  | .v i, ck, e, X, W, G, h => by
    unfold ckE at h
    split at h
    · simp only [varB, Bool.and_eq_true, Bool.not_eq_true'] at h
      exact snd_v (G.slot h.1.1.1) (G.vis h.1.1.2) (dbg_f h.1.2) (cd_f h.2)
    · cases h
  | .c t, ck, e, X, W, G, h => by
    unfold ckE at h
    split at h
    · split at h
      · exact snd_non
      · rw [eq_of_beq h]; exact snd_bl
      · rw [of_decide_eq_true h]; exact snd_int
      · exact snd_str (of_decide_eq_true h)
      · rw [of_decide_eq_true h]; exact snd_byt
      · cases h
    · cases h
  | .g k, ck, e, X, W, G, h => by
    unfold ckE at h
    split at h
    · split at h
      · rename_i x _ p hp
        simp only [Bool.and_eq_true, Bool.not_eq_true', decide_eq_true_eq] at h
        obtain ⟨u, v, h1, h2, h3⟩ := G.F.gls k p.1 p.2 hp
        rw [← h.1.1]
        rw [← h.1.1] at h
        exact snd_g hp (G.gl h.1.2) h1 h2 h3 (dbg_f h.2)
      · cases h
    · cases h
  | .bin op a b, ck, e, X, W, G, h => by
    unfold ckE at h
    split at h
    · simp only [Bool.and_eq_true, decide_eq_true_eq] at h
      obtain ⟨⟨rfl, h2⟩, h3⟩ := h
      exact snd_bin (ckE_ok a ck _ X W G h2) (ckE_ok b ck _ X W G h3)
    · cases h
  | .neg a, ck, e, X, W, G, h => by
    unfold ckE at h
    split at h
    · exact snd_neg (ckE_ok a ck _ X W G h)
    · cases h
  | .cmp op a b, ck, e, X, W, G, h => by
    unfold ckE at h
    split at h
    · simp only [Bool.and_eq_true, decide_eq_true_eq, Bool.not_eq_true'] at h
      obtain ⟨⟨⟨rfl, h2⟩, h3⟩, h4⟩ := h
      exact snd_cmp G.hu (ckE_ok a ck _ X W G h3) (ckE_ok b ck _ X W G h4) (mark_ok h2)
    · cases h
  | .ch2 op op' a b c, ck, e, X, W, G, h => by
    unfold ckE at h
    split at h
    · simp only [Bool.and_eq_true, decide_eq_true_eq, Bool.not_eq_true'] at h
      obtain ⟨⟨⟨⟨⟨rfl, rfl⟩, h2⟩, h3⟩, h4⟩, h5⟩ := h
      exact snd_ch2 G.hu (ckE_ok a ck _ X W G h3) (ckE_ok b ck _ X W G h4) (ckE_ok c ck _ X W G h5) (mark_ok h2)
    · cases h
  | .isn y a, ck, e, X, W, G, h => by
    unfold ckE at h
    split at h
    · simp only [Bool.and_eq_true, decide_eq_true_eq] at h
      obtain ⟨rfl, h2⟩ := h
      exact snd_isn y (ckE_ok a ck _ X W G h2)
    · cases h
  | .isb y k a, ck, e, X, W, G, h => by
    unfold ckE at h
    split at h
    · simp only [Bool.and_eq_true, decide_eq_true_eq] at h
      obtain ⟨⟨rfl, h1⟩, h2⟩ := h
      rw [← eq_of_beq h1]
      exact snd_isb y k (ckE_ok a ck _ X W G h2)
    · cases h
  | .and a b, ck, e, X, W, G, h => by
    unfold ckE at h
    split at h
    · simp only [Bool.and_eq_true] at h
      exact snd_and (p' := ⟨0, 0, 0, 0⟩) (ckE_ok a ck _ X W G h.1) (pe_one (ckE_ok b ck _ X W G h.2))
    · simp only [Bool.and_eq_true] at h
      exact snd_and (p' := ⟨0, 0, 0, 0⟩) (ckE_ok a ck _ X W G h.1) (ckE_ok b ck _ X W G h.2)
    · cases h
  | .or a b, ck, e, X, W, G, h => by
    unfold ckE at h
    split at h
    · simp only [Bool.and_eq_true] at h
      exact snd_or (p' := ⟨0, 0, 0, 0⟩) (ckE_ok a ck _ X W G h.1) (pe_one (ckE_ok b ck _ X W G h.2))
    · simp only [Bool.and_eq_true] at h
      exact snd_or (p' := ⟨0, 0, 0, 0⟩) (ckE_ok a ck _ X W G h.1) (ckE_ok b ck _ X W G h.2)
    · cases h
  | .not a, ck, e, X, W, G, h => by
    unfold ckE at h
    split at h
    · exact snd_not (ckE_ok a ck _ X W G h)
    · cases h
  | .ife c a b, ck, e, X, W, G, h => by
    unfold ckE at h
    split at h
    · simp only [Bool.and_eq_true] at h
      exact snd_ife (ckB_ok c ck _ X W G h.1.1) (ckE_ok a ck _ X W G h.1.2) (ckE_ok b ck _ X W G h.2)
    · cases h
  | .tup es, ck, e, X, W, G, h => by
    unfold ckE at h
    split at h
    · exact snd_tup (ckA_ok es ck _ X W G h)
    · cases h
  | .lst es, ck, e, X, W, G, h => by
    unfold ckE at h
    split at h
    · exact snd_lst (ckA_ok es ck _ X W G h)
    · cases h
  | .new es, ck, e, X, W, G, h => by
    unfold ckE at h
    split at h
    · exact snd_new (ckA_ok es ck _ X W G h)
    · cases h
  | .ix a i, ck, e, X, W, G, h => by
    unfold ckE at h
    split at h
    · simp only [Bool.and_eq_true] at h
      exact snd_ix (ckE_ok a ck _ X W G h.1.2) (ckE_ok i ck _ X W G h.2) (ix_ok h.1.1)
    · cases h
  | .sl a lo hi, ck, e, X, W, G, h => by
    unfold ckE at h
    split at h
    · simp only [Bool.and_eq_true] at h
      exact snd_sl (ckE_ok a ck _ X W G h.1.1) (ckO_ok lo ck _ X W G h.1.2) (ckO_ok hi ck _ X W G h.2)
    · cases h
  | .call f es, ck, e, X, W, G, h => by
    unfold ckE at h
    split at h
    · simp only [Bool.and_eq_true, Bool.not_eq_true'] at h
      obtain ⟨⟨⟨h1, h2⟩, h3⟩, h4⟩ := h
      obtain ⟨p1, p2⟩ := ckL_plain h4
      have ha := ckA_ok es ck _ X W G h4
      simp only [plainsB, Bool.and_eq_true, Bool.not_eq_true'] at p1
      split at h1
      · rename_i fd hf
        simp only [Bool.and_eq_true, decide_eq_true_eq] at h1
        obtain ⟨h5, rfl⟩ := h1
        exact snd_call G.F G.C1 G.ro G.tk hf h5 (G.gl h2) (dbg_f h3) ha (isstar p1.1) (plains_any p1.2)
      · cases h1
    · cases h
  | .bi b es, ck, e, X, W, G, h => by
    unfold ckE at h
    split at h
    · simp only [Bool.and_eq_true, decide_eq_true_eq] at h
      obtain ⟨⟨rfl, h2⟩, h4⟩ := h
      obtain ⟨p1, p2⟩ := ckL_plain h4
      have ha := ckR_ok es ck _ X W G h4
      simp only [plainsB, Bool.and_eq_true, Bool.not_eq_true'] at p1
      exact snd_bi G.calm (G.gl h2) (G.F.bi _ (bi_used b)) ha (isstar p1.1) (plains_any p1.2)
    · cases h
  | .isi a t, ck, e, X, W, G, h => by
    unfold ckE at h
    split at h
    · simp only [Bool.and_eq_true, decide_eq_true_eq, Bool.not_eq_true'] at h
      obtain ⟨⟨⟨⟨⟨rfl, ht⟩, h2⟩, h3⟩, h4⟩, h5⟩ := h
      subst ht
      exact snd_isi rfl (G.gl h2) (G.F.bi _ (by simp [usedB])) (G.gl h3) (G.F.bi _ (ty_used t)) (ckE_ok a ck _ X W G h5) (isstar h4)
    · cases h
  | .mt m o es, ck, e, X, W, G, h => by
    unfold ckE at h
    split at h
    · simp only [Bool.and_eq_true] at h
      obtain ⟨⟨⟨⟨⟨h1, h2⟩, h3⟩, h4⟩, h5⟩, h6⟩ := h
      have h1 := of_decide_eq_true h1
      subst h1
      obtain ⟨p1, p2⟩ := ckL_plain h5
      have ha := ckR_ok es ck _ X W G h5
      have p3 := p1
      simp only [plainsB, Bool.and_eq_true, Bool.not_eq_true'] at p1
      cases m with
      | lindex => exact snd_li (ckE_ok o ck _ X W G h6) ha (base_ok h4) (few_ok p3 h3) h2 (isstar p1.1) (plains_any p1.2)
      | sindex => exact snd_si (ckE_ok o ck _ X W G h6) ha (base_ok h4) (few_ok p3 h3) h2 (isstar p1.1) (plains_any p1.2)
      | tindex =>
        simp only at h6
        split at h6
        · split at h6
          · rename_i q hq
            simp only [Bool.and_eq_true, Bool.not_eq_true', decide_eq_true_eq] at h6
            obtain ⟨⟨rfl, h7⟩, h8⟩ := h6
            exact snd_ti G.F hq (G.gl h7) (dbg_f h8) ha (base_ok h4) (few_ok p3 h3) h2 (isstar p1.1) (plains_any p1.2)
          · cases h6
        · cases h6
    · cases h
  | .meth m o es, ck, e, X, W, G, h => by
    unfold ckE at h
    split at h
    · simp only [Bool.and_eq_true] at h
      obtain ⟨⟨⟨⟨⟨h1, h2⟩, h3⟩, h4⟩, h5⟩, h6⟩ := h
      have h1 := of_decide_eq_true h1
      obtain ⟨p1, p2⟩ := ckL_plain h6
      have ha := ckA_ok es ck _ X W G h6
      have ho := ckE_ok o ck _ X W G h5
      rename_i l s ap ys p _
      have ht := meth_ht (s := s) (env := X.env) h4 p1 h3 h2
      cases ys with
      | nil =>
        cases es with
        | nil => exact snd_meth0 G.F G.C1 G.ro G.tk h1 ho ht
        | cons _ _ => cases p2
      | cons y ys =>
        simp only [plainsB, Bool.and_eq_true, Bool.not_eq_true'] at p1
        exact snd_meth G.F G.C1 G.ro G.tk h1 ho ha (isstar p1.1) (plains_any p1.2) ht
    · cases h
  | .fld o f, ck, e, X, W, G, h => by
    unfold ckE at h
    split at h
    · simp only [Bool.and_eq_true, decide_eq_true_eq] at h
      exact snd_fld G.F h.1.1 (ckE_ok o ck _ X W G h.2) (base_ok h.1.2)
    · cases h
  | .mk c es, ck, e, X, W, G, h => by
    unfold ckE at h
    split at h
    · simp only [Bool.and_eq_true, Bool.not_eq_true'] at h
      obtain ⟨⟨⟨h1, h2⟩, h3⟩, h6⟩ := h
      obtain ⟨p1, p2⟩ := ckL_plain h6
      have ha := ckA_ok es ck _ X W G h6
      split at h1
      · rename_i x _ ys _ _ C hC
        have h1 := of_decide_eq_true h1
        cases ys with
        | nil =>
          cases es with
          | nil => exact snd_mk0 G.F G.C0 G.ro G.tk hC h1 (G.gl h2) (dbg_f h3)
          | cons _ _ => cases p2
        | cons y ys =>
          simp only [plainsB, Bool.and_eq_true, Bool.not_eq_true'] at p1
          exact snd_mk G.F G.C0 G.ro G.tk hC h1 (G.gl h2) (dbg_f h3) ha (isstar p1.1) (plains_any p1.2)
      · cases h1
    · cases h
  | .lc a tg ik it cs own, ck, e, X, W, G, h => by
    unfold ckE at h
    split at h
    · rename_i elt t iter ifs z scope p
      simp only [Bool.and_eq_true, Bool.not_eq_true'] at h
      obtain ⟨⟨⟨⟨⟨⟨⟨h0, h1⟩, h2⟩, h3⟩, h4⟩, h5⟩, h6⟩, h7⟩ := h
      have h0 := of_decide_eq_true h0
      subst h0
      refine snd_lc (own := ownOf ck own) G.calm G.nd ownOf_ix.symm (fun i hi => of_decide_eq_true (List.all_eq_true.mp h3 i hi)) ?_ (blkOk_by (by rw [G.N, G.sc]; exact h2)) (fun s H C cl fp => ckT_ok tg _ _ _ _ (G.blk scope s H C cl fp) h4) (fun s H C cl fp => ?_) (fun s H C cl fp => ckE_ok a _ _ _ _ (G.blk scope s H C cl fp) h7) (set_ok h1)
      · split at h5
        · rename_i xs hx
          refine src_ok G hx (ckL_plain h5).2 (fun b eb e' ee => ?_) (ckR_ok it ck _ X W G h5)
          subst eb ee
          have h5' := h5
          unfold ckL at h5'
          simp only [Bool.and_eq_true, Bool.not_eq_true'] at h5'
          exact ckE_ok b ck _ X W G h5'.1.2
        · cases h5
      · split at h6
        · split at h6
          · exact pts_yes
          · cases h6
        · exact pts_one (ckB_ok cs _ _ _ _ (G.blk scope s H C cl fp) h6)
        · cases h6
    · cases h
theorem ckA_ok : ∀ (m : EL) (ck : Ck) (es : List Expr) (X : Cx) (W : WX), Good Γ n ck X W → ckL Γ m ck es = true → PA X es (tA Γ X.K n W m)
  | .nil, ck, es, X, W, G, h => by
    unfold ckL at h
    split at h
    · exact snd_nilA
    · cases h
  | .cons a r, ck, es, X, W, G, h => by
    unfold ckL at h
    split at h
    · simp only [Bool.and_eq_true, Bool.not_eq_true'] at h
      exact snd_consA (ckE_ok a ck _ X W G h.1.2) (ckA_ok r ck _ X W G h.2) (isstar h.1.1)
    · cases h
theorem ckR_ok : ∀ (m : EL) (ck : Ck) (es : List Expr) (X : Cx) (W : WX), Good Γ n ck X W → ckL Γ m ck es = true → PA X es (tR Γ X.K n W m)
  | .nil, ck, es, X, W, G, h => by
    unfold ckL at h
    split at h
    · exact snd_nilR
    · cases h
  | .cons a r, ck, es, X, W, G, h => by
    unfold ckL at h
    split at h
    · simp only [Bool.and_eq_true, Bool.not_eq_true'] at h
      exact snd_consR (ckE_ok a ck _ X W G h.1.2) (ckR_ok r ck _ X W G h.2) (isstar h.1.1)
    · cases h
theorem ckO_ok : ∀ (m : EO) (ck : Ck) (o : Option Expr) (X : Cx) (W : WX), Good Γ n ck X W → ckO Γ m ck o = true → PO X o (tO Γ X.K n W m)
  | .none, ck, o, X, W, G, h => by
    unfold ckO at h
    split at h
    · exact snd_none
    · cases h
  | .some a, ck, o, X, W, G, h => by
    unfold ckO at h
    split at h
    · exact snd_some (ckE_ok a ck _ X W G h)
    · cases h
theorem ckB_ok : ∀ (m : B) (ck : Ck) (e : Expr) (X : Cx) (W : WX), Good Γ n ck X W → ckB Γ m ck e = true → PT X e (tB Γ X.K n W m)
  | .yes, ck, e, X, W, G, h => by
    unfold ckB at h
    cases h
  | .and a b, ck, e, X, W, G, h => by
    unfold ckB at h
    split at h
    · simp only [Bool.and_eq_true] at h
      exact tst_and (ckB_ok a ck _ X W G h.1) (pw_and1 (ckB_ok b ck _ X W G h.2))
    · simp only [Bool.and_eq_true] at h
      exact tst_and (ckB_ok a ck _ X W G h.1) (pw_of (ckB_ok b ck _ X W G h.2))
    · cases h
  | .or a b, ck, e, X, W, G, h => by
    unfold ckB at h
    split at h
    · simp only [Bool.and_eq_true] at h
      exact tst_or (ckB_ok a ck _ X W G h.1) (pw_or1 (ckB_ok b ck _ X W G h.2))
    · simp only [Bool.and_eq_true] at h
      exact tst_or (ckB_ok a ck _ X W G h.1) (pw_of (ckB_ok b ck _ X W G h.2))
    · cases h
  | .not a, ck, e, X, W, G, h => by
    unfold ckB at h
    split at h
    · exact tst_not (ckB_ok a ck _ X W G h)
    · cases h
  | .of (.cmp op a b), ck, e, X, W, G, h => by
    unfold ckB at h
    rw [Bool.or_eq_true] at h
    rcases h with h | h
    · simp only [Bool.and_eq_true] at h
      exact tst_val (ckE_ok _ ck _ X W G h.2) (val_ok h.1)
    · split at h
      · rename_i heq
        cases heq
        simp only [Bool.and_eq_true, decide_eq_true_eq, Bool.not_eq_true'] at h
        obtain ⟨⟨⟨rfl, h2⟩, h3⟩, h4⟩ := h
        exact tst_cmp G.hu (ckE_ok a ck _ X W G h3) (ckE_ok b ck _ X W G h4) (mark_ok h2)
      all_goals first | (rename_i heq; cases heq; done) | cases h
  | .of (.ch2 op op' a b c), ck, e, X, W, G, h => by
    unfold ckB at h
    rw [Bool.or_eq_true] at h
    rcases h with h | h
    · simp only [Bool.and_eq_true] at h
      exact tst_val (ckE_ok _ ck _ X W G h.2) (val_ok h.1)
    · split at h
      · rename_i heq
        cases heq
      · rename_i heq
        cases heq
        simp only [Bool.and_eq_true, decide_eq_true_eq, Bool.not_eq_true'] at h
        obtain ⟨⟨⟨⟨⟨rfl, rfl⟩, h2⟩, h3⟩, h4⟩, h5⟩ := h
        exact tst_ch2 G.hu (ckE_ok a ck _ X W G h3) (ckE_ok b ck _ X W G h4) (ckE_ok c ck _ X W G h5) (mark_ok h2)
      all_goals first | (rename_i heq; cases heq; done) | cases h
  | .of (.isn y a), ck, e, X, W, G, h => by
    unfold ckB at h
    rw [Bool.or_eq_true] at h
    rcases h with h | h
    · simp only [Bool.and_eq_true] at h
      exact tst_val (ckE_ok _ ck _ X W G h.2) (val_ok h.1)
    · split at h
      · rename_i heq
        cases heq
      · rename_i heq
        cases heq
      · rename_i heq
        cases heq
        simp only [Bool.and_eq_true, decide_eq_true_eq] at h
        obtain ⟨rfl, h2⟩ := h
        exact tst_isn y (ckE_ok a ck _ X W G h2)
      all_goals first | (rename_i heq; cases heq; done) | cases h
  | .of (.isb y k a), ck, e, X, W, G, h => by
    unfold ckB at h
    rw [Bool.or_eq_true] at h
    rcases h with h | h
    · simp only [Bool.and_eq_true] at h
      exact tst_val (ckE_ok _ ck _ X W G h.2) (val_ok h.1)
    · split at h
      · rename_i heq
        cases heq
      · rename_i heq
        cases heq
      · rename_i heq
        cases heq
      · rename_i heq
        cases heq
        simp only [Bool.and_eq_true, decide_eq_true_eq] at h
        obtain ⟨⟨rfl, h1⟩, h2⟩ := h
        rw [← eq_of_beq h1]
        exact tst_isb y (ckE_ok a ck _ X W G h2)
      all_goals cases h
  | .of (.v i), ck, e, X, W, G, h => by
    unfold ckB at h
    rw [Bool.or_eq_true] at h
    rcases h with h | h
    · simp only [Bool.and_eq_true] at h
      exact tst_val (ckE_ok _ ck _ X W G h.2) (val_ok h.1)
    · split at h
      all_goals first | (rename_i heq; cases heq; done) | cases h
  | .of (.c t), ck, e, X, W, G, h => by
    unfold ckB at h
    rw [Bool.or_eq_true] at h
    rcases h with h | h
    · simp only [Bool.and_eq_true] at h
      exact tst_val (ckE_ok _ ck _ X W G h.2) (val_ok h.1)
    · split at h
      all_goals first | (rename_i heq; cases heq; done) | cases h
  | .of (.g k), ck, e, X, W, G, h => by
    unfold ckB at h
    rw [Bool.or_eq_true] at h
    rcases h with h | h
    · simp only [Bool.and_eq_true] at h
      exact tst_val (ckE_ok _ ck _ X W G h.2) (val_ok h.1)
    · split at h
      all_goals first | (rename_i heq; cases heq; done) | cases h
  | .of (.bin op a b), ck, e, X, W, G, h => by
    unfold ckB at h
    rw [Bool.or_eq_true] at h
    rcases h with h | h
    · simp only [Bool.and_eq_true] at h
      exact tst_val (ckE_ok _ ck _ X W G h.2) (val_ok h.1)
    · split at h
      all_goals first | (rename_i heq; cases heq; done) | cases h
  | .of (.neg a), ck, e, X, W, G, h => by
    unfold ckB at h
    rw [Bool.or_eq_true] at h
    rcases h with h | h
    · simp only [Bool.and_eq_true] at h
      exact tst_val (ckE_ok _ ck _ X W G h.2) (val_ok h.1)
    · split at h
      all_goals first | (rename_i heq; cases heq; done) | cases h
  | .of (.and a b), ck, e, X, W, G, h => by
    unfold ckB at h
    rw [Bool.or_eq_true] at h
    rcases h with h | h
    · simp only [Bool.and_eq_true] at h
      exact tst_val (ckE_ok _ ck _ X W G h.2) (val_ok h.1)
    · split at h
      all_goals first | (rename_i heq; cases heq; done) | cases h
  | .of (.or a b), ck, e, X, W, G, h => by
    unfold ckB at h
    rw [Bool.or_eq_true] at h
    rcases h with h | h
    · simp only [Bool.and_eq_true] at h
      exact tst_val (ckE_ok _ ck _ X W G h.2) (val_ok h.1)
    · split at h
      all_goals first | (rename_i heq; cases heq; done) | cases h
  | .of (.not a), ck, e, X, W, G, h => by
    unfold ckB at h
    rw [Bool.or_eq_true] at h
    rcases h with h | h
    · simp only [Bool.and_eq_true] at h
      exact tst_val (ckE_ok _ ck _ X W G h.2) (val_ok h.1)
    · split at h
      all_goals first | (rename_i heq; cases heq; done) | cases h
  | .of (.ife c a b), ck, e, X, W, G, h => by
    unfold ckB at h
    rw [Bool.or_eq_true] at h
    rcases h with h | h
    · simp only [Bool.and_eq_true] at h
      exact tst_val (ckE_ok _ ck _ X W G h.2) (val_ok h.1)
    · split at h
      all_goals first | (rename_i heq; cases heq; done) | cases h
  | .of (.tup es), ck, e, X, W, G, h => by
    unfold ckB at h
    rw [Bool.or_eq_true] at h
    rcases h with h | h
    · simp only [Bool.and_eq_true] at h
      exact tst_val (ckE_ok _ ck _ X W G h.2) (val_ok h.1)
    · split at h
      all_goals first | (rename_i heq; cases heq; done) | cases h
  | .of (.lst es), ck, e, X, W, G, h => by
    unfold ckB at h
    rw [Bool.or_eq_true] at h
    rcases h with h | h
    · simp only [Bool.and_eq_true] at h
      exact tst_val (ckE_ok _ ck _ X W G h.2) (val_ok h.1)
    · split at h
      all_goals first | (rename_i heq; cases heq; done) | cases h
  | .of (.new es), ck, e, X, W, G, h => by
    unfold ckB at h
    rw [Bool.or_eq_true] at h
    rcases h with h | h
    · simp only [Bool.and_eq_true] at h
      exact tst_val (ckE_ok _ ck _ X W G h.2) (val_ok h.1)
    · split at h
      all_goals first | (rename_i heq; cases heq; done) | cases h
  | .of (.ix a i), ck, e, X, W, G, h => by
    unfold ckB at h
    rw [Bool.or_eq_true] at h
    rcases h with h | h
    · simp only [Bool.and_eq_true] at h
      exact tst_val (ckE_ok _ ck _ X W G h.2) (val_ok h.1)
    · split at h
      all_goals first | (rename_i heq; cases heq; done) | cases h
  | .of (.sl a lo hi), ck, e, X, W, G, h => by
    unfold ckB at h
    rw [Bool.or_eq_true] at h
    rcases h with h | h
    · simp only [Bool.and_eq_true] at h
      exact tst_val (ckE_ok _ ck _ X W G h.2) (val_ok h.1)
    · split at h
      all_goals first | (rename_i heq; cases heq; done) | cases h
  | .of (.call f es), ck, e, X, W, G, h => by
    unfold ckB at h
    rw [Bool.or_eq_true] at h
    rcases h with h | h
    · simp only [Bool.and_eq_true] at h
      exact tst_val (ckE_ok _ ck _ X W G h.2) (val_ok h.1)
    · split at h
      all_goals first | (rename_i heq; cases heq; done) | cases h
  | .of (.bi b es), ck, e, X, W, G, h => by
    unfold ckB at h
    rw [Bool.or_eq_true] at h
    rcases h with h | h
    · simp only [Bool.and_eq_true] at h
      exact tst_val (ckE_ok _ ck _ X W G h.2) (val_ok h.1)
    · split at h
      all_goals first | (rename_i heq; cases heq; done) | cases h
  | .of (.isi a t), ck, e, X, W, G, h => by
    unfold ckB at h
    rw [Bool.or_eq_true] at h
    rcases h with h | h
    · simp only [Bool.and_eq_true] at h
      exact tst_val (ckE_ok _ ck _ X W G h.2) (val_ok h.1)
    · split at h
      all_goals first | (rename_i heq; cases heq; done) | cases h
  | .of (.mt m o es), ck, e, X, W, G, h => by
    unfold ckB at h
    rw [Bool.or_eq_true] at h
    rcases h with h | h
    · simp only [Bool.and_eq_true] at h
      exact tst_val (ckE_ok _ ck _ X W G h.2) (val_ok h.1)
    · split at h
      all_goals first | (rename_i heq; cases heq; done) | cases h
  | .of (.meth m o es), ck, e, X, W, G, h => by
    unfold ckB at h
    rw [Bool.or_eq_true] at h
    rcases h with h | h
    · simp only [Bool.and_eq_true] at h
      exact tst_val (ckE_ok _ ck _ X W G h.2) (val_ok h.1)
    · split at h
      all_goals first | (rename_i heq; cases heq; done) | cases h
  | .of (.fld o f), ck, e, X, W, G, h => by
    unfold ckB at h
    rw [Bool.or_eq_true] at h
    rcases h with h | h
    · simp only [Bool.and_eq_true] at h
      exact tst_val (ckE_ok _ ck _ X W G h.2) (val_ok h.1)
    · split at h
      all_goals first | (rename_i heq; cases heq; done) | cases h
  | .of (.mk c es), ck, e, X, W, G, h => by
    unfold ckB at h
    rw [Bool.or_eq_true] at h
    rcases h with h | h
    · simp only [Bool.and_eq_true] at h
      exact tst_val (ckE_ok _ ck _ X W G h.2) (val_ok h.1)
    · split at h
      all_goals first | (rename_i heq; cases heq; done) | cases h
  | .of (.lc a tg ik it cs own), ck, e, X, W, G, h => by
    unfold ckB at h
    rw [Bool.or_eq_true] at h
    rcases h with h | h
    · simp only [Bool.and_eq_true] at h
      exact tst_val (ckE_ok _ ck _ X W G h.2) (val_ok h.1)
    · split at h
      all_goals first | (rename_i heq; cases heq; done) | cases h
end
end
end G

set_option Elab.async false
set_option linter.all false
set_option maxRecDepth 100000
set_option maxHeartbeats 4000000
/-! The checker of statements. -/
namespace G
open PySem PySem.Spec PyProof.Rows L2

theorem sw2 {x y : Str} {e e2 : Expr} {px py pt pt2 : Pos} {kt k2 : Nat} {env : Env} (hk : env.scope.kind = .function) (hx : env.scope.names.lookup x = some .local) (hy : env.scope.names.lookup y = some .local) (hl : py.line = px.line) (hxy : x ≠ y) (s1 : starB e = false) (s2 : starB e2 = false)
    (hf : (foldedForSure 8 e && foldedForSure 8 e2) = false) (hc : (constantsAlone 8 e && constantsAlone 8 e2) = false) :
    swappedStores [.Tuple [.Name x px, .Name y py] kt pt] (.Tuple [e, e2] k2 pt2) env = pure (some [x, y]) := by
  have hb : env.blockKind = .function := by unfold Env.blockKind; rw [hk]; rfl
  have st : ([e, e2].any fun | .Starred .. => true | _ => false) = false := by
    have a1 : ∀ u, starB u = false → (match u with | Expr.Starred .. => true | _ => false) = false := fun u hu => by cases u <;> first | rfl | cases hu
    simp only [List.any_cons, List.any_nil, a1 e s1, a1 e2 s2]
    rfl
  have kx : env.kindOf x = some .local := hx
  have ky : env.kindOf y = some .local := hy
  have nm : ([Expr.Name x px, Expr.Name y py].filterMap fun
    | .Name id pos => if env.kindOf id == some .local && pos.line == px.line then some id else none
    | _ => none) = [x, y] := by
    simp [List.filterMap_cons, kx, ky, hl]
  have er : [x, y].eraseDups.length = 2 := by
    have b : (y == x) = false := by simpa using (Ne.symm hxy)
    simp [List.eraseDups_cons, b]
  have hf' : [e, e2].all (foldedForSure 8) = false := by simpa using hf
  have hc' : [e, e2].all (constantsAlone 8) = false := by simpa using hc
  unfold swappedStores
  simp only [st, hb, hf', hc']
  have nm' : ([Expr.Name x px, Expr.Name y py].filterMap fun
    | .Name id pos => if env.kindOf id == some .local && pos.line == (([Expr.Name x px, Expr.Name y py].head?.map (·.pos.line)).getD 0) then some id else none
    | _ => none) = [x, y] := nm
  have e3 := congrArg (fun l : List Str => (l.length != 2 || l.eraseDups.length != l.length)) nm'
  refine (if_neg (by simp)).trans ((if_neg (fun h => ?_)).trans ((if_neg (fun h => ?_)).trans ((if_neg (fun h => ?_)).trans ((if_neg (fun h => ?_)).trans ?_))))
  · exact absurd (st.symm.trans h) (by decide)
  · have h2 := e3.symm.trans h
    have e4 : (([x, y] : List Str).length != 2 || ([x, y] : List Str).eraseDups.length != ([x, y] : List Str).length) = false := by rw [er]; rfl
    exact absurd (e4.symm.trans h2) (by decide)
  · cases h
  · cases h
  · exact congrArg (fun l : List Str => (pure (some l) : Sem (Option (List Str)))) nm'
theorem sw3 {x y z : Str} {e e2 e3 : Expr} {px py pz pt pt2 : Pos} {kt k2 : Nat} {env : Env} (hk : env.scope.kind = .function) (hx : env.scope.names.lookup x = some .local) (hy : env.scope.names.lookup y = some .local) (hz : env.scope.names.lookup z = some .local)
    (hl : py.line = px.line) (hl2 : pz.line = px.line) (hxy : x ≠ y) (hxz : x ≠ z) (hyz : y ≠ z) (s1 : starB e = false) (s2 : starB e2 = false) (s3 : starB e3 = false)
    (hf : (foldedForSure 8 e && (foldedForSure 8 e2 && foldedForSure 8 e3)) = false) (hc : (constantsAlone 8 e && (constantsAlone 8 e2 && constantsAlone 8 e3)) = false) :
    swappedStores [.Tuple [.Name x px, .Name y py, .Name z pz] kt pt] (.Tuple [e, e2, e3] k2 pt2) env = pure (some [x, y, z]) := by
  have hb : env.blockKind = .function := by unfold Env.blockKind; rw [hk]; rfl
  have st : ([e, e2, e3].any fun | .Starred .. => true | _ => false) = false := by
    have a1 : ∀ u, starB u = false → (match u with | Expr.Starred .. => true | _ => false) = false := fun u hu => by cases u <;> first | rfl | cases hu
    simp only [List.any_cons, List.any_nil, a1 e s1, a1 e2 s2, a1 e3 s3]
    rfl
  have kx : env.kindOf x = some .local := hx
  have ky : env.kindOf y = some .local := hy
  have kz : env.kindOf z = some .local := hz
  have nm : ([Expr.Name x px, Expr.Name y py, Expr.Name z pz].filterMap fun
    | .Name id pos => if env.kindOf id == some .local && pos.line == px.line then some id else none
    | _ => none) = [x, y, z] := by
    simp [List.filterMap_cons, kx, ky, kz, hl, hl2]
  have er : [x, y, z].eraseDups.length = 3 := by
    have b : (y == x) = false := by simpa using (Ne.symm hxy)
    have b2 : (z == x) = false := by simpa using (Ne.symm hxz)
    have b3 : (z == y) = false := by simpa using (Ne.symm hyz)
    simp [List.eraseDups_cons, b, b2, b3]
  have hf' : [e, e2, e3].all (foldedForSure 8) = false := by simpa using hf
  have hc' : [e, e2, e3].all (constantsAlone 8) = false := by simpa using hc
  unfold swappedStores
  simp only [st, hb, hf', hc']
  have nm' : ([Expr.Name x px, Expr.Name y py, Expr.Name z pz].filterMap fun
    | .Name id pos => if env.kindOf id == some .local && pos.line == (([Expr.Name x px, Expr.Name y py, Expr.Name z pz].head?.map (·.pos.line)).getD 0) then some id else none
    | _ => none) = [x, y, z] := nm
  have e3 := congrArg (fun l : List Str => (l.length != 3 || l.eraseDups.length != l.length)) nm'
  refine (if_neg (by simp)).trans ((if_neg (fun h => ?_)).trans ((if_neg (fun h => ?_)).trans ((if_neg (fun h => ?_)).trans ((if_neg (fun h => ?_)).trans ?_))))
  · exact absurd (st.symm.trans h) (by decide)
  · have h2 := e3.symm.trans h
    have e4 : (([x, y, z] : List Str).length != 3 || ([x, y, z] : List Str).eraseDups.length != ([x, y, z] : List Str).length) = false := by rw [er]; rfl
    exact absurd (e4.symm.trans h2) (by decide)
  · cases h
  · cases h
  · exact congrArg (fun l : List Str => (pure (some l) : Sem (Option (List Str)))) nm'
def lclB (ck : Ck) (x : Str) : Bool := match ck.sc.names.lookup x with
  | some .local => true
  | _ => false
def lineB (a b : Pos) : Bool := a.line == b.line
def par2B (ck : Ck) (i j : Nat) (x y : Str) (px py : Pos) (e e2 : Expr) : Bool :=
  slotB ck i x && slotB ck j y && lclB ck x && lclB ck y && decide (i ≠ j) && decide (py.line = px.line) && decide (x ≠ y) && !starB e && !starB e2 && !(foldedForSure 8 e && foldedForSure 8 e2) && !(constantsAlone 8 e && constantsAlone 8 e2)
def par3B (ck : Ck) (i j k : Nat) (x y z : Str) (px py pz : Pos) (e e2 e3 : Expr) : Bool :=
  slotB ck i x && slotB ck j y && slotB ck k z && lclB ck x && lclB ck y && lclB ck z && decide (i ≠ j) && decide (i ≠ k) && decide (j ≠ k) && decide (py.line = px.line) && decide (pz.line = px.line) && decide (x ≠ y) && decide (x ≠ z) && decide (y ≠ z) && !starB e && !starB e2 && !starB e3 &&
    !(foldedForSure 8 e && (foldedForSure 8 e2 && foldedForSure 8 e3)) && !(constantsAlone 8 e && (constantsAlone 8 e2 && constantsAlone 8 e3))
/-- name = [..]: the comprehension's last store, or as any value -/
def lcAsgB (ck : Ck) (x : Str) (p' : Pos) (v : Expr) : Bool := match v with
  | .ListComp _ gs scope pos => if (p'.line == pos.line) = true then lclB ck x && !(scope.names.any fun (n, k) => n == x && (k == .local || k == .cell)) && (match gs with
      | [_] => true
      | _ => false) else true
  | _ => !compB v
section
variable (Γ : Gam)
/-- what may stand in an except suite -/
def suB : S → List Stmt → Bool
  | .pass, ss => match ss with
    | [.Pass _] => true
    | _ => false
  | .brk, ss => match ss with
    | [.Break _] => true
    | _ => false
  | .cont, ss => match ss with
    | [.Continue _] => true
    | _ => false
  | .retn, ss => match ss with
    | [.Return none _] => true
    | _ => false
  | .ret _ (.c t), ss => match ss with
    | [.Return (some e) _] => ckE Γ (.c t) ⟨[], default, false⟩ e
    | _ => false
  | _, _ => false
def ckSs : S → Ck → List Stmt → Bool
  | .pass, _, ss => match ss with
    | [] => true
    | [.Pass _] => true
    | [.Expr (.Constant (.str _) _ _) _] => true
    | _ => false
  | .seq a b, ck, ss => match ss with
    | s :: r :: rest => ckSs a ck [s] && ckSs b ck (r :: rest)
    | _ => false
  | .asg _ tg e, ck, ss => match ss with
    | [.Assign [t] v _] => (match tg, t with
      | .n i, .Name x p' => slotB ck i x && locB ck x && lcAsgB ck x p' v && ckE Γ e ck v
      | .tup ta, .Tuple es k p => !tupB v && ckT (.tup ta) ck (.Tuple es k p) && ckE Γ e ck v
      | _, _ => false)
    | _ => false
  | .par _ is es, ck, ss => match ss with
    | [.Assign [.Tuple ts _ _] (.Tuple vs _ _) _] => (match is, ts, vs with
      | [i, j], [.Name x px, .Name y py], [e, e2] => par2B ck i j x y px py e e2
      | [i, j, k], [.Name x px, .Name y py, .Name z pz], [e, e2, e3] => par3B ck i j k x y z px py pz e e2 e3
      | _, _, _ => false) && ckL Γ es ck vs
    | _ => false
  | .aug i op e, ck, ss => match ss with
    | [.AugAssign (.Name x _) o v _] => decide (o = op.op) && slotB ck i x && locB ck x && ckE Γ e ck v
    | _ => false
  | .setix _ o i e, ck, ss => match ss with
    | [.Assign [.Subscript ob ix _] v _] => ixB ix && ckE Γ o ck ob && ckE Γ i ck ix && ckE Γ e ck v
    | _ => false
  | .setfld _ o f e, ck, ss => match ss with
    | [.Assign [.Attribute ob s _] v _] => decide (Γ.fnm[f]? = some s) && ckE Γ o ck ob && ckE Γ e ck v
    | _ => false
  | .augfld o f op e, ck, ss => match ss with
    | [.AugAssign (.Attribute ob s _) p v _] => decide (p = op.op) && decide (Γ.fnm[f]? = some s) && ckE Γ o ck ob && ckE Γ e ck v
    | _ => false
  | .app _ i e, ck, ss => match ss with
    | [.Expr (.Call (.Attribute (.Name x _) m ap) [v] [] cp) _] => decide (m = "append") && varB ck i x && (ap.endLine == cp.line) && !starB v && ckE Γ e ck v
    | _ => false
  | .ext _ i e, ck, ss => match ss with
    | [.Expr (.Call (.Attribute (.Name x _) m ap) [v] [] cp) _] => decide (m = "extend") && varB ck i x && (ap.endLine == cp.line) && !starB v && ckE Γ e ck v
    | _ => false
  | .pop tg i, ck, ss => match ss with
    | [.Assign [t] (.Call (.Attribute (.Name x _) m ap) [] [] cp) _] => decide (m = "pop") && varB ck i x && (ap.endLine == cp.line) && (match tg, t with
      | .n j, .Name y _ => slotB ck j y && locB ck y
      | .tup ta, .Tuple es k p => ckT (.tup ta) ck (.Tuple es k p)
      | _, _ => false)
    | _ => false
  | .ex _ e, ck, ss => match ss with
    | [.Expr v _] => !compB v && ckE Γ e ck v
    | _ => false
  | .ret _ e, ck, ss => match ss with
    | [.Return (some v) _] => ckE Γ e ck v
    | _ => false
  | .retv i, ck, ss => match ss with
    | [.Return (some (.Name x _)) _] => varB ck i x
    | _ => false
  | .retn, _, ss => match ss with
    | [.Return none _] => true
    | _ => false
  | .ite _ c a b, ck, ss => match ss with
    | [.If t x y _] => ckB Γ c ck t && ckSs a ck x && ckSs b ck y
    | _ => false
  | .while c b, ck, ss => match ss with
    | [.While t x [] _] => ckB Γ c ck t && ckSs b ck x
    | _ => false
  | .for _ tg ik it b, ck, ss => match ss with
    | [.For t iter x [] _] => !setB iter && ckT tg ck t && (match srcOf ck t ik iter with
      | some xs => ckL Γ it ck xs
      | none => false) && ckSs b ck x
    | _ => false
  | .brk, _, ss => match ss with
    | [.Break _] => true
    | _ => false
  | .cont, _, ss => match ss with
    | [.Continue _] => true
    | _ => false
  | .raise x es, ck, ss => match ss with
    | [s] => (match es, Γ.exs[x]? with
      | .cons _ _, _ => true
      | .nil, some C => if C.flds = [] then (match s with
        | .Raise (some (.Call (.Name nm _) [] [] _)) none _ => decide (nm = C.name) && glB ck nm && !dbgB nm
        | _ => false) else true
      | .nil, none => false)
    | _ => false
  | .try b x h, ck, ss => match ss with
    | [.Try body [.ExceptHandler (some (.Name nm _)) none (b0 :: su) _] [] [] _] => (match Γ.exs[x]? with
      | some C => decide (nm = C.name)
      | none => false) && glB ck nm && !dbgB nm && ckSs b ck body && suB Γ h (b0 :: su)
    | _ => false
end
end G

set_option Elab.async false
set_option linter.all false
set_option maxRecDepth 100000
set_option maxHeartbeats 4000000
/-! The checker of statements is right. -/
namespace G
open PySem PySem.Spec PyProof.Rows L2

structure GoodS (Γ : Gam) (n : Nat) (ck : Ck) (X : Cx) (W : WX) : Prop where
  G : Good Γ n ck X W
  E : ExOk X.prog X.w X.K X.mg X.base Γ
  hp : PassesOwn (model X.prog X.w) X.A X.env X.xe
  stk : X.stack = X.env :: X.outer
  frm : X.env.frame = some X.env.locals
  kd : ck.sc.kind = .function
section
variable {Γ : Gam} {n : Nat} {ck : Ck} {X : Cx} {W W' : WX}
theorem GoodS.tr {pn : List (Addr × Obj)} {xe : Value → Shared → Prop} (S : GoodS Γ n ck X W) (tk : Takes (X.tr pn xe) W') (hp : PassesOwn (model X.prog X.w) X.A X.env xe) : GoodS Γ n ck (X.tr pn xe) W' :=
  ⟨⟨S.G.F, S.G.C1, S.G.C0, S.G.ro, tk, S.G.calm, S.G.nd, S.G.N, S.G.sc, S.G.df⟩, S.E, hp, S.stk, S.frm, S.kd⟩
theorem lc_shape {e : E} {elt : Expr} {gs : List Comprehension} {scope : Scope} {pos : Pos} (h : ckE Γ e ck (.ListComp elt gs scope pos) = true) : ∃ a tg ik it cs own, e = .lc a tg ik it cs own := by
  cases e <;> first | exact ⟨_, _, _, _, _, _, rfl⟩ | (unfold ckE at h; cases h)
theorem s_setLc {i : Nat} {y : Str} {py spos pos : Pos} {scope : Scope} {own : List (Str × Nat)} {ifs : List Expr} {elt iter tg : Expr} {tgT : Tg} {cs : B} {ik : IK} {m : EL} {a : E} {vs fz : List Nat} (hc : X.calm = true) (hN : X.N.Nodup) (hy : X.N[i]? = some y) (hyl : X.env.scope.names.lookup y = some .local)
    (hsw : swapsWith (.ListComp elt [⟨tg, iter, ifs, 0⟩] scope pos) (some (.Name y py)) spos.line X.env = pure true) (hvs : vs = own.map (·.2)) (htg : ∀ i ∈ tgT.vars, i ∈ vs) (hi : PI X tg iter (tI Γ X.K n W ik m)) (ok : BlkOk X.N X.env.scope scope own)
    (hg : ∀ (s : Shared) (H : Hp) (C : Addr) (cl : List (Str × Addr)) (fp : List Addr), PG (X.blk s H scope (compEnvC scope cl C X.env) fp) tg (gT Γ X.K tgT))
    (ht : ∀ (s : Shared) (H : Hp) (C : Addr) (cl : List (Str × Addr)) (fp : List Addr), PTs (X.blk s H scope (compEnvC scope cl C X.env) fp) ifs (tB Γ X.K n (fun _ _ _ _ => False) cs))
    (he : ∀ (s : Shared) (H : Hp) (C : Addr) (cl : List (Str × Addr)) (fp : List Addr), PE (X.blk s H scope (compEnvC scope cl C X.env) fp) elt (tE Γ X.K n (fun _ _ _ _ => False) a))
    (hs : ∀ x, foldedSetIterable iter X.env x = pure x) : PS X (.Assign [.Name y py] (.ListComp elt [⟨tg, iter, ifs, 0⟩] scope pos) spos) (tS Γ X.K W n (.asg fz (.n i) (.lc a tgT ik m cs vs))) := by
  subst hvs
  refine (ps_setLc hc hN hy hyl hsw hi ok hg ht he hs).imp fun D σ H ⟨g0, H0, g, st, ρ, rs, q⟩ => ?_
  exact lc_re htg (asg_re rs q)
theorem sw_false {elt : Expr} {gs : List Comprehension} {scope : Scope} {pos py : Pos} {y : Str} {l : Nat} {env : Env} (hl : (py.line == pos.line) = false) : swapsWith (.ListComp elt gs scope pos) (some (.Name y py)) l env = pure false := by
  unfold swapsWith
  simp only [Expr.pos, hl, Bool.and_false, Bool.false_and]
/-- the rule for name = e -/
theorem asg_ok {i : Nat} {x : Str} {p' spos : Pos} {v : Expr} {e : E} {fz : List Nat} (G : Good Γ n ck X W) (kd : ck.sc.kind = .function) (h1 : slotB ck i x = true) (h2 : locB ck x = true) (h3 : lcAsgB ck x p' v = true) (h4 : ckE Γ e ck v = true) :
    PS X (.Assign [.Name x p'] v spos) (tS Γ X.K W n (.asg fz (.n i) e)) := by
  obtain ⟨l1, l2⟩ := G.loc h2
  have he := ckE_ok e ck v X W G h4
  unfold lcAsgB at h3
  split at h3
  · rename_i elt gs scope pos
    by_cases hl : (p'.line == pos.line) = true
    · rw [if_pos hl] at h3
      simp only [Bool.and_eq_true, Bool.not_eq_true'] at h3
      obtain ⟨⟨k1, k2⟩, k3⟩ := h3
      have hloc : X.env.scope.names.lookup x = some .local := by
        rw [G.sc]
        unfold lclB at k1
        split at k1
        · assumption
        · cases k1
      obtain ⟨a, tg, ik, it, cs, own, rfl⟩ := lc_shape h4
      have hsw := sw_true (elt := elt) (gs := gs) (l := spos.line) (env := X.env) (by rw [G.sc]; exact kd) hloc hl k2
      unfold ckE at h4
      split at h4
      · rename_i elt' t iter ifs z scope' p' heq
        cases heq
        simp only [Bool.and_eq_true, Bool.not_eq_true'] at h4
        obtain ⟨⟨⟨⟨⟨⟨⟨h0, h1'⟩, h2'⟩, h3'⟩, h4'⟩, h5⟩, h6⟩, h7⟩ := h4
        have h0 := of_decide_eq_true h0
        subst h0
        refine s_setLc (own := ownOf ck own) G.calm G.nd (G.slot h1) hloc hsw ownOf_ix.symm (fun i hi => of_decide_eq_true (List.all_eq_true.mp h3' i hi)) ?_ (blkOk_by (by rw [G.N, G.sc]; exact h2')) (fun s H C cl fp => ckT_ok tg _ _ _ _ (G.blk scope s H C cl fp) h4') (fun s H C cl fp => ?_) (fun s H C cl fp => ckE_ok a _ _ _ _ (G.blk scope s H C cl fp) h7) (set_ok h1')
        · split at h5
          · rename_i xs hx
            refine src_ok G hx (ckL_plain h5).2 (fun b eb e' ee => ?_) (ckR_ok it ck _ X W G h5)
            subst eb ee
            have h5' := h5
            unfold ckL at h5'
            simp only [Bool.and_eq_true, Bool.not_eq_true'] at h5'
            exact ckE_ok b ck _ X W G h5'.1.2
          · cases h5
        · split at h6
          · split at h6
            · exact pts_yes
            · cases h6
          · exact pts_one (ckB_ok cs _ _ _ _ (G.blk scope s H C cl fp) h6)
          · cases h6
      · cases h4
    · have hl : (p'.line == pos.line) = false := by simpa using hl
      exact s_set G.nd (G.slot h1) l1 he (sw_false hl) l2
  · simp only [Bool.not_eq_true'] at h3
    exact s_set G.nd (G.slot h1) l1 he (sw_ok h3) l2
theorem ckF_ok : ∀ (m : EL) (es : List Expr), Good Γ n ck X W → ckL Γ m ck es = true → PA X es (tF Γ X.K n W m)
  | .nil, es, G, h => by
    unfold ckL at h
    split at h
    · exact snd_nilF
    · cases h
  | .cons a r, es, G, h => by
    unfold ckL at h
    split at h
    · simp only [Bool.and_eq_true, Bool.not_eq_true'] at h
      exact snd_consF (ckE_ok a ck _ X W G h.1.2) (ckF_ok r _ G h.2) (isstar h.1.1)
    · cases h
theorem const_ok {t : T} {ck : Ck} {e : Expr} {X : Cx} {W : WX} (h : ckE Γ (.c t) ck e = true) : PE X e (tE Γ X.K n W (.c t)) := by
  unfold ckE at h
  split at h
  · split at h
    · exact snd_non
    · rw [eq_of_beq h]; exact snd_bl
    · rw [of_decide_eq_true h]; exact snd_int
    · exact snd_str (of_decide_eq_true h)
    · rw [of_decide_eq_true h]; exact snd_byt
    · cases h
  · cases h
theorem su_ok {m : S} {ss : List Stmt} (h : suB Γ m ss = true) (X : Cx) : PSs X ss (tS Γ X.K W n m) := by
  unfold suB at h
  split at h
  · split at h
    · exact ss_one s_pass
    · cases h
  · split at h
    · exact ss_one s_brk
    · cases h
  · split at h
    · exact ss_one s_cont
    · cases h
  · split at h
    · exact ss_one s_retn
    · cases h
  · split at h
    · exact ss_one (s_ret (const_ok h))
    · cases h
  · cases h
def Both (X : Cx) (ss : List Stmt) (t : TS) : Prop := PSs X ss t ∧ ∀ s, ss = [s] → PS X s t
theorem both1 {s : Stmt} {t : TS} (h : PS X s t) : Both X [s] t := ⟨pss_one h, fun s' e => by cases e; exact h⟩
theorem lcl (G : Good Γ n ck X W) {x : Str} (h : lclB ck x = true) : X.env.scope.names.lookup x = some .local := by
  rw [G.sc]
  unfold lclB at h
  split at h
  · assumption
  · cases h
theorem pop_const {e : Expr} {p ap cp : Pos} {m : Str} : tupB (.Call (.Attribute e m ap) [] [] cp) = false := rfl
theorem asg_sub {o i : Expr} {p : Pos} {env : Env} (h : ixB i = true) : ∀ v, assign (.Subscript o i p) env v = (do
      let ov ← holding [v] (eval o env)
      let iv ← holding [v, ov] (eval i env)
      standAt p
      holding [v, ov, iv] (setItem ov iv v)
      release [v, ov, iv] []) := fun v => by
  cases i <;> first | rfl | cases h
theorem ckSs_ok : ∀ (m : S) (ck : Ck) (ss : List Stmt) (X : Cx) (W : WX), GoodS Γ n ck X W → ckSs Γ m ck ss = true → Both X ss (tS Γ X.K W n m)
  | .pass, ck, ss, X, W, S, h => by
    unfold ckSs at h
    split at h
    · exact ⟨ss_nil, fun s e => by cases e⟩
    · exact both1 s_pass
    · exact both1 s_doc
    · cases h
  | .seq a b, ck, ss, X, W, S, h => by
    unfold ckSs at h
    split at h
    · simp only [Bool.and_eq_true] at h
      exact ⟨ss_seq ((ckSs_ok a ck _ X W S h.1).2 _ rfl) (ckSs_ok b ck _ X W S h.2).1, fun s e => by cases e⟩
    · cases h
  | .asg fz tg e, ck, ss, X, W, S, h => by
    unfold ckSs at h
    split at h
    · split at h
      · simp only [Bool.and_eq_true] at h
        exact both1 (asg_ok S.G S.kd h.1.1.1 h.1.1.2 h.1.2 h.2)
      · simp only [Bool.and_eq_true, Bool.not_eq_true'] at h
        exact both1 (s_asgT (ckE_ok e ck _ X W S.G h.2) (ckT_ok _ ck _ X W S.G h.1.2) (sws_ok rfl) (sst_ok h.1.1) rfl)
      · cases h
    · cases h
  | .par fz is es, ck, ss, X, W, S, h => by
    unfold ckSs at h
    split at h
    · simp only [Bool.and_eq_true] at h
      obtain ⟨h, h2⟩ := h
      have hl := (ckL_plain h2).2
      have hF := ckF_ok es _ S.G h2
      split at h
      · simp only [par2B, Bool.and_eq_true, Bool.not_eq_true', decide_eq_true_eq] at h
        obtain ⟨⟨⟨⟨⟨⟨⟨⟨⟨⟨h1, h2⟩, h3⟩, h4⟩, h5⟩, h6⟩, h7⟩, h8⟩, h9⟩, h10⟩, h11⟩ := h
        have kx := lcl S.G h3
        have ky := lcl S.G h4
        exact both1 (s_par2 hl S.G.calm S.G.nd (S.G.slot h1) (S.G.slot h2) h5 kx ky hF (sw2 (by rw [S.G.sc]; exact S.kd) kx ky h6 h7 h8 h9 h10 h11) (sws_ok rfl))
      · simp only [par3B, Bool.and_eq_true, Bool.not_eq_true', decide_eq_true_eq] at h
        obtain ⟨⟨⟨⟨⟨⟨⟨⟨⟨⟨⟨⟨⟨⟨⟨⟨⟨⟨h1, h2⟩, h3⟩, h4⟩, h5⟩, h6⟩, h7⟩, h8⟩, h9⟩, h10⟩, h11⟩, h12⟩, h13⟩, h14⟩, h15⟩, h16⟩, h17⟩, h18⟩, h19⟩ := h
        have kx := lcl S.G h4
        have ky := lcl S.G h5
        have kz := lcl S.G h6
        exact both1 (s_par3 hl S.G.calm S.G.nd (S.G.slot h1) (S.G.slot h2) (S.G.slot h3) h7 h8 h9 kx ky kz hF (sw3 (by rw [S.G.sc]; exact S.kd) kx ky kz h10 h11 h12 h13 h14 h15 h16 h17 h18 h19) (sws_ok rfl))
      · cases h
    · cases h
  | .aug i op e, ck, ss, X, W, S, h => by
    unfold ckSs at h
    split at h
    · simp only [Bool.and_eq_true, decide_eq_true_eq] at h
      obtain ⟨⟨⟨rfl, h2⟩, h3⟩, h4⟩ := h
      obtain ⟨l1, l2⟩ := S.G.loc h3
      exact both1 (s_aug S.G.nd (S.G.slot h2) l1 (ckE_ok e ck _ X W S.G h4) l2)
    · cases h
  | .setix fz o i e, ck, ss, X, W, S, h => by
    unfold ckSs at h
    split at h
    · simp only [Bool.and_eq_true] at h
      exact both1 (s_setix (ckE_ok e ck _ X W S.G h.2) (ckE_ok o ck _ X W S.G h.1.1.2) (ckE_ok i ck _ X W S.G h.1.2) (asg_sub h.1.1.1) (sws_ok rfl) sss_ok rfl)
    · cases h
  | .setfld fz o f e, ck, ss, X, W, S, h => by
    unfold ckSs at h
    split at h
    · simp only [Bool.and_eq_true, decide_eq_true_eq] at h
      exact both1 (s_setfld S.G.F h.1.1 (ckE_ok o ck _ X W S.G h.1.2) (ckE_ok e ck _ X W S.G h.2) swf_ok)
    · cases h
  | .augfld o f op e, ck, ss, X, W, S, h => by
    unfold ckSs at h
    split at h
    · simp only [Bool.and_eq_true, decide_eq_true_eq] at h
      obtain ⟨⟨⟨rfl, h2⟩, h3⟩, h4⟩ := h
      exact both1 (s_augfld S.G.F h2 (ckE_ok o ck _ X W S.G h3) (ckE_ok e ck _ X W S.G h4))
    · cases h
  | .app fz i e, ck, ss, X, W, S, h => by
    unfold ckSs at h
    split at h
    · simp only [varB, Bool.and_eq_true, Bool.not_eq_true'] at h
      obtain ⟨⟨⟨⟨h1, h2⟩, h3⟩, h4⟩, h5⟩ := h
      have h1 := of_decide_eq_true h1
      subst h1
      exact both1 (s_app (S.G.slot h2.1.1.1) (S.G.vis h2.1.1.2) (dbg_f h2.1.2) (cd_f h2.2) (ckE_ok e ck _ X W S.G h5) (base_ok rfl) (few_ok (by simp [plainsB, h4]) rfl) h3 (isstar h4) (sw_ok rfl))
    · cases h
  | .ext fz i e, ck, ss, X, W, S, h => by
    unfold ckSs at h
    split at h
    · simp only [varB, Bool.and_eq_true, Bool.not_eq_true'] at h
      obtain ⟨⟨⟨⟨h1, h2⟩, h3⟩, h4⟩, h5⟩ := h
      have h1 := of_decide_eq_true h1
      subst h1
      exact both1 (s_ext (S.G.slot h2.1.1.1) (S.G.vis h2.1.1.2) (dbg_f h2.1.2) (cd_f h2.2) (ckE_ok e ck _ X W S.G h5) (base_ok rfl) (few_ok (by simp [plainsB, h4]) rfl) h3 (isstar h4) (sw_ok rfl))
    · cases h
  | .pop tg i, ck, ss, X, W, S, h => by
    unfold ckSs at h
    split at h
    · simp only [varB, Bool.and_eq_true, Bool.not_eq_true'] at h
      obtain ⟨⟨⟨h1, h2⟩, h3⟩, h4⟩ := h
      have h1 := of_decide_eq_true h1
      subst h1
      split at h4
      · simp only [Bool.and_eq_true] at h4
        obtain ⟨l1, l2⟩ := S.G.loc h4.2
        exact both1 (s_pop (S.G.slot h2.1.1.1) (S.G.vis h2.1.1.2) (dbg_f h2.1.2) (cd_f h2.2) (base_ok rfl) h3 S.G.nd (S.G.slot h4.1) l1 (sw_ok rfl) l2)
      · exact both1 (s_popT (S.G.slot h2.1.1.1) (S.G.vis h2.1.1.2) (dbg_f h2.1.2) (cd_f h2.2) (base_ok rfl) h3 (ckT_ok _ ck _ X W S.G h4) (sws_ok rfl) (sst_ok rfl) rfl)
      · cases h4
    · cases h
  | .ex fz e, ck, ss, X, W, S, h => by
    unfold ckSs at h
    split at h
    · simp only [Bool.and_eq_true, Bool.not_eq_true'] at h
      exact both1 (s_ex (ckE_ok e ck _ X W S.G h.2) (sw_ok h.1))
    · cases h
  | .ret fz e, ck, ss, X, W, S, h => by
    unfold ckSs at h
    split at h
    · exact both1 (s_ret (ckE_ok e ck _ X W S.G h))
    · cases h
  | .retv i, ck, ss, X, W, S, h => by
    unfold ckSs at h
    split at h
    · simp only [varB, Bool.and_eq_true, Bool.not_eq_true'] at h
      exact both1 (s_retv (S.G.slot h.1.1.1) (S.G.vis h.1.1.2) (dbg_f h.1.2) (cd_f h.2))
    · cases h
  | .retn, ck, ss, X, W, S, h => by
    unfold ckSs at h
    split at h
    · exact both1 s_retn
    · cases h
  | .ite fz c a b, ck, ss, X, W, S, h => by
    unfold ckSs at h
    split at h
    · simp only [Bool.and_eq_true] at h
      exact both1 (s_ite (ckB_ok c ck _ X W S.G h.1.1) (ckSs_ok a ck _ X W S h.1.2).1 (ckSs_ok b ck _ X W S h.2).1)
    · cases h
  | .while c b, ck, ss, X, W, S, h => by
    unfold ckSs at h
    split at h
    · simp only [Bool.and_eq_true] at h
      exact both1 (s_while S.hp (ckB_ok c ck _ X W S.G h.1) (ckSs_ok b ck _ X W S h.2).1)
    · cases h
  | .for fz tg ik it b, ck, ss, X, W, S, h => by
    unfold ckSs at h
    split at h
    · simp only [Bool.and_eq_true, Bool.not_eq_true'] at h
      obtain ⟨⟨⟨h1, h2⟩, h3⟩, h4⟩ := h
      refine both1 (s_for S.hp S.G.calm ?_ (ckT_ok tg ck _ X W S.G h2) (ckSs_ok b ck _ X W S h4).1 (set_ok h1))
      split at h3
      · rename_i xs hx
        refine src_okA S.G hx (ckL_plain h3).2 (fun b eb e' ee => ?_) (ckA_ok it ck _ X W S.G h3)
        subst eb ee
        have h5' := h3
        unfold ckL at h5'
        simp only [Bool.and_eq_true, Bool.not_eq_true'] at h5'
        exact ckE_ok b ck _ X W S.G h5'.1.2
      · cases h3
    · cases h
  | .brk, ck, ss, X, W, S, h => by
    unfold ckSs at h
    split at h
    · exact both1 s_brk
    · cases h
  | .cont, ck, ss, X, W, S, h => by
    unfold ckSs at h
    split at h
    · exact both1 s_cont
    · cases h
  | .raise x es, ck, ss, X, W, S, h => by
    unfold ckSs at h
    split at h
    · split at h
      · exact both1 s_raise1
      · rename_i C hC
        by_cases hf : C.flds = []
        · rw [if_pos hf] at h
          split at h
          · simp only [Bool.and_eq_true, Bool.not_eq_true', decide_eq_true_eq] at h
            exact both1 (s_raise S.E S.G.calm S.G.ro S.G.tk hC hf h.1.1 (S.G.gl h.1.2) (dbg_f h.2))
          · cases h
        · exact both1 (s_raise0 hC hf)
      · cases h
    · cases h
  | .try b x hs, ck, ss, X, W, S, h => by
    unfold ckSs at h
    split at h
    · simp only [Bool.and_eq_true, Bool.not_eq_true'] at h
      obtain ⟨⟨⟨⟨h1, h2⟩, h3⟩, h4⟩, h5⟩ := h
      split at h1
      · rename_i C hC
        exact both1 (s_try S.E S.stk S.frm S.G.tk hC (of_decide_eq_true h1) (S.G.gl h2) (dbg_f h3) (fun W' pn xe tk hp => (ckSs_ok b ck _ _ W' (S.tr tk hp) h4).1) fun a oe pn => su_ok h5 _)
      · cases h1
    · cases h
end
end G

set_option Elab.async false
set_option linter.all false
set_option maxRecDepth 100000
set_option maxHeartbeats 4000000
/-! All defs keep what the evaluator says. -/
namespace G
open PySem PySem.Spec PyProof.Rows L2

/-! ### facts, read off the written part -/
mutual
def relTB (K : PySem.W.Frag) : T → Value → Bool
  | .non, u => match u with
    | .none => true
    | _ => false
  | .bl b, u => match u with
    | .bool c => b == c
    | _ => false
  | .int i, u => match u with
    | .int j _ => decide (i = j)
    | _ => false
  | .str l, u => match u with
    | .str s _ => decide (s = toS l)
    | _ => false
  | .byt l, u => match u with
    | .bytes c _ => decide (c = l.toArray)
    | _ => false
  | .tup ts, u => match u with
    | .ref a => (match K.lookup a with
      | some ⟨.type c, none, .seq its _, _⟩ => decide (c = "tuple") && decide (its.size ≤ sizeLine) && relTsB K ts its.toList
      | _ => false)
    | _ => false
  | _, _ => false
def relTsB (K : PySem.W.Frag) : List T → List Value → Bool
  | [], us => us.isEmpty
  | t :: ts, us => match us with
    | u :: us => relTB K t u && relTsB K ts us
    | [] => false
end
mutual
theorem relTB_ok {K : PySem.W.Frag} : ∀ (t : T) (u : Value), relTB K t u = true → ∃ v, RelV v u ∧ (∀ g H, RelT K g H t v) ∧ ∀ ts, t = .tup ts → ∃ a o, u = .ref a ∧ K.lookup a = some o ∧ o.cls = .type "tuple" ∧ o.dict = none
  | .non, u, h => by
    unfold relTB at h
    split at h
    · exact ⟨.non, rfl, fun _ _ => .non, fun _ e => nomatch e⟩
    · cases h
  | .bl b, u, h => by
    unfold relTB at h
    split at h
    · rw [← eq_of_beq h]
      exact ⟨.bl b, rfl, fun _ _ => .bl b, fun _ e => nomatch e⟩
    · cases h
  | .int i, u, h => by
    unfold relTB at h
    split at h
    · rw [← of_decide_eq_true h]
      exact ⟨.int i, ⟨_, rfl⟩, fun _ _ => .int i, fun _ e => nomatch e⟩
    · cases h
  | .str l, u, h => by
    unfold relTB at h
    split at h
    · rw [of_decide_eq_true h]
      exact ⟨.str (toS l), ⟨_, rfl⟩, fun _ _ => .str l, fun _ e => nomatch e⟩
    · cases h
  | .byt l, u, h => by
    unfold relTB at h
    split at h
    · rw [of_decide_eq_true h]
      exact ⟨.byt l.toArray, ⟨_, rfl⟩, fun _ _ => .byt l, fun _ e => nomatch e⟩
    · cases h
  | .tup ts, u, h => by
    unfold relTB at h
    split at h
    · rename_i a
      split at h
      · rename_i c its n sl hq
        simp only [Bool.and_eq_true, decide_eq_true_eq] at h
        obtain ⟨⟨h1, h2⟩, h3⟩ := h
        obtain ⟨vs, k1, k2⟩ := relTsB_ok ts its.toList h3
        refine ⟨.ref a, rfl, fun g H => .tup (.inr ⟨_, its, n, hq, congrArg Value.type h1, rfl, h2, k1⟩) (k2 g H), fun _ _ => ⟨a, _, rfl, hq, congrArg Value.type h1, rfl⟩⟩
      · cases h
    · cases h
  | .lst _, _, h => by unfold relTB at h; cases h
  | .scr _, _, h => by unfold relTB at h; cases h
  | .loc _, _, h => by unfold relTB at h; cases h
  | .met _ _, _, h => by unfold relTB at h; cases h
theorem relTsB_ok {K : PySem.W.Frag} : ∀ (ts : List T) (us : List Value), relTsB K ts us = true → ∃ vs, Vals vs us ∧ ∀ g H, RelTs K g H ts vs
  | [], us, h => by
    unfold relTsB at h
    cases us with
    | nil => exact ⟨[], .nil, fun _ _ => .nil⟩
    | cons _ _ => cases h
  | t :: ts, us, h => by
    unfold relTsB at h
    split at h
    · simp only [Bool.and_eq_true] at h
      obtain ⟨v, h1, h2, _⟩ := relTB_ok t _ h.1
      obtain ⟨vs, k1, k2⟩ := relTsB_ok ts _ h.2
      exact ⟨v :: vs, .cons h1 k1, fun g H => .cons (h2 g H) (k2 g H)⟩
    · cases h
end
def oexB (K : PySem.W.Frag) (C : Addr) : Bool := (match K.lookup C with
  | some ⟨.type t, _, .cls cd, sl⟩ => (match cd.mro, sl.toList with
    | .ref C' :: bm, [_, _, _, _, some (.builtin n), _] => decide (t = "type") && decide (C' = C) && decide (n = "ValueError.__new__") && !cd.hasDel && cd.hasDict && PySem.HandSPX.refsVE bm
    | _, _ => false)
  | _ => false) && decide (PySem.W.findIn K (.ref C) "__setattr__" = some (some (.builtin "object.__setattr__"))) && decide (PySem.W.subIn K (.ref C) (.type "BaseException") = some true) && decide (PySem.W.typeIn K (.ref C) = some (.type "type")) && PySem.W.keepIn K (.ref C)
theorem oexB_ok {K : PySem.W.Frag} {C : Addr} (h : oexB K C = true) : OexC K C := by
  unfold oexB at h
  simp only [Bool.and_eq_true, decide_eq_true_eq] at h
  obtain ⟨⟨⟨⟨h0, h1⟩, h2⟩, h3⟩, h4⟩ := h
  refine ⟨?_, h1, h2, h3, h4⟩
  split at h0
  · rename_i t dd cd sl hq
    split at h0
    · rename_i C' bm k0 k1 k2 k3 n k5 hm hsl
      simp only [Bool.and_eq_true, decide_eq_true_eq, Bool.not_eq_true'] at h0
      obtain ⟨⟨⟨⟨⟨rfl, rfl⟩, rfl⟩, e4⟩, e5⟩, e6⟩ := h0
      obtain ⟨nm, bs, mro, ns, qn, hd, sn, sb, ab, col, del⟩ := cd
      have hm : mro = .ref C' :: bm := hm
      have e4 : del = false := e4
      have e5 : hd = true := e5
      subst hm e4 e5
      have esl : sl = #[k0, k1, k2, k3, some (.builtin "ValueError.__new__"), k5] := by
        have := congrArg List.toArray hsl
        simpa using this
      subst esl
      exact ⟨nm, qn, ns, bs, bm, sn, sb, ab, col, dd, k0, k1, k2, k3, k5, hq, e6⟩
    · cases h0
  · cases h0
def eqOO (a b : Option (Option Value)) : Bool := decide (a = b)
/-- where an exception class finds its __init__ -/
def iniA (K : PySem.W.Frag) (b : Str) : Addr := He.fAd K (b, some "__init__")
/-- base: the class that holds the exceptions' __init__ -/
def exB (Γ : Gam) (base : Str) (K : PySem.W.Frag) : Bool :=
  (Γ.gls.all fun p => match PySem.W.nsIn K mainGlobals p.1 with
    | some (some u) => relTB K p.2 u
    | _ => false) &&
  (usedB.all fun x => eqOO (PySem.W.nsIn K mainGlobals x) (some none)) &&
  (Γ.fds.all fun fd => match fd.owner with
    | none => eqOO (PySem.W.nsIn K mainGlobals fd.nm) (some (some (.ref (He.ga K fd.nm))))
    | some _ => true) &&
  (Γ.cls.all fun C => (He.Fa.glo C.name).ok K && (He.Fa.cls C.name).ok K && (He.Fa.mkr C.name).ok K && decide (He.ma K (He.ga K C.name) "__init__" = adrF Γ K C.init) &&
    (Γ.fnm.all fun s => (He.Fa.noat C.name s).ok K) && (C.meths.all fun p => match Γ.mnm[p.1]? with
      | some s => (He.Fa.meth C.name s).ok K && decide (He.ma K (He.ga K C.name) s = adrF Γ K p.2)
      | none => true)) &&
  (Γ.exs.all fun C => (He.Fa.glo C.name).ok K && (He.Fa.exm C.name C.name true).ok K && (!C.flds.isEmpty || (oexB K (He.ga K C.name) && eqOO (PySem.W.findIn K (.ref (He.ga K C.name)) "__init__") (some (some (.ref (iniA K base)))) &&
    decide (PySem.W.typeIn K (.ref (iniA K base)) = some (.type "function")) && eqOO (PySem.W.nsIn K mainGlobals "ValueError") (some none) && (match PySem.W.findCls K (.type "ValueError") (.type "type") "__init__" with
      | some (.val (.builtin n)) => decide (n = "ValueError.__init__")
      | _ => false))))
/-- what the numbering must satisfy -/
def numB (Γ : Gam) : Bool := decide Γ.fnm.Nodup && Γ.mnm.all fun s => decide (s ∉ Γ.fnm)
section
variable {Γ : Gam} {K : PySem.W.Frag} {h : Heap} {mg : Str → Option Value} {base : Str}
theorem lookup_mem' {α β : Type} [BEq α] [LawfulBEq α] : ∀ {l : List (α × β)} {a : α} {b : β}, l.lookup a = some b → (a, b) ∈ l
  | (k, v) :: r, a, b, h => by
    rw [List.lookup_cons] at h
    cases hb : a == k with
    | true =>
      rw [hb] at h
      have e : v = b := Option.some.inj h
      have e2 : a = k := eq_of_beq hb
      rw [e, e2]
      exact List.mem_cons_self
    | false =>
      rw [hb] at h
      exact List.mem_cons_of_mem _ (lookup_mem' h)
theorem facts_ok (hn : numB Γ = true) (X : K.In h) (G : h.Ns mainGlobals mg) (hk : ∀ (f : Nat) fd, Γ.fds[f]? = some fd → PySem.W.keepIn K (.ref (adrF Γ K f)) = true) (e : exB Γ base K = true) : Facts Γ K mg := by
  unfold numB at hn
  unfold exB at e
  simp only [Bool.and_eq_true, List.all_eq_true, decide_eq_true_eq] at hn e
  obtain ⟨⟨⟨⟨e1, e2⟩, e3⟩, e4⟩, e5⟩ := e
  refine ⟨hn.1, fun k x t hg => ?_, fun k x ts u hg hm => ?_, fun x hx => ?_, fun f fd hf ho => ?_, fun c C hC => ?_, fun c C m f s hC hm hs => ?_, fun c C f s hC hs => ?_, fun m s hs => hn.2 s (List.mem_of_getElem? hs)⟩
  · have q := e1 (x, t) (List.mem_of_getElem? hg)
    simp only at q
    split at q
    · rename_i u hu
      obtain ⟨v, h1, h2, _⟩ := relTB_ok t u q
      exact ⟨u, v, PySem.W.mg_of X G hu, h1, h2⟩
    · cases q
  · have q := e1 (x, .tup ts) (List.mem_of_getElem? hg)
    simp only at q
    split at q
    · rename_i u' hu
      obtain ⟨v, h1, h2, h3⟩ := relTB_ok _ u' q
      rw [PySem.W.mg_of X G hu] at hm
      cases hm
      exact h3 ts rfl
    · cases q
  · exact PySem.W.mg_none_of X G (of_decide_eq_true (e2 x hx))
  · have q := e3 fd (List.mem_of_getElem? hf)
    rw [ho] at q
    have ea : adrF Γ K f = He.ga K fd.nm := by
      unfold adrF ownAt
      rw [hf]
      simp only [ho]
      rfl
    refine ⟨?_, hk f fd hf⟩
    rw [ea]
    exact PySem.W.mg_of X G (of_decide_eq_true q)
  · obtain ⟨⟨⟨⟨⟨q1, q2⟩, q3⟩, q4⟩, q5⟩, q6⟩ := e4 C (List.mem_of_getElem? hC)
    have ea : clsA Γ K c = He.ga K C.name := by unfold clsA; rw [hC]
    rw [ea]
    refine ⟨He.cls_ok q2, He.glo_ok X G q1, ?_⟩
    rw [← q4]
    exact He.mkr_ok q3
  · obtain ⟨⟨⟨⟨⟨q1, q2⟩, q3⟩, q4⟩, q5⟩, q6⟩ := e4 C (List.mem_of_getElem? hC)
    have ea : clsA Γ K c = He.ga K C.name := by unfold clsA; rw [hC]
    rw [ea]
    have q := q6 (m, f) (lookup_mem' hm)
    simp only [hs, Bool.and_eq_true, decide_eq_true_eq] at q
    rw [← q.2]
    exact He.meth_ok q.1
  · obtain ⟨⟨⟨⟨⟨q1, q2⟩, q3⟩, q4⟩, q5⟩, q6⟩ := e4 C (List.mem_of_getElem? hC)
    have ea : clsA Γ K c = He.ga K C.name := by unfold clsA; rw [hC]
    rw [ea]
    exact He.noat_ok (q5 s (List.mem_of_getElem? hs))
end

/-! ### exceptions' __init__ -/
section
variable {P : Program} {w : World} {K : PySem.W.Frag} {mg : Str → Option Value} {base : Heap}
def iniB (d : He.DefD) : Bool := (match d.body with
  | [.Expr (.Call (.Attribute (.Name v p1) i p2) [.Name s p3, .Constant (.str m) j p4] [] pos) pos'] => decide (v = "ValueError") && decide (i = "__init__") && decide (s = "self") && (p2.endLine == pos.line)
  | _ => false) && C8.scC ["self"] ["self"] d.scope && (match d.scope.names.lookup ("ValueError" : Str) with
  | some .globalImplicit => true
  | _ => false) && d.dfl.isEmpty && d.kwd.isEmpty
theorem ini_ok {d : He.DefD} {f : Addr} {fd : FuncData} (hb : iniB d = true) (F : FunD K d.name d.qual d.params d.body d.scope (d.dvs K) (d.kws K) f fd) (hm : mg "ValueError" = none)
    (vV : PySem.W.findCls K (.type "ValueError") (.type "type") "__init__" = some (.val (.builtin "ValueError.__init__"))) : FnOk P w K mg base (L2.CX P w) 1 f fd ["self"] (spI K) := by
  unfold iniB at hb
  simp only [Bool.and_eq_true] at hb
  obtain ⟨⟨⟨⟨h1, h2⟩, h3⟩, h4⟩, h5⟩ := hb
  have S := C8.fnScope_by h2
  have hg : d.scope.names.lookup ("ValueError" : Str) = some .globalImplicit := by
    split at h3
    · assumption
    · cases h3
  have hself : d.scope.names.lookup ("self" : Str) = some .local ∨ d.scope.names.lookup ("self" : Str) = some .cell := S.par _ (by simp)
  split at h1
  · rename_i v p1 i p2 s p3 m j p4 pos pos' hbody
    simp only [Bool.and_eq_true, decide_eq_true_eq] at h1
    obtain ⟨⟨⟨rfl, rfl⟩, rfl⟩, hl⟩ := h1
    rw [hbody] at F
    refine F.ok S (fun vs H Q E h => ?_) fun cdv A outer s H vs Q E hr h => ?_
    · obtain ⟨a, C, rfl, _⟩ := h
      rfl
    · obtain ⟨a, C, rfl, T, ha, q⟩ := h
      refine ⟨tDrop (tVeI K (tCons (tVar 0) (tCons (tC (.str m)) tNil))), pss_one (ps_expr ?_ rfl), ?_⟩
      · refine pe_veinit hg hm vV (pa_cons (pe_var (i := 0) rfl ?_) (pa_cons pe_str pa_nil)) (meth_ht rfl rfl rfl hl)
        rcases hself with k | k
        · exact .inl k
        · exact .inr (.inl k)
      · exact ⟨_, rfl, a, C, [.str m], rfl, (by show 1 ≤ 1000; decide), T, ha, q⟩
  · cases h1
end
end G

set_option Elab.async false
set_option linter.all false
set_option maxRecDepth 100000
set_option maxHeartbeats 4000000
/-! All defs, the law. -/
namespace G
open PySem PySem.Spec PyProof.Rows L2

def defB (Γ : Gam) (fd : FD) (d : He.DefD) : Bool := decide (d.at_ = ownAt Γ fd) && d.dfl.isEmpty && d.kwd.isEmpty && C8.scC fd.N fd.ps d.scope && ckSs Γ fd.body ⟨fd.N, d.scope, true⟩ d.body
def defsB (Γ : Gam) : List FD → List He.DefD → Bool
  | [], [] => true
  | fd :: fds, d :: ds => defB Γ fd d && defsB Γ fds ds
  | _, _ => false
theorem defsB_at {Γ : Gam} : ∀ {fds : List FD} {ds : List He.DefD} {i : Nat} {fd : FD}, defsB Γ fds ds = true → fds[i]? = some fd → ∃ d, ds[i]? = some d ∧ defB Γ fd d = true
  | [], _, _, _, _, h => by simp at h
  | _ :: _, [], _, _, h, _ => by cases h
  | fd :: fds, d :: ds, 0, fd', h, e => by
    simp only [defsB, Bool.and_eq_true] at h
    simp at e
    subst e
    exact ⟨d, rfl, h.1⟩
  | fd :: fds, d :: ds, i + 1, fd', h, e => by
    simp only [defsB, Bool.and_eq_true] at h
    obtain ⟨d', h1, h2⟩ := defsB_at (i := i) h.2 (by simpa using e)
    exact ⟨d', by simpa using h1, h2⟩
def BindOk (d : He.DefD) (ps : List Str) : Prop := ∀ (kV doc pm : Value) (an : Option Addr) (cdv ct : Value) (us : List Value), us.length = ps.length → bindArgs (PySem.W.fnOf d.name d.qual d.params d.body d.scope .none kV doc pm an cdv ct) ⟨us, []⟩ = pure (ps.zip us)
inductive BindAll : List FD → List He.DefD → Prop
  | nil : BindAll [] []
  | cons {fd : FD} {d : He.DefD} {fds : List FD} {ds : List He.DefD} : BindOk d fd.ps → BindAll fds ds → BindAll (fd :: fds) (d :: ds)
theorem BindAll.at : ∀ {fds : List FD} {ds : List He.DefD} {i : Nat} {fd : FD} {d : He.DefD}, BindAll fds ds → fds[i]? = some fd → ds[i]? = some d → BindOk d fd.ps
  | _, _, _, _, _, .nil, h, _ => by simp at h
  | _, _, 0, _, _, .cons a b, h, e => by
    simp at h e
    subst h e
    exact a
  | _, _, i + 1, _, _, .cons a b, h, e => BindAll.at (i := i) b (by simpa using h) (by simpa using e)
section
variable {Γ : Gam} {P : Program} {w : World} {K : PySem.W.Frag} {h : Heap} {mg : Str → Option Value} {base : Heap} {ds fn : List He.DefD} {fa : List He.Fa} {dI : He.DefD} {bn : Str}
theorem repS_start {fd : FD} {ts : List T} {vs : List V} {g : Gh} {st : Store} {H : Hp} (wf : WF Γ K g st H) (r : RelTs K g H ts vs) : RepS Γ K g H g st (start0 fd ts) (start fd.N vs) H := by
  have hlen := r.length
  have no : ∀ (i : Nat) us, (start0 fd ts)[i]? ≠ some (.ow us) := fun i us e => by
    unfold start0 at e
    by_cases hi : i < (ts.map Sl.va).length
    · rw [List.getElem?_append_left hi, List.getElem?_map] at e
      cases q : ts[i]? with
      | none => rw [q] at e; cases e
      | some t => rw [q] at e; cases e
    · rw [List.getElem?_append_right (by omega), List.getElem?_replicate] at e
      split at e <;> cases e
  refine ⟨⟨wf, ?_, fun i t e => ?_, fun i us e => absurd e (no i us)⟩, Step.refl, fun i us a e _ => absurd e (no i us), fun i j us _ e _ _ => absurd e (no i us)⟩
  · unfold start0 L2.start
    simp [hlen]
  · unfold start0 at e
    by_cases hi : i < (ts.map Sl.va).length
    · rw [List.getElem?_append_left hi, List.getElem?_map] at e
      cases q : ts[i]? with
      | none => rw [q] at e; cases e
      | some t' =>
        rw [q] at e
        have e : some (Sl.va t') = some (.va t) := e
        cases e
        obtain ⟨v, h1, h2⟩ := r.get q
        refine ⟨v, ?_, h2⟩
        unfold L2.start
        have hv := (List.getElem?_eq_some_iff.mp h1).1
        rw [List.getElem?_append_left (by simpa using hv), List.getElem?_map, h1]
        rfl
    · rw [List.getElem?_append_right (by omega), List.getElem?_replicate] at e
      split at e <;> cases e
theorem one_ok {n f : Nat} {fd : FD} {d : He.DefD} {fdat : FuncData} (F : Facts Γ K mg) (E : ExOk P w K mg base Γ) (C1 : CallsOk P w K mg base Γ n) (C0 : CallsOk P w K mg base Γ (n - 1)) (hf : Γ.fds[f]? = some fd) (h2 : defB Γ fd d = true) (k2 : FunD K d.name d.qual d.params d.body d.scope [] [] (adrF Γ K f) fdat) :
    FnOk P w K mg base (L2.CX P w) (n + 1 + 2) (adrF Γ K f) fdat fd.ps (spF Γ K (callF Γ (n + 1) f)) := by
  unfold defB at h2
  simp only [Bool.and_eq_true, decide_eq_true_eq] at h2
  obtain ⟨⟨⟨⟨e1, e2⟩, e3⟩, e4⟩, e5⟩ := h2
  have S := C8.fnScope_by e4
  refine k2.ok S (fun vs H Q E ⟨g, st, ts, wf, r, q⟩ => ?_) fun cdv A outer s H vs Q E' hr ⟨g, st, ts, wf, r, q⟩ => ?_
  · rw [callF_succ] at q
    unfold runF at q
    rw [hf] at q
    by_cases hl : ts.length = fd.ps.length
    · rw [← r.length]; exact hl
    · have q : Wg Γ K (RelR K H) E g H ((if ts.length = fd.ps.length then retOf (evS Γ (orc Γ n) fd.body (start0 fd ts)) else M.fail) st) Q := q
      rw [if_neg hl] at q
      exact False.elim q
  · rw [callF_succ] at q
    unfold runF at q
    rw [hf] at q
    have q : Wg Γ K (RelR K H) E' g H ((if ts.length = fd.ps.length then retOf (evS Γ (orc Γ n) fd.body (start0 fd ts)) else M.fail) st) Q := q
    by_cases hl : ts.length = fd.ps.length
    · rw [if_pos hl] at q
      have GS : GoodS Γ n ⟨fd.N, d.scope, true⟩ (cxOf (L2.CX P w) P w K mg base fd.N d.qual d.scope (adrF Γ K f) cdv A outer s H E') (fun cls dd _ H => E' cls dd H) := by
        refine ⟨⟨F, C1, C0, hr, takes_of rfl rfl rfl rfl, rfl, S.nd, rfl, rfl, fun _ _ => rfl⟩, E, passes_of rfl, rfl, rfl, S.kind⟩
      refine ⟨tS Γ K (fun cls dd _ H => E' cls dd H) n fd.body, (ckSs_ok fd.body _ _ _ _ GS e5).1, g, H, g, st, start0 fd ts, repS_start wf r, ?_⟩
      unfold retOf at q
      cases e : evS Γ (orc Γ n) fd.body (start0 fd ts) st with
      | fail => rw [e] at q; exact q
      | exn x fs ρ st' =>
        rw [e] at q
        exact fun g' H' σ dd m rs rx => q g' H' dd rs.s rs.e.wf rx
      | ok fl ρ st' =>
        rw [e] at q
        cases fl with
        | nx => exact fun g' H' σ m rs => q g' H' .non rs.s rs.e.wf .non
        | bk => exact False.elim q
        | ct => exact False.elim q
        | rt rr => exact fun g' H' v m s' w' rv => q g' H' v s' w' rv
    · rw [if_neg hl] at q
      exact False.elim q
theorem calls_ok (hd : defsB Γ Γ.fds ds = true) (hb : BindAll Γ.fds ds) (hfn : ∀ d ∈ ds, d ∈ fn) (c : He.SaysD fa fn K) (F : Facts Γ K mg) (E : ExOk P w K mg base Γ) : ∀ n, CallsOk P w K mg base Γ n := by
  have hF : ∀ (f : Nat) fd, Γ.fds[f]? = some fd → ∃ d fdat, ds[f]? = some d ∧ defB Γ fd d = true ∧ FunD K d.name d.qual d.params d.body d.scope [] [] (adrF Γ K f) fdat ∧ Binds K fdat fd.ps [] := fun f fd hf => by
    obtain ⟨d, h1, h2⟩ := defsB_at hd hf
    obtain ⟨i, hi⟩ := List.getElem?_of_mem (hfn d (List.mem_of_getElem? h1))
    obtain ⟨fdat, k1⟩ := c.def_ i (d := d) hi
    have h2' := h2
    unfold defB at h2'
    simp only [Bool.and_eq_true, decide_eq_true_eq] at h2'
    obtain ⟨⟨⟨⟨e1, e2⟩, e3⟩, e4⟩, e5⟩ := h2'
    have e2 : d.dfl = [] := List.isEmpty_iff.mp e2
    have e3 : d.kwd = [] := List.isEmpty_iff.mp e3
    have ea : He.fAd K d.at_ = adrF Γ K f := by
      unfold adrF
      rw [hf, e1]
    have k2 : FunD K d.name d.qual d.params d.body d.scope [] [] (adrF Γ K f) fdat := by
      have := k1
      unfold He.DefD.dvs He.DefD.kws at this
      rw [e2, e3, ea] at this
      exact this
    exact ⟨d, fdat, h1, h2, k2, k2.bindsN fun kV doc pm an cdv ct us hl => hb.at hf h1 kV doc pm an cdv ct us hl⟩
  have zero : CallsOk P w K mg base Γ 0 := fun f fd hf => by
    obtain ⟨d, fdat, _, _, _, hB⟩ := hF f fd hf
    exact ⟨fdat, ⟨fun vs H Q E ⟨g, st, ts, _, _, q⟩ => False.elim q, fun A outer s H args us vs Q E _ _ _ _ ⟨g, st, ts, _, _, q⟩ => False.elim q⟩, hB⟩
  have step : ∀ n, CallsOk P w K mg base Γ n → CallsOk P w K mg base Γ (n - 1) → CallsOk P w K mg base Γ (n + 1) := fun n C1 C0 f fd hf => by
    obtain ⟨d, fdat, h1, h2, k2, hB⟩ := hF f fd hf
    exact ⟨fdat, one_ok F E C1 C0 hf h2 k2, hB⟩
  intro n
  induction n using Nat.strongRecOn with
  | _ n ih =>
    cases n with
    | zero => exact zero
    | succ n => exact step n (ih n (Nat.lt_succ_self n)) (ih (n - 1) (by omega))
theorem exok (hi : iniB dI = true) (hat : dI.at_ = (bn, some ("__init__" : Str))) (hbI : BindOk dI ["self"]) (hfn : dI ∈ fn) (c : He.SaysD fa fn K) (X : K.In h) (G : h.Ns mainGlobals mg) (e : exB Γ bn K = true) : ExOk P w K mg base Γ := by
  unfold exB at e
  simp only [Bool.and_eq_true, List.all_eq_true, decide_eq_true_eq] at e
  obtain ⟨⟨⟨⟨e1, e2⟩, e3⟩, e4⟩, e5⟩ := e
  intro x C hx
  obtain ⟨⟨q1, q2⟩, q3⟩ := e5 C (List.mem_of_getElem? hx)
  have ea : excA Γ K x = He.ga K C.name := by unfold excA; rw [hx]
  rw [ea]
  refine ⟨He.glo_ok X G q1, He.exm_ok q2, fun hf => ?_⟩
  simp only [hf, List.isEmpty_nil, Bool.not_true, Bool.false_or, Bool.and_eq_true, decide_eq_true_eq] at q3
  obtain ⟨⟨⟨⟨k1, k2⟩, k3⟩, k4⟩, k5⟩ := q3
  obtain ⟨i, hi'⟩ := List.getElem?_of_mem hfn
  obtain ⟨fdat, k⟩ := c.def_ i (d := dI) hi'
  rw [hat] at k
  have vV : PySem.W.findCls K (.type "ValueError") (.type "type") "__init__" = some (.val (.builtin "ValueError.__init__")) := by
    split at k5
    · rename_i nn hq
      rw [hq, of_decide_eq_true k5]
    · cases k5
  refine ⟨oexB_ok k1, iniA K bn, fdat, ["self"], of_decide_eq_true k2, k3, ini_ok hi k (PySem.W.mg_none_of X G (of_decide_eq_true k4)) vV, ?_⟩
  have hi2 := hi
  unfold iniB at hi2
  simp only [Bool.and_eq_true] at hi2
  obtain ⟨⟨⟨⟨h1, h2⟩, h3⟩, h4⟩, h5⟩ := hi2
  have e2 : dI.dfl = [] := List.isEmpty_iff.mp h4
  unfold He.DefD.dvs He.DefD.kws at k
  rw [e2] at k
  exact k.bindsN fun kV doc pm an cdv ct us hl => hbI kV doc pm an cdv ct us hl

/-! ### the law -/
/-- the law's promise, no exception let out -/
def spL (Γ : Gam) (K : PySem.W.Frag) (m : List T → M R) : Sp := fun vs H Q _ => spF Γ K m vs H Q (fun _ _ _ => False)
theorem law_nox {k : Nat} {f : Addr} {fd : FuncData} {ps : List Str} {m : List T → M R} (F : FnOk P w K mg base (L2.CX P w) k f fd ps (spF Γ K m)) : FnOk P w K mg base CX0 k f fd ps (spL Γ K m) := by
  refine ⟨fun vs H Q E h => F.len vs H Q _ h, fun A outer s H args us vs Q E hr he hb hv hs => codeAny_mono (F.run A outer s H args us vs Q _ hr he hb hv hs) fun r s' hq => ?_⟩
  cases r with
  | error e =>
    have hq : L2.CX P w outer H s (fun _ _ _ => False) e s' := hq
    obtain ⟨_, _, _, _, _, _, _, _, _, _, _, _, z⟩ := hq
    exact z.elim
  | ok fl => cases fl <;> exact hq
theorem law_sp {n f : Nat} {H : Hp} {a : Addr} {ns : List Int} {st : Store} (hO : Only H) (hS : SqL K H a (ns.map V.int)) (hl : callF Γ n f [.scr ns] [] = .ok (.bl true, .va) st) : spL Γ K (callF Γ n f) [.ref a] H (fun v _ => v = .bl true) (fun _ _ _ => False) := by
  refine ⟨⟨fun _ => False, []⟩, [], [.scr ns], ⟨fun _ h => h.elim, List.nodup_nil, rfl, fun k c a h => by simp at h⟩, .cons (.scr ?_) .nil, ?_⟩
  · rcases hS with (h | ⟨o, h⟩) | h
    · rcases hO a with z | ⟨o, xs, z⟩
      · rw [h] at z; cases z
      · rw [h] at z; cases z
    · exact .inl ⟨o, h⟩
    · exact .inr h
  · rw [hl]
    intro g' H' b s w r
    have r : RelT K g' H' (.bl true) b := r
    cases r
    rfl
end
end G

set_option Elab.async false
set_option linter.all false
set_option maxRecDepth 100000
set_option maxHeartbeats 4000000
/-! The head, the end. -/
namespace G
open PySem PySem.Spec PyProof.Rows L2

def obG (n : Nat) (fn : List He.DefD) (ex : PySem.W.Frag → Bool) (g : Addr → Option Obj) : He.AlD × Bool := (fun K => (He.obsD [] fn K, ex K)) (He.frG g (He.asD g n))
def hookG (n : Nat) (fn : List He.DefD) (ex : PySem.W.Frag → Bool) : PySem.W.Hook where
  α := He.AlD × Bool
  obs := fun s => obG n fn ex s.heap.get?
  val := fun _ => (He.valD fn, true)
  says := fun _ h => ∃ K : PySem.W.Frag, K.In h ∧ He.SaysD [] fn K ∧ ex K = true
  of := fun _ _ e => ⟨_, He.frG_in, congrArg (fun z : He.AlD × Bool => z.1) e, congrArg (fun z : He.AlD × Bool => z.2) e⟩
  keeps := fun _ _ _ ⟨K, hK, c⟩ k => ⟨K, PySem.W.Frag.In.keeps hK k, c⟩
theorem obG_eq {n : Nat} {fn : List He.DefD} {ex : PySem.W.Frag → Bool} {g : Addr → Option Obj} {s : Shared} (h : ∀ a, g a = s.heap.get? a) : obG n fn ex g = (hookG n fn ex).obs s := by
  have e : g = s.heap.get? := funext h
  rw [e]
  rfl
/-- what a law hands in -/
structure LawD (Γ : Gam) (bn : Str) (ds : List He.DefD) (dI : He.DefD) (f : Nat) : Prop where
  num : numB Γ = true
  defs : defsB Γ Γ.fds ds = true
  bind : BindAll Γ.fds ds
  ini : iniB dI = true
  at_ : dI.at_ = (bn, some ("__init__" : Str))
  bindI : BindOk dI ["self"]
  law : ∃ fd, Γ.fds[f]? = some fd ∧ fd.owner = none ∧ fd.nm = ("law" : Str) ∧ fd.ps = [("script" : Str)]
theorem law_of {P : Program} {w : World} {Γ : Gam} {bn : Str} {ds : List He.DefD} {dI : He.DefD} {f N most : Nat} (L : LawD Γ bn ds dI f) (plain : ∀ ns : List Int, ns.length ≤ most → ∃ st, callF Γ (N + 1) f [.scr ns] [] = .ok (.bl true, .va) st)
    {mg : Str → Option Value} {fa : Addr} {h : Heap} (Y : ∃ K : PySem.W.Frag, K.In h ∧ He.SaysD [] (dI :: ds) K ∧ exB Γ bn K = true) (G : h.Ns mainGlobals mg) (hmg : mg ("law" : Str) = some (.ref fa)) :
    ∃ (K : PySem.W.Frag) (fd : FuncData) (sp : Sp), K.In h ∧ (∀ (s : Shared) (u : Value), BindsTo s fd ⟨[u], []⟩ [(("script" : Str), u)]) ∧
        (∀ (H : Hp) (a : Addr) (ns : List Int), ns.length ≤ most → Only H → SqL K H a (ns.map V.int) → sp [.ref a] H (fun v _ => v = .bl true) fun _ _ _ => False) ∧
        ∀ base : Heap, K.In base → base.Ns mainGlobals mg → FnOk P w K mg base CX0 (N + 1 + 2) fa fd [("script" : Str)] sp := by
  obtain ⟨K, KX, c, ex⟩ := Y
  have hkp : ∀ (f : Nat) fd, Γ.fds[f]? = some fd → PySem.W.keepIn K (.ref (adrF Γ K f)) = true := fun f fd hf => by
    obtain ⟨d, h1, h2⟩ := defsB_at L.defs hf
    obtain ⟨i, hi⟩ := List.getElem?_of_mem (List.mem_cons_of_mem dI (List.mem_of_getElem? h1))
    obtain ⟨fdat, k1⟩ := c.def_ i (d := d) hi
    unfold defB at h2
    simp only [Bool.and_eq_true, decide_eq_true_eq] at h2
    have ea : He.fAd K d.at_ = adrF Γ K f := by
      unfold adrF
      rw [hf, h2.1.1.1.1]
    rw [← ea]
    exact k1.kp
  have F := facts_ok (mg := mg) L.num KX G hkp ex
  obtain ⟨fd, hf, ho, hn, hps⟩ := L.law
  obtain ⟨h1, h2⟩ := F.fn f fd hf ho
  rw [hn] at h1
  have e := hmg.symm.trans h1
  cases e
  obtain ⟨d, k1, k2⟩ := defsB_at L.defs hf
  obtain ⟨i, hi⟩ := List.getElem?_of_mem (List.mem_cons_of_mem dI (List.mem_of_getElem? k1))
  obtain ⟨fdat, k3⟩ := c.def_ i (d := d) hi
  unfold defB at k2
  simp only [Bool.and_eq_true, decide_eq_true_eq] at k2
  obtain ⟨⟨⟨⟨e1, e2⟩, e3⟩, e4⟩, e5⟩ := k2
  have e2 : d.dfl = [] := List.isEmpty_iff.mp e2
  have ea : He.fAd K d.at_ = adrF Γ K f := by
    unfold adrF
    rw [hf, e1]
  have hB : BindOk d ["script"] := by
    have := L.bind.at hf k1
    rw [hps] at this
    exact this
  unfold He.DefD.dvs at k3
  rw [e2, ea] at k3
  unfold He.DefD.kws at k3
  have e3 : d.kwd = [] := List.isEmpty_iff.mp e3
  rw [e3] at k3
  refine ⟨K, fdat, spL Γ K (callF Γ (N + 1) f), KX, fun s u => k3.bindsA (ps := [("script" : Str)]) (fun kV doc pm an cdv ct us hl => hB kV doc pm an cdv ct us hl) s [u] rfl, fun H a ns hl hO hS => ?_, fun base _ _ => ?_⟩
  · obtain ⟨st, hst⟩ := plain ns hl
    exact law_sp hO hS hst
  · have E : ExOk P w K mg base Γ := exok L.ini L.at_ L.bindI List.mem_cons_self c KX G ex
    have C := calls_ok (P := P) (w := w) (base := base) L.defs L.bind (fun d hd => List.mem_cons_of_mem dI hd) c F E
    have := one_ok F E (C N) (C (N - 1)) hf (by unfold defB; simp only [Bool.and_eq_true, decide_eq_true_eq]; exact ⟨⟨⟨⟨e1, List.isEmpty_iff.mpr e2⟩, List.isEmpty_iff.mpr e3⟩, e4⟩, e5⟩) k3
    rw [hps] at this
    exact law_nox this
end G

set_option Elab.async false
set_option linter.all false
set_option maxRecDepth 100000
set_option maxHeartbeats 40000
/-! The evaluator, step by step, all arguments given. -/
namespace G
section
variable {α β : Type}
def rb : Res α → (α → Store → Res β) → Res β
  | .ok a st, k => k a st
  | .exn x fs st, _ => .exn x fs st
  | .fail, _ => .fail
theorem rb_ok (a : α) (st : Store) (k : α → Store → Res β) : rb (.ok a st) k = k a st := rfl
theorem rb_exn (x : Nat) (fs : List (Nat × T)) (st : Store) (k : α → Store → Res β) : rb (.exn x fs st) k = .exn x fs st := rfl
def rt : Res α → Ro → (α → Store → RS) → RS
  | .ok a st, _, k => k a st
  | .exn x fs st, ρ, _ => .exn x fs ρ st
  | .fail, _, _ => .fail
theorem rt_ok (a : α) (st : Store) (ρ : Ro) (k : α → Store → RS) : rt (.ok a st) ρ k = k a st := rfl
theorem rt_exn (x : Nat) (fs : List (Nat × T)) (st : Store) (ρ : Ro) (k : α → Store → RS) : rt (.exn x fs st) ρ k = .exn x fs ρ st := rfl
def rq : RS → (Ro → Store → RS) → RS
  | .ok .nx ρ st, k => k ρ st
  | r, _ => r
theorem rq_nx (ρ : Ro) (st : Store) (k : Ro → Store → RS) : rq (.ok .nx ρ st) k = k ρ st := rfl
theorem rq_rt (r : R) (ρ : Ro) (st : Store) (k : Ro → Store → RS) : rq (.ok (.rt r) ρ st) k = .ok (.rt r) ρ st := rfl
theorem rq_bk (ρ : Ro) (st : Store) (k : Ro → Store → RS) : rq (.ok .bk ρ st) k = .ok .bk ρ st := rfl
theorem rq_ct (ρ : Ro) (st : Store) (k : Ro → Store → RS) : rq (.ok .ct ρ st) k = .ok .ct ρ st := rfl
theorem rq_exn (x : Nat) (fs : List (Nat × T)) (ρ : Ro) (st : Store) (k : Ro → Store → RS) : rq (.exn x fs ρ st) k = .exn x fs ρ st := rfl
theorem m_bind (m : M α) (k : α → M β) (st : Store) : M.bind m k st = rb (m st) k := by unfold M.bind rb; cases m st <;> rfl
theorem m_then (m : M α) (ρ : Ro) (k : α → MS) (st : Store) : M.then m ρ k st = rt (m st) ρ k := by unfold M.then rt; cases m st <;> rfl
theorem m_ok (a : α) (st : Store) : M.ok a st = .ok a st := rfl
theorem m_fail (st : Store) : (M.fail : M α) st = .fail := rfl
theorem okv_s (t : T) (st : Store) : okv t st = .ok (t, .va) st := rfl
theorem of_s (a : α) (st : Store) : M.of (some a) st = .ok a st := rfl
theorem ite_s (c : Prop) [Decidable c] (m m' : M α) (st : Store) : (if c then m else m') st = if c then m st else m' st := by split <;> rfl
theorem ite_r (c : Prop) [Decidable c] (m m' : MS) (st : Store) : (if c then m else m') st = if c then m st else m' st := by split <;> rfl
theorem nxt_s (ρ : Ro) (st : Store) : nxt ρ st = .ok .nx ρ st := rfl
theorem keep_va (t : T) (st : Store) : keepR (t, .va) st = .ok t st := rfl
theorem keep_fr (t : T) (st : Store) : keepR (t, .fr) st = .ok t st := rfl
def slR : Option Sl → Store → Res R
  | some (.va t), st => .ok (t, .va) st
  | some (.ow ts), st => .ok (.lst ts, .bo) st
  | _, _ => .fail
theorem sl_va (t : T) (st : Store) : slR (some (.va t)) st = .ok (t, .va) st := rfl
theorem sl_ow (t : List T) (st : Store) : slR (some (.ow t)) st = .ok (.lst t, .bo) st := rfl
end
section
variable (Γ : Gam) (O : Or) (ρ : Ro) (st : Store)
def blR : T → (Bool → Store → Res R) → Store → Res R
  | .bl b, k, st => k b st
  | _, _, _ => .fail
theorem bl_r (b : Bool) (k : Bool → Store → Res R) : blR (.bl b) k st = k b st := rfl
def inR {α : Type} : T → (Int → Store → Res α) → Store → Res α
  | .int b, k, st => k b st
  | _, _, _ => .fail
theorem in_r {α : Type} (b : Int) (k : Int → Store → Res α) : inR (.int b) k st = k b st := rfl
theorem ev_v (i : Nat) : ev Γ O (.v i) ρ st = slR ρ[i]? st := by
  rw [ev]
  cases ρ[i]? with
  | none => rfl
  | some s => cases s <;> rfl
theorem ev_c (t : T) : ev Γ O (.c t) ρ st = .ok (t, .va) st := rfl
theorem ev_g (k : Nat) : ev Γ O (.g k) ρ st = rb (M.of Γ.gls[k]? st) fun p st => .ok (p.2, .va) st := m_bind _ _ _
theorem ev_bin (op : BOp) (a b : E) : ev Γ O (.bin op a b) ρ st = rb (ev Γ O a ρ st) fun x st => rb (ev Γ O b ρ st) fun y st => evBin op x.1 y.1 st := by
  rw [ev, m_bind]; congr; funext x st; rw [m_bind]
theorem ev_neg (a : E) : ev Γ O (.neg a) ρ st = rb (ev Γ O a ρ st) fun x st => inR x.1 (fun i st => .ok (.int (-i), .va) st) st := by
  rw [ev, m_bind]; congr; funext x st; cases x.1 <;> rfl
theorem ev_cmp (op : COp) (a b : E) : ev Γ O (.cmp op a b) ρ st = rb (ev Γ O a ρ st) fun x st => rb (ev Γ O b ρ st) fun y st => evCmp op x.1 y.1 st := by
  rw [ev, m_bind]; congr; funext x st; rw [m_bind]
theorem ev_ch2 (op op' : COp) (a b c : E) : ev Γ O (.ch2 op op' a b c) ρ st = rb (ev Γ O a ρ st) fun x st => rb (ev Γ O b ρ st) fun y st => rb (evCmp op x.1 y.1 st) fun z st => blR z.1 (fun k st => if k = true then rb (ev Γ O c ρ st) fun u st => evCmp op' y.1 u.1 st else .ok (.bl false, .va) st) st := by
  rw [ev, m_bind]; congr; funext x st; rw [m_bind]; congr; funext y st; rw [m_bind]; congr; funext z st
  cases z.1 with
  | bl k => cases k with
    | true => show M.bind _ _ _ = _; rw [m_bind]; rfl
    | false => rfl
  | _ => rfl
theorem ev_isn_non (y : Bool) (a : E) (st' : Store) (fl : Fl) (h : ev Γ O a ρ st = .ok (.non, fl) st') : ev Γ O (.isn y a) ρ st = .ok (.bl y, .va) st' := by
  rw [ev, m_bind, h]; rfl
def nonB : T → Bool
  | .non => true
  | _ => false
theorem ev_isn (y : Bool) (a : E) : ev Γ O (.isn y a) ρ st = rb (ev Γ O a ρ st) fun x st => .ok (.bl (if nonB x.1 = true then y else !y), .va) st := by
  rw [ev, m_bind]; congr; funext x st; cases x.1 <;> rfl
theorem ev_isb (y k : Bool) (a : E) : ev Γ O (.isb y k a) ρ st = rb (ev Γ O a ρ st) fun x st => blR x.1 (fun b st => .ok (.bl (if y = true then b == k else !(b == k)), .va) st) st := by
  rw [ev, m_bind]; congr; funext x st; cases x.1 <;> rfl
theorem ev_and (a b : E) : ev Γ O (.and a b) ρ st = rb (ev Γ O a ρ st) fun x st => blR x.1 (fun k st => if k = true then ev Γ O b ρ st else .ok (.bl false, .va) st) st := by
  rw [ev, m_bind]; congr; funext x st
  cases x.1 with
  | bl k => cases k <;> rfl
  | _ => rfl
theorem ev_or (a b : E) : ev Γ O (.or a b) ρ st = rb (ev Γ O a ρ st) fun x st => blR x.1 (fun k st => if k = true then .ok (.bl true, .va) st else ev Γ O b ρ st) st := by
  rw [ev, m_bind]; congr; funext x st
  cases x.1 with
  | bl k => cases k <;> rfl
  | _ => rfl
theorem ev_not (a : E) : ev Γ O (.not a) ρ st = rb (ev Γ O a ρ st) fun x st => blR x.1 (fun k st => .ok (.bl (!k), .va) st) st := by
  rw [ev, m_bind]; congr; funext x st
  cases x.1 <;> rfl
theorem ev_ife (c : B) (a b : E) : ev Γ O (.ife c a b) ρ st = rb (tst Γ O c ρ st) fun k st => if k = true then ev Γ O a ρ st else ev Γ O b ρ st := by
  rw [ev, m_bind]; congr; funext x st; cases x <;> rfl
theorem ev_tup (es : EL) : ev Γ O (.tup es) ρ st = rb (evA Γ O es ρ st) fun ts st => if ts.length ≤ big then .ok (.tup ts, .va) st else .fail := by
  rw [ev, m_bind]; congr; funext x st; rw [ite_s]; rfl
theorem ev_lst (es : EL) : ev Γ O (.lst es) ρ st = rb (evA Γ O es ρ st) fun ts st => if ts.length ≤ big then .ok (.lst ts, .fr) st else .fail := by
  rw [ev, m_bind]; congr; funext x st; rw [ite_s]; rfl
theorem ev_new (es : EL) : ev Γ O (.new es) ρ st = rb (evA Γ O es ρ st) fun ts st => if ts.length ≤ big then .ok (.loc st.length, .va) (st ++ [.lst ts]) else .fail := by
  rw [ev, m_bind]
theorem ev_ix (a i : E) : ev Γ O (.ix a i) ρ st = rb (ev Γ O a ρ st) fun x st => rb (ev Γ O i ρ st) fun y st => evIx x.1 y.1 st := by
  rw [ev, m_bind]; congr; funext x st; rw [m_bind]
theorem ev_sl (a : E) (lo hi : EO) : ev Γ O (.sl a lo hi) ρ st = rb (ev Γ O a ρ st) fun x st => rb (evO Γ O lo ρ st) fun l st => rb (evO Γ O hi ρ st) fun h st => evSl x.1 l h st := by
  rw [ev, m_bind]; congr; funext x st; rw [m_bind]; congr; funext y st; rw [m_bind]
theorem ev_call (f : Nat) (es : EL) : ev Γ O (.call f es) ρ st = rb (evA Γ O es ρ st) fun ts st => O.c1 f ts st := by
  rw [ev, m_bind]
theorem ev_bi (b : Bi) (es : EL) : ev Γ O (.bi b es) ρ st = rb (evRs Γ O es ρ st) fun ts st => evBi b ts st := by
  rw [ev, m_bind]
theorem ev_isi (a : E) (t : Ty) : ev Γ O (.isi a t) ρ st = rb (ev Γ O a ρ st) fun x st => rb (M.of (isTy x.1 t) st) fun b st => .ok (.bl b, .va) st := by
  rw [ev, m_bind]; congr; funext x st; rw [m_bind]; rfl
theorem ev_mt (m : Mt) (o : E) (es : EL) : ev Γ O (.mt m o es) ρ st = rb (ev Γ O o ρ st) fun x st => if mtOk m x.1 = true then rb (evRs Γ O es ρ st) fun ts st => evMt m x.1 ts st else .fail := by
  rw [ev, m_bind]; congr; funext x st; rw [ite_s]; split
  · rw [m_bind]
  · rfl
def loR {α : Type} : T → (Nat → Store → Res α) → Store → Res α
  | .loc b, k, st => k b st
  | _, _, _ => .fail
theorem lo_r {α : Type} (b : Nat) (k : Nat → Store → Res α) : loR (.loc b) k st = k b st := rfl
def ceR {α : Type} : Option Cell → (Nat → List (Nat × T) → Store → Res α) → Store → Res α
  | some (.ins c fs), k, st => k c fs st
  | _, _, _ => .fail
theorem ce_r {α : Type} (c : Nat) (fs : List (Nat × T)) (k : Nat → List (Nat × T) → Store → Res α) : ceR (some (.ins c fs)) k st = k c fs st := rfl
theorem ev_meth (m : Nat) (o : E) (es : EL) : ev Γ O (.meth m o es) ρ st = rb (ev Γ O o ρ st) fun x st => loR x.1 (fun n st => ceR st[n]? (fun c fs st => rb (M.of ((Γ.cls[c]?).bind fun C => C.meths.lookup m) st) fun f st => rb (evA Γ O es ρ st) fun ts st => O.c1 f (.loc n :: ts) st) st) st := by
  rw [ev, m_bind]; congr; funext x st
  cases x.1 with
  | loc n =>
    show (match st[n]? with | some (.ins c fs) => _ | _ => Res.fail) = ceR st[n]? _ st
    cases st[n]? with
    | none => rfl
    | some c =>
      cases c with
      | lst _ => rfl
      | ins c fs => show M.bind _ _ _ = _; rw [m_bind]; congr; funext f st; rw [m_bind]
  | _ => rfl
theorem ev_fld (o : E) (f : Nat) : ev Γ O (.fld o f) ρ st = rb (ev Γ O o ρ st) fun x st => loR x.1 (fun n st => ceR st[n]? (fun c fs st => rb (M.of (fs.lookup f) st) fun t st => .ok (t, .va) st) st) st := by
  rw [ev, m_bind]; congr; funext x st
  cases x.1 with
  | loc n =>
    show (match st[n]? with | some (.ins c fs) => _ | _ => Res.fail) = ceR st[n]? _ st
    cases st[n]? with
    | none => rfl
    | some c =>
      cases c with
      | lst _ => rfl
      | ins c fs => show M.bind _ _ _ = _; rw [m_bind]; rfl
  | _ => rfl
theorem ev_mk (c : Nat) (es : EL) : ev Γ O (.mk c es) ρ st = rb (M.of (Γ.cls[c]?) st) fun C st => rb (evA Γ O es ρ st) fun ts st => rb (O.c2 C.init (.loc st.length :: ts) (st ++ [.ins c []])) fun r st' => if nonB r.1 = true then .ok (.loc st.length, .va) st' else .fail := by
  rw [ev, m_bind]; congr; funext C st; rw [m_bind]; congr; funext ts st; rw [m_bind]; congr; funext r st'
  cases r.1 <;> rfl
/-- a comprehension's turns -/
def lcE (e : E) (tg : Tg) (cs : B) (ρ : Ro) (acc xs : List T) (st : Store) : Res (List T) := lcGo (fun x => (M.of (bindTg tg x ρ)).bind fun ρ1 => (tst Γ O cs ρ1).bind fun k => if k then ((ev Γ O e ρ1).bind keepR).bind fun t => .ok (some t) else .ok none) acc xs st
def nxR : Res (List T) → Res R
  | .ok ys st => .ok (.lst ys, .fr) st
  | _ => .fail
theorem nx_ok (ys : List T) (st : Store) : nxR (.ok ys st) = .ok (.lst ys, .fr) st := rfl
theorem ev_lc (e : E) (tg : Tg) (ik : IK) (it : EL) (cs : B) (own : List Nat) : ev Γ O (.lc e tg ik it cs own) ρ st = rb (evRs Γ O it ρ st) fun ts st => rb (items ik ts st) fun xs st => nxR (lcE Γ O e tg cs (wipeR ρ own) [] xs st) := by
  rw [ev, m_bind]; congr; funext ts st; rw [m_bind]; congr; funext xs st
  show M.nox (M.bind (lcGo _ _ _) _) st = _
  unfold M.nox
  rw [m_bind]
  show _ = nxR (lcGo _ [] xs st)
  cases lcGo (fun x => (M.of (bindTg tg x (wipeR ρ own))).bind fun ρ1 => (tst Γ O cs ρ1).bind fun k => if k = true then ((ev Γ O e ρ1).bind keepR).bind fun t => .ok (some t) else .ok none) [] xs st <;> rfl
theorem lc_nil (e : E) (tg : Tg) (cs : B) (acc : List T) : lcE Γ O e tg cs ρ acc [] st = .ok acc st := rfl
def lcK (k : List T → Store → Res (List T)) (acc : List T) : Option T → Store → Res (List T)
  | some y, st => if acc.length < big then k (acc ++ [y]) st else .fail
  | none, st => k acc st
theorem lc_cons (e : E) (tg : Tg) (cs : B) (acc : List T) (x : T) (xs : List T) : lcE Γ O e tg cs ρ acc (x :: xs) st = rb (M.of (bindTg tg x ρ) st) fun ρ1 st => rb (tst Γ O cs ρ1 st) fun k st => if k = true then rb (ev Γ O e ρ1 st) fun r st => rb (keepR r st) fun y st => if acc.length < big then lcE Γ O e tg cs ρ (acc ++ [y]) xs st else .fail else lcE Γ O e tg cs ρ acc xs st := by
  unfold lcE
  show M.bind _ _ st = _
  rw [m_bind]
  show rb (M.bind (M.of (bindTg tg x ρ)) _ st) _ = _
  rw [m_bind]
  cases h : M.of (bindTg tg x ρ) st with
  | fail => rfl
  | exn _ _ _ => rfl
  | ok ρ1 st1 =>
    rw [rb_ok, rb_ok, m_bind]
    cases h2 : tst Γ O cs ρ1 st1 with
    | fail => rfl
    | exn _ _ _ => rfl
    | ok k st2 =>
      rw [rb_ok, rb_ok]
      cases k with
      | false => rfl
      | true =>
        show rb (M.bind _ _ st2) _ = rb _ _
        rw [m_bind, m_bind]
        cases ev Γ O e ρ1 st2 with
        | fail => rfl
        | exn _ _ _ => rfl
        | ok r st3 =>
          rw [rb_ok, rb_ok]
          cases keepR r st3 with
          | fail => rfl
          | exn _ _ _ => rfl
          | ok y st4 =>
            rw [rb_ok, rb_ok]
            show rb (Res.ok (some y) st4) _ = _
            rw [rb_ok]
            show (if acc.length < big then _ else M.fail) st4 = _
            rw [ite_s]
            rfl
theorem evO_none : evO Γ O .none ρ st = .ok none st := rfl
theorem evO_some (e : E) : evO Γ O (.some e) ρ st = rb (ev Γ O e ρ st) fun x st => inR x.1 (fun i st => .ok (some i) st) st := by
  rw [evO, m_bind]; congr; funext x st; cases x.1 <;> rfl
theorem evA_nil : evA Γ O .nil ρ st = .ok [] st := rfl
theorem evA_cons (e : E) (r : EL) : evA Γ O (.cons e r) ρ st = rb (ev Γ O e ρ st) fun x st => rb (keepR x st) fun t st => rb (evA Γ O r ρ st) fun ts st => .ok (t :: ts) st := by
  rw [evA, m_bind, m_bind]
  cases ev Γ O e ρ st with
  | fail => rfl
  | exn _ _ _ => rfl
  | ok x st1 =>
    rw [rb_ok, rb_ok]
    cases keepR x st1 with
    | fail => rfl
    | exn _ _ _ => rfl
    | ok t st2 => rw [rb_ok, rb_ok, m_bind]; rfl
theorem evRs_nil : evRs Γ O .nil ρ st = .ok [] st := rfl
theorem evRs_cons (e : E) (r : EL) : evRs Γ O (.cons e r) ρ st = rb (ev Γ O e ρ st) fun x st => rb (evRs Γ O r ρ st) fun ts st => .ok (x.1 :: ts) st := by
  rw [evRs, m_bind]; congr; funext x st; rw [m_bind]; rfl
theorem tst_yes : tst Γ O .yes ρ st = .ok true st := rfl
theorem ptst_of (e : E) : tst Γ O (.of e) ρ st = rb (ev Γ O e ρ st) fun x st => truth x.1 st := by
  rw [tst, m_bind]
theorem ptst_and (a b : B) : tst Γ O (.and a b) ρ st = rb (tst Γ O a ρ st) fun k st => if k = true then tst Γ O b ρ st else .ok false st := by
  rw [tst, m_bind]; congr; funext k st; cases k <;> rfl
theorem ptst_or (a b : B) : tst Γ O (.or a b) ρ st = rb (tst Γ O a ρ st) fun k st => if k = true then .ok true st else tst Γ O b ρ st := by
  rw [tst, m_bind]; congr; funext k st; cases k <;> rfl
theorem ptst_not (a : B) : tst Γ O (.not a) ρ st = rb (tst Γ O a ρ st) fun k st => .ok (!k) st := by
  rw [tst, m_bind]; rfl
theorem truth_bl (b : Bool) : truth (.bl b) st = .ok b st := rfl
theorem truth_int (b : Int) : truth (.int b) st = .ok (b != 0) st := rfl
theorem truth_lst (b : List T) : truth (.lst b) st = .ok (!b.isEmpty) st := rfl
theorem truth_non : truth .non st = .ok false st := rfl
/-! ### statements -/
def opR {α : Type} : Option α → (α → Store → RS) → Store → RS
  | some a, k, st => k a st
  | none, _, _ => .fail
theorem op_r {α : Type} (a : α) (k : α → Store → RS) : opR (some a) k st = k a st := rfl
theorem evS_pass : evS Γ O .pass ρ st = .ok .nx ρ st := rfl
theorem evS_seq (a b : S) : evS Γ O (.seq a b) ρ st = rq (evS Γ O a ρ st) fun ρ st => evS Γ O b ρ st := by
  show MS.seq _ _ _ = _
  unfold MS.seq rq
  cases evS Γ O a ρ st with
  | ok f ρ st => cases f <;> rfl
  | _ => rfl
theorem evS_asg (fz : List Nat) (tg : Tg) (e : E) : evS Γ O (.asg fz tg e) ρ st = rt (ev Γ O e (frz ρ fz) st) (frz ρ fz) fun r st => opR (setTg tg r (frz ρ fz)) (fun ρ1 st => .ok .nx ρ1 st) st := by
  rw [evS, m_then]; congr; funext r st; cases setTg tg r (frz ρ fz) <;> rfl
theorem evS_par (fz is : List Nat) (es : EL) : evS Γ O (.par fz is es) ρ st = rt (evF Γ O es (frz ρ fz) st) (frz ρ fz) fun r st => opR (setRow is r (frz ρ fz)) (fun ρ1 st => .ok .nx ρ1 st) st := by
  rw [evS, m_then]; congr; funext r st; cases setRow is r (frz ρ fz) <;> rfl
theorem evF_nil : evF Γ O .nil ρ st = .ok [] st := rfl
theorem evF_cons (e : E) (r : EL) : evF Γ O (.cons e r) ρ st = rb (ev Γ O e ρ st) fun x st => if x.2 = .bo then .fail else rb (evF Γ O r ρ st) fun ts st => .ok (x :: ts) st := by
  rw [evF, m_bind]; congr; funext x st; rw [ite_s]; split
  · rfl
  · rw [m_bind]; rfl
def slS : Option Sl → (T → Store → RS) → (List T → Store → RS) → Store → RS
  | some (.va t), k, _, st => k t st
  | some (.ow t), _, k, st => k t st
  | _, _, _, _ => .fail
theorem sls_va (t : T) (k : T → Store → RS) (k' : List T → Store → RS) : slS (some (.va t)) k k' st = k t st := rfl
theorem sls_ow (t : List T) (k : T → Store → RS) (k' : List T → Store → RS) : slS (some (.ow t)) k k' st = k' t st := rfl
theorem evS_aug (i : Nat) (op : BOp) (e : E) : evS Γ O (.aug i op e) ρ st = slS ρ[i]? (fun t st => rt (ev Γ O e ρ st) ρ fun y st => opR (evAug op t y.1) (fun z st => .ok .nx (ρ.set i (.va z)) st) st) (fun _ _ => .fail) st := by
  rw [evS]
  cases ρ[i]? with
  | none => rfl
  | some s =>
    cases s with
    | va t =>
      show M.then _ _ _ _ = _
      rw [m_then]
      show _ = rt _ _ _
      congr; funext y st; cases evAug op t y.1 <;> rfl
    | _ => rfl
theorem evS_app (fz : List Nat) (i : Nat) (e : E) : evS Γ O (.app fz i e) ρ st = slS (frz ρ fz)[i]? (fun _ _ => .fail) (fun ts st => rt (ev Γ O e (frz ρ fz) st) (frz ρ fz) fun r st => rt (keepR r st) (frz ρ fz) fun t st => if ts.length < big then .ok .nx ((frz ρ fz).set i (.ow (ts ++ [t]))) st else .fail) st := by
  rw [evS]
  cases (frz ρ fz)[i]? with
  | none => rfl
  | some s =>
    cases s with
    | ow ts =>
      show M.then _ _ _ _ = rt _ _ _
      rw [m_then, m_bind]
      cases ev Γ O e (frz ρ fz) st with
      | fail => rfl
      | exn _ _ _ => rfl
      | ok r st1 =>
        rw [rb_ok, rt_ok]
        congr; funext t st; rw [ite_r]; rfl
    | _ => rfl
def lsS : T → (List T → Store → RS) → Store → RS
  | .lst t, k, st => k t st
  | _, _, _ => .fail
theorem ls_s (t : List T) (k : List T → Store → RS) : lsS (.lst t) k st = k t st := rfl
theorem evS_ext (fz : List Nat) (i : Nat) (e : E) : evS Γ O (.ext fz i e) ρ st = slS (frz ρ fz)[i]? (fun _ _ => .fail) (fun ts st => rt (ev Γ O e (frz ρ fz) st) (frz ρ fz) fun r st => lsS r.1 (fun us st => if ts.length + us.length ≤ big then .ok .nx ((frz ρ fz).set i (.ow (ts ++ us))) st else .fail) st) st := by
  rw [evS]
  cases (frz ρ fz)[i]? with
  | none => rfl
  | some s =>
    cases s with
    | ow ts =>
      show M.then _ _ _ _ = rt _ _ _
      rw [m_then]
      congr; funext t st
      cases t.1 with
      | lst us => show (if _ then _ else MS.fail) st = _; rw [ite_r]; rfl
      | _ => rfl
    | _ => rfl
theorem evS_pop (tg : Tg) (i : Nat) : evS Γ O (.pop tg i) ρ st = slS ρ[i]? (fun _ _ => .fail) (fun ts st => opR ts.getLast? (fun t st => opR (setTg tg (t, .va) (ρ.set i (.ow ts.dropLast))) (fun ρ1 st => .ok .nx ρ1 st) st) st) st := by
  rw [evS]
  cases ρ[i]? with
  | none => rfl
  | some s =>
    cases s with
    | ow ts =>
      show (match ts.getLast? with | some t => _ | none => MS.fail) st = opR _ _ _
      cases ts.getLast? with
      | none => rfl
      | some t =>
        show (match setTg tg (t, .va) (ρ.set i (.ow ts.dropLast)) with | some ρ1 => _ | none => MS.fail) st = opR (setTg tg (t, .va) (ρ.set i (.ow ts.dropLast))) _ st
        cases setTg tg (t, .va) (ρ.set i (.ow ts.dropLast)) <;> rfl
    | _ => rfl
theorem evS_ex (fz : List Nat) (e : E) : evS Γ O (.ex fz e) ρ st = rt (ev Γ O e (frz ρ fz) st) (frz ρ fz) fun _ st => .ok .nx (frz ρ fz) st := by
  rw [evS, m_then]; rfl
def reS (ρ : Ro) : R → Store → RS
  | (_, .bo), _ => .fail
  | r, st => .ok (.rt r) ρ st
theorem re_va (t : T) : reS ρ (t, .va) st = .ok (.rt (t, .va)) ρ st := rfl
theorem re_fr (t : T) : reS ρ (t, .fr) st = .ok (.rt (t, .fr)) ρ st := rfl
theorem evS_ret (fz : List Nat) (e : E) : evS Γ O (.ret fz e) ρ st = rt (ev Γ O e (frz ρ fz) st) (frz ρ fz) fun r st => reS (frz ρ fz) r st := by
  rw [evS, m_then]; congr; funext r st; obtain ⟨t, fl⟩ := r; cases fl <;> rfl
theorem evS_retv (i : Nat) : evS Γ O (.retv i) ρ st = slS ρ[i]? (fun t st => .ok (.rt (t, .va)) ρ st) (fun ts st => .ok (.rt (.lst ts, .fr)) ρ st) st := by
  rw [evS]
  cases ρ[i]? with
  | none => rfl
  | some s => cases s <;> rfl
theorem evS_retn : evS Γ O .retn ρ st = .ok (.rt (.non, .va)) ρ st := rfl
theorem evS_ite (fz : List Nat) (c : B) (a b : S) : evS Γ O (.ite fz c a b) ρ st = rt (tst Γ O c (frz ρ fz) st) (frz ρ fz) fun k st => if k = true then evS Γ O a (frz ρ fz) st else evS Γ O b (frz ρ fz) st := by
  rw [evS, m_then]; congr; funext k st; rw [ite_r]
def whE (c : B) (b : S) (n : Nat) (ρ : Ro) (st : Store) : RS := whileGo (tst Γ O c) (evS Γ O b) n ρ st
theorem evS_while (c : B) (b : S) : evS Γ O (.while c b) ρ st = whE Γ O c b Γ.wf ρ st := rfl
def looS : RS → (Ro → Store → RS) → RS
  | .ok .nx ρ st, k => k ρ st
  | .ok .ct ρ st, k => k ρ st
  | .ok .bk ρ st, _ => .ok .nx ρ st
  | r, _ => r
theorem loo_nx (k : Ro → Store → RS) : looS (.ok .nx ρ st) k = k ρ st := rfl
theorem loo_ct (k : Ro → Store → RS) : looS (.ok .ct ρ st) k = k ρ st := rfl
theorem loo_bk (k : Ro → Store → RS) : looS (.ok .bk ρ st) k = .ok .nx ρ st := rfl
theorem loo_rt (r : R) (k : Ro → Store → RS) : looS (.ok (.rt r) ρ st) k = .ok (.rt r) ρ st := rfl
theorem wh_succ (c : B) (b : S) (n : Nat) : whE Γ O c b (n + 1) ρ st = rt (tst Γ O c ρ st) ρ fun k st => if k = true then looS (evS Γ O b ρ st) (fun ρ st => whE Γ O c b n ρ st) else .ok .nx ρ st := by
  show M.then _ _ _ _ = _
  rw [m_then]; congr; funext k st; rw [ite_r]
  cases k with
  | false => rfl
  | true =>
    rw [if_pos rfl, if_pos rfl]
    show (match evS Γ O b ρ st with | .ok .nx ρ1 st' => _ | .ok .ct ρ1 st' => _ | .ok .bk ρ1 st' => _ | r => r) = _
    cases evS Γ O b ρ st with
    | ok f ρ st => cases f <;> rfl
    | _ => rfl
def foE (tg : Tg) (b : S) (xs : List T) (ρ : Ro) (st : Store) : RS := forGo tg (evS Γ O b) xs ρ st
theorem evS_for (fz : List Nat) (tg : Tg) (ik : IK) (it : EL) (b : S) : evS Γ O (.for fz tg ik it b) ρ st = rt (evA Γ O it (frz ρ fz) st) (frz ρ fz) fun ts st => rt (items ik ts st) (frz ρ fz) fun xs st => foE Γ O tg b xs (frz ρ fz) st := by
  rw [evS, m_then]; congr; funext ts st; rw [m_then]; rfl
theorem fo_nil (tg : Tg) (b : S) : foE Γ O tg b [] ρ st = .ok .nx ρ st := rfl
theorem fo_cons (tg : Tg) (b : S) (x : T) (xs : List T) : foE Γ O tg b (x :: xs) ρ st = opR (bindTg tg x ρ) (fun ρ st => looS (evS Γ O b ρ st) fun ρ st => foE Γ O tg b xs ρ st) st := by
  show (match bindTg tg x ρ with | none => MS.fail | some ρ0 => _) st = _
  cases bindTg tg x ρ with
  | none => rfl
  | some ρ0 =>
    show (match evS Γ O b ρ0 st with | .ok .nx ρ1 st' => _ | .ok .ct ρ1 st' => _ | .ok .bk ρ1 st' => _ | r => r) = looS _ _
    cases evS Γ O b ρ0 st with
    | ok f ρ st => cases f <;> rfl
    | _ => rfl
theorem evS_brk : evS Γ O .brk ρ st = .ok .bk ρ st := rfl
theorem evS_cont : evS Γ O .cont ρ st = .ok .ct ρ st := rfl
def loS : T → (Nat → Store → RS) → Store → RS
  | .loc t, k, st => k t st
  | _, _, _ => .fail
theorem lo_s (t : Nat) (k : Nat → Store → RS) : loS (.loc t) k st = k t st := rfl
def inS : Option Cell → (Nat → List (Nat × T) → RS) → RS
  | some (.ins c fs), k => k c fs
  | _, _ => .fail
theorem in_s (c : Nat) (fs : List (Nat × T)) (k : Nat → List (Nat × T) → RS) : inS (some (.ins c fs)) k = k c fs := rfl
theorem evS_setfld (fz : List Nat) (o : E) (f : Nat) (e : E) : evS Γ O (.setfld fz o f e) ρ st = rt (ev Γ O e (frz ρ fz) st) (frz ρ fz) fun r st => rt (keepR r st) (frz ρ fz) fun t st => rt (ev Γ O o (frz ρ fz) st) (frz ρ fz) fun x st => loS x.1 (fun n st => inS st[n]? fun c fs => if fs.length < 900 then .ok .nx (frz ρ fz) (st.set n (.ins c (putN f t fs))) else .fail) st := by
  rw [evS, m_then, m_bind]
  cases ev Γ O e (frz ρ fz) st with
  | fail => rfl
  | exn _ _ _ => rfl
  | ok r st1 =>
    rw [rb_ok, rt_ok]
    congr; funext t st; rw [m_then]; congr; funext x st
    cases x.1 with
    | loc n =>
      show (match st[n]? with | some (.ins c fs) => _ | _ => RS.fail) = inS st[n]? _
      cases st[n]? with
      | none => rfl
      | some c => cases c <;> rfl
    | _ => rfl
theorem evS_augfld (o : E) (f : Nat) (op : BOp) (e : E) : evS Γ O (.augfld o f op e) ρ st = rt (ev Γ O o ρ st) ρ fun x st => loS x.1 (fun n st => inS st[n]? fun c0 fs => opR (fs.lookup f) (fun t st => rt (ev Γ O e ρ st) ρ fun y st => opR (evAug op t y.1) (fun z st => inS st[n]? fun c fs' => if c = c0 ∧ fs'.length < 900 then .ok .nx ρ (st.set n (.ins c (putN f z fs'))) else .fail) st) st) st := by
  rw [evS, m_then]; congr; funext x st
  cases x.1 with
  | loc n =>
    show (match st[n]? with | some (.ins c0 fs) => _ | _ => RS.fail) = inS st[n]? _
    cases st[n]? with
    | none => rfl
    | some c =>
      cases c with
      | lst _ => rfl
      | ins c0 fs =>
        show (match fs.lookup f with | some t => _ | none => MS.fail) st = opR (fs.lookup f) _ st
        cases fs.lookup f with
        | none => rfl
        | some t =>
          show M.then _ _ _ _ = rt _ _ _
          rw [m_then]; congr; funext y st
          cases evAug op t y.1 with
          | none => cases st[n]? <;> rfl
          | some z =>
            show _ = inS st[n]? _
            cases st[n]? with
            | none => rfl
            | some c => cases c <;> rfl
  | _ => rfl
def liS : Option Cell → (List T → RS) → RS
  | some (.lst ts), k => k ts
  | _, _ => .fail
theorem li_s (ts : List T) (k : List T → RS) : liS (some (.lst ts)) k = k ts := rfl
def ntS : T → (Int → Store → RS) → Store → RS
  | .int t, k, st => k t st
  | _, _, _ => .fail
theorem nt_s (t : Int) (k : Int → Store → RS) : ntS (.int t) k st = k t st := rfl
theorem evS_setix (fz : List Nat) (o i e : E) : evS Γ O (.setix fz o i e) ρ st = rt (ev Γ O e (frz ρ fz) st) (frz ρ fz) fun r st => rt (keepR r st) (frz ρ fz) fun t st => rt (ev Γ O o (frz ρ fz) st) (frz ρ fz) fun x st => rt (ev Γ O i (frz ρ fz) st) (frz ρ fz) fun y st =>
    loS x.1 (fun n st => ntS y.1 (fun k st => liS st[n]? fun ts => opR (L2.ixN ts.length k) (fun j st => .ok .nx (frz ρ fz) (st.set n (.lst (ts.set j t)))) st) st) st := by
  rw [evS, m_then, m_bind]
  cases ev Γ O e (frz ρ fz) st with
  | fail => rfl
  | exn _ _ _ => rfl
  | ok r st1 =>
    rw [rb_ok, rt_ok]
    congr; funext t st; rw [m_then]; congr; funext x st; rw [m_then]; congr; funext y st
    cases x.1 with
    | loc n =>
      cases y.1 with
      | int k =>
        show (match st[n]? with | some (.lst ts) => _ | _ => RS.fail) = liS st[n]? _
        cases st[n]? with
        | none => rfl
        | some c =>
          cases c with
          | ins _ _ => rfl
          | lst ts =>
            show (match L2.ixN ts.length k with | some j => _ | none => RS.fail) = opR (L2.ixN ts.length k) _ st
            cases L2.ixN ts.length k <;> rfl
      | _ => rfl
    | _ => cases y.1 <;> rfl
def trS (x : Nat) : RS → (Ro → Store → RS) → RS
  | .exn y _ ρ st, k => if y = x then (match k ρ st with
    | .exn _ _ _ _ => .fail
    | r => r) else .fail
  | r, _ => r
theorem evS_try (b : S) (x : Nat) (h : S) : evS Γ O (.try b x h) ρ st = trS x (evS Γ O b ρ st) fun ρ st => evS Γ O h ρ st := by
  rw [evS]
  show (match evS Γ O b ρ st with | .exn y _ ρ1 st1 => if y = x then (match evS Γ O h ρ1 st1 with | .exn _ _ _ _ => RS.fail | r => r) else .fail | r => r) = _
  cases evS Γ O b ρ st <;> rfl
def reR : RS → Res R
  | .ok (.rt r) _ st' => .ok r st'
  | .ok .nx _ st' => .ok (.non, .va) st'
  | .ok _ _ _ => .fail
  | .exn x fs _ st' => .exn x fs st'
  | .fail => .fail
theorem ret_s (m : MS) : retOf m st = reR (m st) := by
  unfold retOf reR
  cases m st with
  | ok f ρ st => cases f <;> rfl
  | _ => rfl
theorem rr_rt (r : R) : reR (.ok (.rt r) ρ st) = .ok r st := rfl
theorem rr_nx : reR (.ok .nx ρ st) = .ok (.non, .va) st := rfl
theorem rr_exn (x : Nat) (fs : List (Nat × T)) : reR (.exn x fs ρ st) = .exn x fs st := rfl
theorem of_none {α : Type} : (M.of (none : Option α)) st = .fail := rfl
/-! ### values -/
theorem ix_lst (ts : List T) (i : Int) : evIx (.lst ts) (.int i) st = rb (M.of (L2.atI ts i) st) fun t st => .ok (t, .va) st := m_bind _ _ _
theorem ix_tup (ts : List T) (i : Int) : evIx (.tup ts) (.int i) st = rb (M.of (L2.atI ts i) st) fun t st => .ok (t, .va) st := m_bind _ _ _
def liR : Option Cell → (List T → Res R) → Res R
  | some (.lst ts), k => k ts
  | _, _ => .fail
theorem li_r (ts : List T) (k : List T → Res R) : liR (some (.lst ts)) k = k ts := rfl
theorem ix_loc (n : Nat) (i : Int) : evIx (.loc n) (.int i) st = liR st[n]? fun ts => rb (M.of (L2.atI ts i) st) fun t st => .ok (t, .va) st := by
  show (match st[n]? with | some (.lst ts) => _ | _ => Res.fail) = _
  cases st[n]? with
  | none => rfl
  | some c =>
    cases c with
    | ins _ _ => rfl
    | lst ts => exact m_bind _ _ _
theorem ix_str (l : List Nat) (i : Int) : evIx (.str l) (.int i) st = if l.length ≤ big then rb (M.of (L2.atI l i) st) fun t st => .ok (.str [t], .va) st else .fail := by
  show (if _ then _ else M.fail) st = _
  rw [ite_s]; split
  · exact m_bind _ _ _
  · rfl
theorem ix_byt (l : List UInt8) (i : Int) : evIx (.byt l) (.int i) st = if l.length ≤ big ∧ 0 ≤ i ∧ i < l.length then .ok (.int ((l.getD i.toNat 0).toNat : Nat), .va) st else .fail := by
  show (if _ then _ else M.fail) st = _
  rw [ite_s]; rfl
theorem atI_0 {α : Type} (a : α) (l : List α) : L2.atI (a :: l) 0 = some a := by
  unfold L2.atI L2.ixN
  simp
end
end G

set_option Elab.async false
set_option linter.all false
set_option maxRecDepth 100000
set_option maxHeartbeats 400000
/-! Comparisons of values. -/
namespace G
open PySem
theorem sh_int (i : Int) : SeqAt.shaped (.int i) = true := rfl
def okS (a : List Nat) : Bool := SeqAt.shaped (.str (toS a))
theorem cmp_eq (a b : T) : evCmp .eq a b = evEq false a b := rfl
theorem cmp_ne (a b : T) : evCmp .ne a b = evEq true a b := rfl
theorem cmp_lt (a b : T) : evCmp .lt a b = evOrd (fun i j => decide (i < j)) (fun x y => decide (x < y)) a b := rfl
theorem cmp_le (a b : T) : evCmp .le a b = evOrd (fun i j => decide (i ≤ j)) (fun x y => !decide (y < x)) a b := rfl
theorem cmp_gt (a b : T) : evCmp .gt a b = evOrd (fun i j => decide (j < i)) (fun x y => decide (y < x)) a b := rfl
theorem cmp_ge (a b : T) : evCmp .ge a b = evOrd (fun i j => decide (j ≤ i)) (fun x y => !decide (x < y)) a b := rfl
theorem cmp_in (a b : T) : evCmp .isin a b = evIn false a b := rfl
theorem sh_non : SeqAt.shaped .none = true := rfl
theorem eq_int (i j : Int) (st : Store) : evCmp .eq (.int i) (.int j) st = .ok (.bl (i == j), .va) st := by
  rw [cmp_eq]
  unfold evEq
  simp [byt2, dat2, T.D?, sh_int, PyData.eqv, okv_s]
theorem ne_int (i j : Int) (st : Store) : evCmp .ne (.int i) (.int j) st = .ok (.bl (!(i == j)), .va) st := by
  rw [cmp_ne]
  unfold evEq
  simp [byt2, dat2, T.D?, sh_int, PyData.eqv, okv_s]
theorem toS_eq (a b : List Nat) : (toS a == toS b) = (a == b) := by
  by_cases h : a = b
  · subst h; simp
  · have : toS a ≠ toS b := fun e => h (by
      have := congrArg (fun s : Str => s.cps.toList) e
      simpa [toS] using this)
    rw [beq_eq_false_iff_ne.mpr this, beq_eq_false_iff_ne.mpr h]
theorem eq_str (a b : List Nat) (st : Store) (ha : okS a = true) (hb : okS b = true) : evCmp .eq (.str a) (.str b) st = .ok (.bl (a == b), .va) st := by
  rw [cmp_eq]
  unfold evEq
  simp [byt2, dat2, T.D?, show SeqAt.shaped (.str (toS a)) = true from ha, show SeqAt.shaped (.str (toS b)) = true from hb, PyData.eqv, okv_s, toS_eq]
theorem ne_str (a b : List Nat) (st : Store) (ha : okS a = true) (hb : okS b = true) : evCmp .ne (.str a) (.str b) st = .ok (.bl (!(a == b)), .va) st := by
  rw [cmp_ne]
  unfold evEq
  simp [byt2, dat2, T.D?, show SeqAt.shaped (.str (toS a)) = true from ha, show SeqAt.shaped (.str (toS b)) = true from hb, PyData.eqv, okv_s, toS_eq]
theorem ne_byt (a b : List UInt8) (st : Store) : evCmp .ne (.byt a) (.byt b) st = .ok (.bl (!(a == b)), .va) st := rfl
theorem eq_byt (a b : List UInt8) (st : Store) : evCmp .eq (.byt a) (.byt b) st = .ok (.bl (a == b), .va) st := rfl
theorem eq_self {t : T} {d : PyData} (h : t.D? = some d) (hs : SeqAt.shaped d = true) (st : Store) : evCmp .eq t t st = .ok (.bl true, .va) st := by
  rw [cmp_eq]
  unfold evEq
  have hb : byt2 t t = none := by cases t <;> first | rfl | (simp [T.D?] at h)
  rw [hb]
  simp only [dat2, h, hs]
  rw [if_pos ⟨trivial, trivial⟩]
  rw [SeqAt.eqv_refl d (SeqAt.canLay_of_shaped hs)]
  rfl
theorem ne_self {t : T} {d : PyData} (h : t.D? = some d) (hs : SeqAt.shaped d = true) (st : Store) : evCmp .ne t t st = .ok (.bl false, .va) st := by
  rw [cmp_ne]
  unfold evEq
  have hb : byt2 t t = none := by cases t <;> first | rfl | (simp [T.D?] at h)
  rw [hb]
  simp only [dat2, h, hs]
  rw [if_pos ⟨trivial, trivial⟩]
  rw [SeqAt.eqv_refl d (SeqAt.canLay_of_shaped hs)]
  rfl
theorem D_ints : ∀ ns : List Int, T.Ds? (ns.map T.int) = some (ns.map PyData.int)
  | [] => rfl
  | i :: r => by
    show (match T.D? (.int i), T.Ds? (r.map T.int) with | some d, some ds => some (d :: ds) | _, _ => none) = _
    rw [D_ints r]
    rfl
theorem lay_ints : ∀ ns : List Int, PyData.canLayAll0 (ns.map PyData.int) = true ∧ PyData.depthAll (ns.map PyData.int) = 0
  | [] => ⟨rfl, rfl⟩
  | i :: r => by
    obtain ⟨h1, h2⟩ := lay_ints r
    refine ⟨?_, ?_⟩
    · show (PyData.canLay0 (.int i) && PyData.canLayAll0 (r.map PyData.int)) = true
      rw [h1]; rfl
    · show max 0 (PyData.depthAll (r.map PyData.int)) = 0
      rw [h2]; rfl
theorem sh_ints (ns : List Int) : SeqAt.shaped (.list (ns.map PyData.int)) = true := by
  obtain ⟨h1, h2⟩ := lay_ints ns
  unfold SeqAt.shaped
  have e1 : PyData.canLay0 (.list (ns.map PyData.int)) = PyData.canLayAll0 (ns.map PyData.int) := rfl
  have e2 : PyData.depth (.list (ns.map PyData.int)) = PyData.depthAll (ns.map PyData.int) + 1 := rfl
  rw [e1, e2, h1, h2]
  rfl
theorem ne_ints (ns : List Int) (st : Store) : evCmp .ne (.lst (ns.map T.int)) (.lst (ns.map T.int)) st = .ok (.bl false, .va) st :=
  ne_self (d := .list (ns.map PyData.int)) (by show (T.Ds? _).map PyData.list = _; rw [D_ints]; rfl) (sh_ints ns) st
theorem ints_map (ns : List Int) : T.ints? (ns.map T.int) = some ns := by
  induction ns with
  | nil => rfl
  | cons i r ih =>
    show (T.ints? (r.map T.int)).map (i :: ·) = _
    rw [ih]; rfl
theorem bls_map (ns : List Bool) : T.bls? (ns.map T.bl) = some ns := by
  induction ns with
  | nil => rfl
  | cons i r ih =>
    show (T.bls? (r.map T.bl)).map (i :: ·) = _
    rw [ih]; rfl
theorem atI_nat {α : Type} (l : List α) (i : Nat) (h : i < l.length) : L2.atI l (i : Int) = l[i]? := by
  unfold L2.atI L2.ixN
  simp [h]
end G

set_option Elab.async false
set_option linter.all false
set_option maxRecDepth 100000
set_option maxHeartbeats 400000
/-! Values' operations, case by case. -/
namespace G
section
variable (st : Store)
theorem add_int (i j : Int) : evBin .add (.int i) (.int j) st = .ok (.int (i + j), .va) st := rfl
theorem add_str (x y : List Nat) : evBin .add (.str x) (.str y) st = if x.length + y.length ≤ big then .ok (.str (x ++ y), .va) st else .fail := by
  show (if _ then okv _ else M.fail) st = _
  rw [ite_s]; rfl
theorem add_tup (x y : List T) : evBin .add (.tup x) (.tup y) st = if x.length + y.length ≤ big then .ok (.tup (x ++ y), .va) st else .fail := by
  show (if _ then okv _ else M.fail) st = _
  rw [ite_s]; rfl
theorem add_lst (x y : List T) : evBin .add (.lst x) (.lst y) st = if x.length + y.length ≤ big then .ok (.lst (x ++ y), .fr) st else .fail := by
  show (if _ then M.ok _ else M.fail) st = _
  rw [ite_s]; rfl
theorem sub_int (i j : Int) : evBin .sub (.int i) (.int j) st = .ok (.int (i - j), .va) st := rfl
theorem mul_int (i j : Int) : evBin .mul (.int i) (.int j) st = if (-(2 ^ 64) < i ∧ i < 2 ^ 64) ∨ (-(2 ^ 64) < j ∧ j < 2 ^ 64) then .ok (.int (i * j), .va) st else .fail := by
  show (if _ then okv _ else M.fail) st = _
  rw [ite_s]; rfl
theorem div_int (i j : Int) : evBin .fdiv (.int i) (.int j) st = if 0 < j ∧ j < 1073741824 then .ok (.int (i / j), .va) st else .fail := by
  show (if _ then okv _ else M.fail) st = _
  rw [ite_s]; rfl
theorem mod_int (i j : Int) : evBin .mod (.int i) (.int j) st = if 0 < j then .ok (.int (i % j), .va) st else .fail := by
  show (if _ then okv _ else M.fail) st = _
  rw [ite_s]; rfl
theorem pow_int (i j : Int) : evBin .pow (.int i) (.int j) st = if 0 ≤ j ∧ j ≤ 1000000 ∧ i.natAbs < 2 ^ 64 then .ok (.int (i ^ j.toNat), .va) st else .fail := by
  show (if _ then okv _ else M.fail) st = _
  rw [ite_s]; rfl
theorem ord_int (f : Int → Int → Bool) (g : List Nat → List Nat → Bool) (i j : Int) : evOrd f g (.int i) (.int j) st = .ok (.bl (f i j), .va) st := rfl
theorem ord_str (f : Int → Int → Bool) (g : List Nat → List Nat → Bool) (i j : List Nat) : evOrd f g (.str i) (.str j) st = .ok (.bl (g i j), .va) st := rfl
theorem sl_lst (ts : List T) (lo hi : Option Int) : evSl (.lst ts) lo hi st = .ok (.lst (cut ts lo hi), .fr) st := rfl
theorem sl_scr (ts : List Int) (lo hi : Option Int) : evSl (.scr ts) lo hi st = .ok (.lst ((cut ts lo hi).map .int), .fr) st := rfl
theorem sl_tup (ts : List T) (lo hi : Option Int) : evSl (.tup ts) lo hi st = .ok (.tup (cut ts lo hi), .va) st := rfl
theorem sl_byt (l : List UInt8) (lo hi : Option Int) : evSl (.byt l) lo hi st = if l.length ≤ big then .ok (.byt (cut l lo hi), .va) st else .fail := by
  show (if _ then okv _ else M.fail) st = _
  rw [ite_s]; rfl
theorem len_lst (ts : List T) : evBi .len [.lst ts] st = .ok (.int ts.length, .va) st := rfl
theorem len_tup (ts : List T) : evBi .len [.tup ts] st = .ok (.int ts.length, .va) st := rfl
theorem len_scr (ts : List Int) : evBi .len [.scr ts] st = .ok (.int ts.length, .va) st := rfl
theorem len_str (l : List Nat) : evBi .len [.str l] st = if l.length ≤ big then .ok (.int l.length, .va) st else .fail := by
  show (if _ then okv _ else M.fail) st = _
  rw [ite_s]; rfl
theorem len_byt (l : List UInt8) : evBi .len [.byt l] st = if l.length ≤ big then .ok (.int l.length, .va) st else .fail := by
  show (if _ then okv _ else M.fail) st = _
  rw [ite_s]; rfl
theorem b_int (i : Int) : evBi .int [.int i] st = .ok (.int i, .va) st := rfl
theorem b_abs (i : Int) : evBi .abs [.int i] st = .ok (.int (if i < 0 then -i else i), .va) st := rfl
theorem b_sum (ns : List Int) : evBi .sum [.lst (ns.map T.int)] st = .ok (.int ns.sum, .va) st := by
  show M.bind _ _ st = _
  rw [m_bind, ints_map]; rfl
theorem b_all (ns : List Bool) : evBi .all [.lst (ns.map T.bl)] st = .ok (.bl (ns.all id), .va) st := by
  show M.bind _ _ st = _
  rw [m_bind, bls_map]; rfl
theorem b_any (ns : List Bool) : evBi .any [.lst (ns.map T.bl)] st = .ok (.bl (ns.any id), .va) st := by
  show M.bind _ _ st = _
  rw [m_bind, bls_map]; rfl
theorem b_tupl (ts : List T) : evBi .tuple [.lst ts] st = .ok (.tup ts, .va) st := rfl
theorem b_lstl (ts : List T) : evBi .list [.lst ts] st = .ok (.lst ts, .fr) st := rfl
theorem b_lstt (ts : List T) : evBi .list [.tup ts] st = .ok (.lst ts, .fr) st := rfl
theorem b_lstb (l : List UInt8) : evBi .list [.byt l] st = if l.length ≤ big then .ok (.lst (l.map fun b => .int (b.toNat : Nat)), .fr) st else .fail := by
  show (if _ then M.ok _ else M.fail) st = _
  rw [ite_s]; rfl
theorem b_sort (ns : List Int) : evBi .sorted [.lst (ns.map T.int)] st = .ok (.lst ((sortI ns).map .int), .fr) st := by
  show M.bind _ _ st = _
  rw [m_bind, ints_map]; rfl
theorem b_byts (ns : List Int) : evBi .bytes [.lst (ns.map T.int)] st = if ns.all (fun n => decide (0 ≤ n ∧ n < 256)) = true then .ok (.byt (ns.map fun n => n.toNat.toUInt8), .va) st else .fail := by
  show M.bind _ _ st = _
  rw [m_bind, ints_map]
  show (if _ then okv _ else M.fail) st = _
  rw [ite_s]; rfl
theorem aug_add (i j : Int) : evAug .add (.int i) (.int j) = some (.int (i + j)) := rfl
theorem aug_sub (i j : Int) : evAug .sub (.int i) (.int j) = some (.int (i - j)) := rfl
theorem mk_l (ts : List T) : mtOk .lindex (.lst ts) = true := rfl
theorem mk_t (ts : List T) : mtOk .tindex (.tup ts) = true := rfl
theorem mk_s (ts : List Nat) : mtOk .sindex (.str ts) = true := rfl
theorem is_1 (t : Ty) : isTy .non t = some false := rfl
theorem is_2 (b : Bool) (t : Ty) : isTy (.bl b) t = some (decide (t = .bool ∨ t = .int)) := rfl
theorem is_3 (b : Int) (t : Ty) : isTy (.int b) t = some (decide (t = .int)) := rfl
theorem is_4 (b : List Nat) (t : Ty) : isTy (.str b) t = some (decide (t = .str)) := rfl
theorem is_5 (b : List UInt8) (t : Ty) : isTy (.byt b) t = some (decide (t = .bytes)) := rfl
theorem is_6 (b : List T) (t : Ty) : isTy (.tup b) t = some (decide (t = .tuple)) := rfl
theorem is_7 (b : List T) (t : Ty) : isTy (.lst b) t = some (decide (t = .list)) := rfl
theorem se_va (i : Nat) (t : T) (ρ : Ro) : setTg (.n i) (t, .va) ρ = some (ρ.set i (.va t)) := by cases t <;> rfl
theorem se_fr (i : Nat) (t : List T) (ρ : Ro) : setTg (.n i) (.lst t, .fr) ρ = some (ρ.set i (.ow t)) := rfl
theorem se_tu (a : TgL) (t : T) (ρ : Ro) : setTg (.tup a) (t, .va) ρ = bindTg (.tup a) t ρ := by cases t <;> rfl
theorem ro_nil (ρ : Ro) : setRow [] [] ρ = some ρ := rfl
theorem ro_cons (i : Nat) (is : List Nat) (r : R) (rs : List R) (ρ : Ro) : setRow (i :: is) (r :: rs) ρ = (setTg (.n i) r ρ).bind fun ρ1 => setRow is rs ρ1 := rfl
theorem bi_n (i : Nat) (t : T) (ρ : Ro) : bindTg (.n i) t ρ = some (ρ.set i (.va t)) := rfl
theorem bi_t (a : TgL) (ts : List T) (ρ : Ro) : bindTg (.tup a) (.tup ts) ρ = bindTgL a ts ρ := rfl
theorem bi_l (a : TgL) (ts : List T) (ρ : Ro) : bindTg (.tup a) (.lst ts) ρ = bindTgL a ts ρ := rfl
theorem bl_n (ρ : Ro) : bindTgL .nil [] ρ = some ρ := rfl
theorem bl_c (a : Tg) (r : TgL) (t : T) (ts : List T) (ρ : Ro) : bindTgL (.cons a r) (t :: ts) ρ = (bindTg a t ρ).bind fun ρ1 => bindTgL r ts ρ1 := rfl
theorem fz_nil (ρ : Ro) : frz ρ [] = ρ := rfl
def fz1 (ρ : Ro) (i : Nat) : Option Sl → Ro
  | some (.ow ts) => ρ.set i (.va (.lst ts))
  | _ => ρ
theorem fz_cons (ρ : Ro) (i : Nat) (r : List Nat) : frz ρ (i :: r) = fz1 (frz ρ r) i (frz ρ r)[i]? := by
  show (match (frz ρ r)[i]? with | some (.ow ts) => _ | _ => _) = _
  unfold fz1
  cases (frz ρ r)[i]? with
  | none => rfl
  | some s => cases s <;> rfl
theorem fz1_ow (ρ : Ro) (i : Nat) (ts : List T) : fz1 ρ i (some (.ow ts)) = ρ.set i (.va (.lst ts)) := rfl
theorem fz1_va (ρ : Ro) (i : Nat) (t : T) : fz1 ρ i (some (.va t)) = ρ := rfl
theorem fz1_un (ρ : Ro) (i : Nat) : fz1 ρ i (some .un) = ρ := rfl
theorem wi_nil (ρ : Ro) : wipeR ρ [] = ρ := rfl
theorem wi_cons (ρ : Ro) (i : Nat) (r : List Nat) : wipeR ρ (i :: r) = (wipeR ρ r).set i .un := rfl
theorem it_l (ts : List T) : items .seq [.lst ts] st = .ok ts st := rfl
theorem it_t (ts : List T) : items .seq [.tup ts] st = .ok ts st := rfl
theorem it_c (ts : List Int) : items .seq [.scr ts] st = .ok (ts.map .int) st := rfl
theorem it_s (ts : List Nat) : items .seq [.str ts] st = .ok (ts.map fun c => .str [c]) st := rfl
theorem it_r (j : Int) : items .rng [.int j] st = if j < 2 ^ 62 ∧ -(2 ^ 62) ≤ j then .ok ((List.range j.toNat).map fun (k : Nat) => .int (k : Int)) st else .fail := by
  show (if _ then M.ok _ else M.fail) st = _
  rw [ite_s]; rfl
theorem it_zl (a b : List T) : items .zip [.lst a, .lst b] st = .ok (zipT a b) st := rfl
theorem it_zt (a b : List T) : items .zip [.tup a, .tup b] st = .ok (zipT a b) st := rfl
theorem it_e (a : List T) : items .enum [.lst a] st = .ok (enumT a 0) st := rfl
theorem non_1 : nonB .non = true := rfl
theorem non_2 (b : Bool) : nonB (.bl b) = false := rfl
theorem non_3 (b : Int) : nonB (.int b) = false := rfl
theorem non_4 (b : List Nat) : nonB (.str b) = false := rfl
theorem non_5 (b : List T) : nonB (.tup b) = false := rfl
theorem non_6 (b : List T) : nonB (.lst b) = false := rfl
theorem atI_0' {α : Type} (a : α) (l : List α) : L2.atI (a :: l) 0 = some a := atI_0 a l
theorem atI_1 {α : Type} (a b : α) (l : List α) : L2.atI (a :: b :: l) 1 = some b := by
  have h : L2.atI (a :: b :: l) ((1 : Nat) : Int) = _ := atI_nat (a :: b :: l) 1 (by simp)
  exact h
theorem atI_2 {α : Type} (a b c : α) (l : List α) : L2.atI (a :: b :: c :: l) 2 = some c := by
  have h : L2.atI (a :: b :: c :: l) ((2 : Nat) : Int) = _ := atI_nat (a :: b :: c :: l) 2 (by simp)
  exact h
theorem atI_3 {α : Type} (a b c d : α) (l : List α) : L2.atI (a :: b :: c :: d :: l) 3 = some d := by
  have h : L2.atI (a :: b :: c :: d :: l) ((3 : Nat) : Int) = _ := atI_nat (a :: b :: c :: d :: l) 3 (by simp)
  exact h
theorem atI_4 {α : Type} (a b c d e : α) (l : List α) : L2.atI (a :: b :: c :: d :: e :: l) 4 = some e := by
  have h : L2.atI (a :: b :: c :: d :: e :: l) ((4 : Nat) : Int) = _ := atI_nat (a :: b :: c :: d :: e :: l) 4 (by simp)
  exact h
end
end G

set_option maxHeartbeats 0
set_option maxRecDepth 100000
/-! The data of the law glasskept_k60_whole_kinds_as_octets. -/
namespace D
open PySem PySem.Spec PyProof.Rows L2 G

abbrev F_is_integer : Nat := 0
abbrev F_is_short_integer : Nat := 1
abbrev F_is_name : Nat := 2
abbrev F_is_told : Nat := 3
abbrev F_rises : Nat := 4
abbrev F_are_names : Nat := 5
abbrev F_are_pairs : Nat := 6
abbrev F_kinds_right_within : Nat := 7
abbrev F_has_key : Nat := 8
abbrev F_is_kind : Nat := 9
abbrev F_check_kind : Nat := 10
abbrev F_raw_kind_parts : Nat := 11
abbrev F_kind_parts : Nat := 12
abbrev F_number_octets : Nat := 13
abbrev F_integer_octets : Nat := 14
abbrev F_name_octets : Nat := 15
abbrev F_names_octets : Nat := 16
abbrev F_raw_kind_octets : Nat := 17
abbrev F_kind_octets : Nat := 18
abbrev F_OctetReader_init : Nat := 19
abbrev F_OctetReader_fail_here : Nat := 20
abbrev F_OctetReader_take_octet : Nat := 21
abbrev F_OctetReader_take_word : Nat := 22
abbrev F_OctetReader_take_number : Nat := 23
abbrev F_OctetReader_take_integer : Nat := 24
abbrev F_OctetReader_take_name : Nat := 25
abbrev F_OctetReader_take_many : Nat := 26
abbrev F_OctetReader_take_names : Nat := 27
abbrev F_OctetReader_go_deep : Nat := 28
abbrev F_OctetReader_go_up : Nat := 29
abbrev F_OctetReader_take_kind : Nat := 30
abbrev F_OctetReader_close : Nat := 31
abbrev F_kind_of_octets : Nat := 32
abbrev F__law_hand : Nat := 33
abbrev F__law_draw : Nat := 34
abbrev F__law_some : Nat := 35
abbrev F__law_kind : Nat := 36
abbrev F__law_number_row : Nat := 37
abbrev F__law_integer_row : Nat := 38
abbrev F__law_name_row : Nat := 39
abbrev F__law_names_row : Nat := 40
abbrev F__law_kind_row : Nat := 41
abbrev F__law_great : Nat := 42
abbrev F__law_is_right : Nat := 43
abbrev F__law_refused : Nat := 44
abbrev F_law : Nat := 45
def fd_is_integer : FD := ⟨none, "is_integer", ["thing"], ["thing"],
    (.ret [] (.and (.isi (.v 0) .int) (.not (.isi (.v 0) .bool))))⟩
def fd_is_short_integer : FD := ⟨none, "is_short_integer", ["thing"], ["thing"],
    (.ret [0] (.and (.call F_is_integer (.cons (.v 0) .nil)) (.cmp .lt (.bi .abs (.cons (.v 0) .nil)) (.g 0))))⟩
def fd_is_name : FD := ⟨none, "is_name", ["thing", "sign"], ["thing"],
    (.ret [] (.and (.isi (.v 0) .str) (.and (.ch2 .le .le (.c (.int 1)) (.bi .len (.cons (.v 0) .nil)) (.g 2)) (.bi .all (.cons (.lc (.cmp .isin (.v 1) (.g 1)) (.n 1) .seq (.cons (.v 0) .nil) .yes [1]) .nil)))))⟩
def fd_is_told : FD := ⟨none, "is_told", ["thing", "word", "many"], ["thing", "word", "many"],
    (.seq (.ite [] (.or (.not (.of (.isi (.v 0) .tuple))) (.of (.cmp .ne (.bi .len (.cons (.v 0) .nil)) (.bin .add (.c (.int 1)) (.v 2))))) (.ret [] (.c (.bl false))) .pass)
    (.ret [] (.and (.isi (.ix (.v 0) (.c (.int 0))) .str) (.cmp .eq (.ix (.v 0) (.c (.int 0))) (.v 1)))))⟩
def fd_rises : FD := ⟨none, "rises", ["things", "one", "other"], ["things"],
    (.ret [] (.bi .all (.cons (.lc (.cmp .lt (.v 1) (.v 2)) (.tup (.cons (.n 1) (.cons (.n 2) .nil))) .zip (.cons (.v 0) (.cons (.sl (.v 0) (.some (.c (.int 1))) .none) .nil)) .yes [1, 2]) .nil)))⟩
def fd_are_names : FD := ⟨none, "are_names", ["thing", "least", "most", "one"], ["thing", "least", "most"],
    (.seq (.ite [] (.or (.not (.of (.isi (.v 0) .tuple))) (.or (.not (.of (.ch2 .le .le (.v 1) (.bi .len (.cons (.v 0) .nil)) (.v 2)))) (.not (.of (.bi .all (.cons (.lc (.call F_is_name (.cons (.v 3) .nil)) (.n 3) .seq (.cons (.v 0) .nil) .yes [3]) .nil)))))) (.ret [] (.c (.bl false))) .pass)
    (.ret [0] (.call F_rises (.cons (.v 0) .nil))))⟩
def fd_are_pairs : FD := ⟨none, "are_pairs", ["thing", "least", "most", "pair"], ["thing", "least", "most"],
    (.seq (.ite [] (.or (.not (.of (.isi (.v 0) .tuple))) (.not (.of (.ch2 .le .le (.v 1) (.bi .len (.cons (.v 0) .nil)) (.v 2))))) (.ret [] (.c (.bl false))) .pass)
    (.seq (.ite [] (.not (.of (.bi .all (.cons (.lc (.and (.isi (.v 3) .tuple) (.and (.cmp .eq (.bi .len (.cons (.v 3) .nil)) (.c (.int 2))) (.call F_is_name (.cons (.ix (.v 3) (.c (.int 0))) .nil)))) (.n 3) .seq (.cons (.v 0) .nil) .yes [3]) .nil)))) (.ret [] (.c (.bl false))) .pass)
    (.ret [] (.call F_rises (.cons (.lc (.ix (.v 3) (.c (.int 0))) (.n 3) .seq (.cons (.v 0) .nil) .yes [3]) .nil)))))⟩
def fd_kinds_right_within : FD := ⟨none, "kinds_right_within", ["kind", "one", "pair"], ["kind"],
    (.seq (.ite [0] (.of (.call F_is_told (.cons (.v 0) (.cons (.g 3) (.cons (.c (.int 2)) .nil))))) (.ret [] (.ife (.and (.of (.bi .all (.cons (.lc (.call F_is_short_integer (.cons (.v 1) .nil)) (.n 1) .seq (.cons (.sl (.v 0) (.some (.c (.int 1))) .none) .nil) .yes [1]) .nil))) (.of (.cmp .le (.ix (.v 0) (.c (.int 1))) (.ix (.v 0) (.c (.int 2)))))) (.lst .nil) (.c .non))) .pass)
    (.seq (.ite [0] (.of (.call F_is_told (.cons (.v 0) (.cons (.g 4) (.cons (.c (.int 1)) .nil))))) (.ret [] (.ife (.of (.call F_are_names (.cons (.ix (.v 0) (.c (.int 1))) (.cons (.c (.int 1)) (.cons (.g 5) .nil))))) (.lst .nil) (.c .non))) .pass)
    (.seq (.ite [0] (.of (.call F_is_told (.cons (.v 0) (.cons (.g 6) (.cons (.c (.int 1)) .nil))))) (.ret [] (.ife (.of (.call F_are_pairs (.cons (.ix (.v 0) (.c (.int 1))) (.cons (.c (.int 0)) (.cons (.g 7) .nil))))) (.lc (.ix (.v 2) (.c (.int 1))) (.n 2) .seq (.cons (.ix (.v 0) (.c (.int 1))) .nil) .yes [2]) (.c .non))) .pass)
    (.seq (.ite [0] (.of (.call F_is_told (.cons (.v 0) (.cons (.g 8) (.cons (.c (.int 1)) .nil))))) (.ret [] (.ife (.of (.call F_are_pairs (.cons (.ix (.v 0) (.c (.int 1))) (.cons (.c (.int 1)) (.cons (.g 7) .nil))))) (.lc (.ix (.v 2) (.c (.int 1))) (.n 2) .seq (.cons (.ix (.v 0) (.c (.int 1))) .nil) .yes [2]) (.c .non))) .pass)
    (.seq (.ite [0] (.of (.call F_is_told (.cons (.v 0) (.cons (.g 9) (.cons (.c (.int 1)) .nil))))) (.ret [] (.lst (.cons (.ix (.v 0) (.c (.int 1))) .nil))) .pass)
    (.ret [0] (.ife (.and (.of (.call F_is_told (.cons (.v 0) (.cons (.g 10) (.cons (.c (.int 2)) .nil))))) (.of (.call F_is_name (.cons (.ix (.v 0) (.c (.int 1))) .nil)))) (.lst (.cons (.ix (.v 0) (.c (.int 2))) .nil)) (.c .non))))))))⟩
def fd_has_key : FD := ⟨none, "has_key", ["kind", "found", "name", "part"], ["kind"],
    (.seq (.ite [] (.not (.of (.call F_is_told (.cons (.ix (.v 0) (.c (.int 2))) (.cons (.g 6) (.cons (.c (.int 1)) .nil)))))) (.ret [] (.c (.bl false))) .pass)
    (.seq (.asg [] (.n 1) (.lc (.v 3) (.tup (.cons (.n 2) (.cons (.n 3) .nil))) .seq (.cons (.ix (.ix (.v 0) (.c (.int 2))) (.c (.int 1))) .nil) (.of (.cmp .eq (.v 2) (.ix (.v 0) (.c (.int 1))))) [2, 3]))
    (.ret [] (.and (.cmp .eq (.bi .len (.cons (.v 1) .nil)) (.c (.int 1))) (.cmp .isin (.ix (.ix (.v 1) (.c (.int 0))) (.c (.int 0))) (.tup (.cons (.g 3) (.cons (.g 4) .nil))))))))⟩
def fd_is_kind : FD := ⟨none, "is_kind", ["thing", "many", "waiting", "keyed", "here", "deep", "within", "one"], ["thing"],
    (.seq (.par [0] [1, 2, 3] (.cons (.c (.int 0)) (.cons (.lst (.cons (.tup (.cons (.v 0) (.cons (.c (.int 1)) .nil))) .nil)) (.cons (.lst .nil) .nil))))
    (.seq (.while (.of (.cmp .gt (.bi .len (.cons (.v 2) .nil)) (.c (.int 0)))) (.seq (.pop (.tup (.cons (.n 4) (.cons (.n 5) .nil))) 2)
    (.seq (.aug 1 .add (.c (.int 1)))
    (.seq (.asg [4] (.n 6) (.call F_kinds_right_within (.cons (.v 4) .nil)))
    (.seq (.ite [] (.or (.of (.cmp .gt (.v 1) (.g 12))) (.or (.of (.cmp .gt (.v 5) (.g 11))) (.of (.isn true (.v 6))))) (.ret [] (.c (.bl false))) .pass)
    (.seq (.ite [] (.of (.cmp .eq (.ix (.v 4) (.c (.int 0))) (.g 10))) (.app [4] 3 (.v 4)) .pass)
    (.ext [] 2 (.lc (.tup (.cons (.v 7) (.cons (.bin .add (.v 5) (.c (.int 1))) .nil))) (.n 7) .seq (.cons (.v 6) .nil) .yes [7]))))))))
    (.ret [] (.bi .all (.cons (.lc (.call F_has_key (.cons (.v 7) .nil)) (.n 7) .seq (.cons (.v 3) .nil) .yes [7]) .nil)))))⟩
def fd_check_kind : FD := ⟨none, "check_kind", ["kind"], ["kind"],
    (.ite [0] (.not (.of (.call F_is_kind (.cons (.v 0) .nil)))) (.raise 0 .nil) .pass)⟩
def fd_raw_kind_parts : FD := ⟨none, "raw_kind_parts", ["kind", "one"], ["kind"],
    (.ret [0] (.bin .add (.c (.int 1)) (.bi .sum (.cons (.lc (.call F_raw_kind_parts (.cons (.v 1) .nil)) (.n 1) .seq (.cons (.call F_kinds_right_within (.cons (.v 0) .nil)) .nil) .yes [1]) .nil))))⟩
def fd_kind_parts : FD := ⟨none, "kind_parts", ["kind"], ["kind"],
    (.seq (.ex [0] (.call F_check_kind (.cons (.v 0) .nil)))
    (.ret [0] (.call F_raw_kind_parts (.cons (.v 0) .nil))))⟩
def fd_number_octets : FD := ⟨none, "number_octets", ["number", "found"], ["number"],
    (.seq (.asg [] (.n 1) (.lst .nil))
    (.seq (.while (.of (.cmp .ge (.v 0) (.g 13))) (.seq (.app [] 1 (.bin .add (.g 13) (.bin .mod (.bi .int (.cons (.v 0) .nil)) (.g 13))))
    (.asg [] (.n 0) (.bin .fdiv (.v 0) (.g 13)))))
    (.ret [0] (.bin .add (.v 1) (.lst (.cons (.v 0) .nil))))))⟩
def fd_integer_octets : FD := ⟨none, "integer_octets", ["number"], ["number"],
    (.ret [] (.call F_number_octets (.cons (.ife (.of (.cmp .ge (.v 0) (.c (.int 0)))) (.bin .mul (.c (.int 2)) (.v 0)) (.bin .sub (.bin .mul (.neg (.c (.int 2))) (.v 0)) (.c (.int 1)))) .nil)))⟩
def fd_name_octets : FD := ⟨none, "name_octets", ["name", "sign"], ["name"],
    (.ret [] (.bin .add (.lst (.cons (.bi .len (.cons (.v 0) .nil)) .nil)) (.lc (.bi .ord (.cons (.v 1) .nil)) (.n 1) .seq (.cons (.v 0) .nil) .yes [1])))⟩
def fd_names_octets : FD := ⟨none, "names_octets", ["names", "found", "name"], ["names"],
    (.seq (.asg [] (.n 1) (.call F_number_octets (.cons (.bi .len (.cons (.v 0) .nil)) .nil)))
    (.seq (.for [0] (.n 2) .seq (.cons (.v 0) .nil) (.ext [2] 1 (.call F_name_octets (.cons (.v 2) .nil))))
    (.retv 1)))⟩
def fd_raw_kind_octets : FD := ⟨none, "raw_kind_octets", ["kind", "found", "name", "part"], ["kind"],
    (.seq (.asg [] (.n 1) (.lst (.cons (.mt .tindex (.g 14) (.cons (.ix (.v 0) (.c (.int 0))) .nil)) .nil)))
    (.seq (.ite [] (.of (.cmp .eq (.ix (.v 0) (.c (.int 0))) (.g 3))) (.ret [] (.bin .add (.bin .add (.v 1) (.call F_integer_octets (.cons (.ix (.v 0) (.c (.int 1))) .nil))) (.call F_integer_octets (.cons (.ix (.v 0) (.c (.int 2))) .nil)))) .pass)
    (.seq (.ite [] (.of (.cmp .eq (.ix (.v 0) (.c (.int 0))) (.g 4))) (.ret [] (.bin .add (.v 1) (.call F_names_octets (.cons (.ix (.v 0) (.c (.int 1))) .nil)))) .pass)
    (.seq (.ite [] (.of (.cmp .isin (.ix (.v 0) (.c (.int 0))) (.tup (.cons (.g 6) (.cons (.g 8) .nil))))) (.seq (.ext [] 1 (.call F_number_octets (.cons (.bi .len (.cons (.ix (.v 0) (.c (.int 1))) .nil)) .nil)))
    (.seq (.for [] (.tup (.cons (.n 2) (.cons (.n 3) .nil))) .seq (.cons (.ix (.v 0) (.c (.int 1))) .nil) (.ext [2, 3] 1 (.bin .add (.call F_name_octets (.cons (.v 2) .nil)) (.call F_raw_kind_octets (.cons (.v 3) .nil)))))
    (.retv 1))) .pass)
    (.seq (.ite [] (.of (.cmp .eq (.ix (.v 0) (.c (.int 0))) (.g 10))) (.ext [] 1 (.call F_name_octets (.cons (.ix (.v 0) (.c (.int 1))) .nil))) .pass)
    (.ret [] (.bin .add (.v 1) (.call F_raw_kind_octets (.cons (.ix (.v 0) (.neg (.c (.int 1)))) .nil)))))))))⟩
def fd_kind_octets : FD := ⟨none, "kind_octets", ["kind"], ["kind"],
    (.seq (.ex [0] (.call F_check_kind (.cons (.v 0) .nil)))
    (.ret [0] (.bi .bytes (.cons (.call F_raw_kind_octets (.cons (.v 0) .nil)) .nil))))⟩
def fd_OctetReader_init : FD := ⟨some 0, "__init__", ["self", "octets"], ["self", "octets"],
    (.seq (.ite [] (.not (.of (.isi (.v 1) .bytes))) (.raise 1 (.cons (.neg (.c (.int 1))) .nil)) .pass)
    (.seq (.setfld [1] (.v 0) 0 (.v 1))
    (.seq (.setfld [] (.v 0) 1 (.c (.int 0)))
    (.setfld [] (.v 0) 2 (.c (.int 0))))))⟩
def fd_OctetReader_fail_here : FD := ⟨some 0, "fail_here", ["self"], ["self"],
    (.raise 1 (.cons (.fld (.v 0) 1) .nil))⟩
def fd_OctetReader_take_octet : FD := ⟨some 0, "take_octet", ["self"], ["self"],
    (.seq (.ite [] (.of (.cmp .ge (.fld (.v 0) 1) (.bi .len (.cons (.fld (.v 0) 0) .nil)))) (.ex [] (.meth 0 (.v 0) .nil)) .pass)
    (.seq (.augfld (.v 0) 1 .add (.c (.int 1)))
    (.ret [] (.ix (.fld (.v 0) 0) (.bin .sub (.fld (.v 0) 1) (.c (.int 1)))))))⟩
def fd_OctetReader_take_word : FD := ⟨some 0, "take_word", ["self", "words", "number"], ["self", "words"],
    (.seq (.asg [] (.n 2) (.meth 1 (.v 0) .nil))
    (.seq (.ite [] (.of (.cmp .ge (.v 2) (.bi .len (.cons (.v 1) .nil)))) (.seq (.augfld (.v 0) 1 .sub (.c (.int 1)))
    (.ex [] (.meth 0 (.v 0) .nil))) .pass)
    (.ret [] (.ix (.v 1) (.v 2)))))⟩
def fd_OctetReader_take_number : FD := ⟨some 0, "take_number", ["self", "begin", "found", "by", "turn", "octet"], ["self"],
    (.seq (.par [] [1, 2, 3] (.cons (.fld (.v 0) 1) (.cons (.c (.int 0)) (.cons (.c (.int 1)) .nil))))
    (.seq (.for [] (.n 4) .rng (.cons (.g 15) .nil) (.seq (.asg [] (.n 5) (.meth 1 (.v 0) .nil))
    (.seq (.asg [] (.n 2) (.bin .add (.v 2) (.bin .mul (.v 3) (.bin .mod (.bi .int (.cons (.v 5) .nil)) (.g 13)))))
    (.seq (.ite [] (.of (.cmp .lt (.v 5) (.g 13))) (.seq (.ite [] (.and (.of (.cmp .eq (.v 5) (.c (.int 0)))) (.of (.cmp .gt (.v 4) (.c (.int 0))))) (.seq (.setfld [1] (.v 0) 1 (.v 1))
    (.ex [] (.meth 0 (.v 0) .nil))) .pass)
    (.retv 2)) .pass)
    (.asg [] (.n 3) (.bin .mul (.v 3) (.g 13)))))))
    (.seq (.setfld [1] (.v 0) 1 (.v 1))
    (.ret [] (.meth 0 (.v 0) .nil)))))⟩
def fd_OctetReader_take_integer : FD := ⟨some 0, "take_integer", ["self", "found"], ["self"],
    (.seq (.asg [] (.n 1) (.meth 2 (.v 0) .nil))
    (.ret [] (.ife (.of (.cmp .eq (.bin .mod (.bi .int (.cons (.v 1) .nil)) (.c (.int 2))) (.c (.int 0)))) (.bin .fdiv (.v 1) (.c (.int 2))) (.bin .sub (.neg (.bin .fdiv (.v 1) (.c (.int 2)))) (.c (.int 1))))))⟩
def fd_OctetReader_take_name : FD := ⟨some 0, "take_name", ["self", "begin", "found", "turn", "place"], ["self"],
    (.seq (.par [] [1, 2] (.cons (.fld (.v 0) 1) (.cons (.c (.str [])) .nil)))
    (.seq (.for [] (.n 3) .rng (.cons (.meth 1 (.v 0) .nil) .nil) (.seq (.asg [] (.n 4) (.bin .sub (.meth 1 (.v 0) .nil) (.g 16)))
    (.seq (.ite [] (.not (.of (.ch2 .le .lt (.c (.int 0)) (.v 4) (.bi .len (.cons (.g 1) .nil))))) (.seq (.setfld [1] (.v 0) 1 (.v 1))
    (.ex [] (.meth 0 (.v 0) .nil))) .pass)
    (.asg [] (.n 2) (.bin .add (.v 2) (.ix (.g 1) (.v 4)))))))
    (.retv 2)))⟩
def fd_OctetReader_take_many : FD := ⟨some 0, "take_many", ["self", "begin", "found"], ["self"],
    (.seq (.asg [] (.n 1) (.fld (.v 0) 1))
    (.seq (.asg [] (.n 2) (.meth 2 (.v 0) .nil))
    (.seq (.ite [] (.of (.cmp .gt (.v 2) (.bin .sub (.bi .len (.cons (.fld (.v 0) 0) .nil)) (.fld (.v 0) 1)))) (.seq (.setfld [1] (.v 0) 1 (.v 1))
    (.ex [] (.meth 0 (.v 0) .nil))) .pass)
    (.retv 2))))⟩
def fd_OctetReader_take_names : FD := ⟨some 0, "take_names", ["self", "turn"], ["self"],
    (.ret [] (.bi .tuple (.cons (.lc (.meth 3 (.v 0) .nil) (.n 1) .rng (.cons (.meth 4 (.v 0) .nil) .nil) .yes [1]) .nil)))⟩
def fd_OctetReader_go_deep : FD := ⟨some 0, "go_deep", ["self"], ["self"],
    (.seq (.augfld (.v 0) 2 .add (.c (.int 1)))
    (.ite [] (.of (.cmp .gt (.fld (.v 0) 2) (.g 17))) (.ex [] (.meth 0 (.v 0) .nil)) .pass))⟩
def fd_OctetReader_go_up : FD := ⟨some 0, "go_up", ["self", "thing"], ["self", "thing"],
    (.seq (.augfld (.v 0) 2 .sub (.c (.int 1)))
    (.retv 1))⟩
def fd_OctetReader_take_kind : FD := ⟨some 0, "take_kind", ["self", "word", "low", "found", "turn", "name"], ["self"],
    (.seq (.ex [] (.meth 5 (.v 0) .nil))
    (.seq (.asg [] (.n 1) (.meth 6 (.v 0) (.cons (.g 14) .nil)))
    (.seq (.ite [] (.of (.cmp .eq (.v 1) (.g 3))) (.seq (.asg [] (.n 2) (.meth 8 (.v 0) .nil))
    (.ret [2] (.meth 7 (.v 0) (.cons (.tup (.cons (.g 3) (.cons (.v 2) (.cons (.meth 8 (.v 0) .nil) .nil)))) .nil)))) .pass)
    (.seq (.ite [] (.of (.cmp .eq (.v 1) (.g 4))) (.ret [] (.meth 7 (.v 0) (.cons (.tup (.cons (.g 4) (.cons (.meth 9 (.v 0) .nil) .nil))) .nil))) .pass)
    (.seq (.ite [] (.of (.cmp .isin (.v 1) (.tup (.cons (.g 6) (.cons (.g 8) .nil))))) (.seq (.asg [] (.n 3) (.lst .nil))
    (.seq (.for [] (.n 4) .rng (.cons (.meth 4 (.v 0) .nil) .nil) (.seq (.asg [] (.n 5) (.meth 3 (.v 0) .nil))
    (.app [5] 3 (.tup (.cons (.v 5) (.cons (.meth 10 (.v 0) .nil) .nil))))))
    (.ret [1] (.meth 7 (.v 0) (.cons (.tup (.cons (.v 1) (.cons (.bi .tuple (.cons (.v 3) .nil)) .nil))) .nil))))) .pass)
    (.seq (.asg [] (.n 5) (.ife (.of (.cmp .eq (.v 1) (.g 10))) (.tup (.cons (.meth 3 (.v 0) .nil) .nil)) (.tup .nil)))
    (.ret [1] (.meth 7 (.v 0) (.cons (.bin .add (.bin .add (.tup (.cons (.v 1) .nil)) (.v 5)) (.tup (.cons (.meth 10 (.v 0) .nil) .nil))) .nil)))))))))⟩
def fd_OctetReader_close : FD := ⟨some 0, "close", ["self", "is_right"], ["self", "is_right"],
    (.seq (.ite [] (.of (.cmp .lt (.fld (.v 0) 1) (.bi .len (.cons (.fld (.v 0) 0) .nil)))) (.ex [] (.meth 0 (.v 0) .nil)) .pass)
    (.ite [] (.not (.of (.v 1))) (.raise 1 (.cons (.bi .len (.cons (.fld (.v 0) 0) .nil)) .nil)) .pass))⟩
def fd_kind_of_octets : FD := ⟨none, "kind_of_octets", ["octets", "reader", "found"], ["octets"],
    (.seq (.asg [0] (.n 1) (.mk 0 (.cons (.v 0) .nil)))
    (.seq (.asg [] (.n 2) (.meth 10 (.v 1) .nil))
    (.seq (.ex [2] (.meth 11 (.v 1) (.cons (.call F_is_kind (.cons (.v 2) .nil)) .nil)))
    (.retv 2))))⟩
def fd__law_hand : FD := ⟨none, "_law_hand", ["script", "cells", "cell"], ["script"],
    (.seq (.asg [] (.n 1) (.lc (.bi .abs (.cons (.bi .int (.cons (.v 2) .nil)) .nil)) (.n 2) .seq (.cons (.sl (.v 0) .none (.some (.c (.int 63)))) .nil) .yes [2]))
    (.ret [1] (.new (.cons (.v 1) (.cons (.c (.int 0)) (.cons (.c (.int 0)) (.cons (.bin .add (.c (.int 1931)) (.bin .mul (.c (.int 167)) (.bi .len (.cons (.v 1) .nil)))) (.cons (.c (.int 0)) .nil))))))))⟩
def fd__law_draw : FD := ⟨none, "_law_draw", ["hand", "many", "cell", "digit", "mixed"], ["hand", "many"],
    (.seq (.ite [] (.and (.of (.cmp .eq (.ix (.v 0) (.c (.int 2))) (.c (.int 0)))) (.of (.cmp .lt (.ix (.v 0) (.c (.int 1))) (.bi .len (.cons (.ix (.v 0) (.c (.int 0))) .nil))))) (.seq (.asg [] (.n 2) (.ix (.ix (.v 0) (.c (.int 0))) (.ix (.v 0) (.c (.int 1)))))
    (.seq (.setix [] (.v 0) (.c (.int 1)) (.bin .add (.ix (.v 0) (.c (.int 1))) (.c (.int 1))))
    (.seq (.setix [] (.v 0) (.c (.int 3)) (.bin .mod (.bi .int (.cons (.bin .add (.bin .add (.bin .mul (.ix (.v 0) (.c (.int 3))) (.c (.int 48271))) (.bin .mul (.v 2) (.c (.int 7)))) (.c (.int 31))) .nil)) (.c (.int 2147483587))))
    (.setix [2] (.v 0) (.c (.int 2)) (.ife (.of (.cmp .ge (.v 2) (.bin .pow (.c (.int 10)) (.c (.int 18))))) (.v 2) (.c (.int 0))))))) .pass)
    (.seq (.ite [] (.of (.cmp .gt (.ix (.v 0) (.c (.int 2))) (.c (.int 0)))) (.seq (.asg [] (.n 3) (.bin .mod (.bi .int (.cons (.ix (.v 0) (.c (.int 2))) .nil)) (.v 1)))
    (.seq (.setix [] (.v 0) (.c (.int 2)) (.bin .fdiv (.ix (.v 0) (.c (.int 2))) (.v 1)))
    (.retv 3))) .pass)
    (.seq (.setix [] (.v 0) (.c (.int 4)) (.bin .add (.ix (.v 0) (.c (.int 4))) (.c (.int 1))))
    (.seq (.asg [] (.n 4) (.bin .mod (.bi .int (.cons (.bin .mul (.bi .int (.cons (.bin .add (.ix (.v 0) (.c (.int 3))) (.bin .mul (.c (.int 7877)) (.ix (.v 0) (.c (.int 4))))) .nil)) (.c (.int 69621))) .nil)) (.c (.int 2147483647))))
    (.seq (.asg [] (.n 4) (.bin .mod (.bi .int (.cons (.bin .mul (.v 4) (.bin .add (.bin .fdiv (.v 4) (.c (.int 1103))) (.c (.int 40692)))) .nil)) (.c (.int 2147483399))))
    (.seq (.asg [] (.n 4) (.bin .mod (.bi .int (.cons (.bin .mul (.v 4) (.bin .add (.bin .fdiv (.v 4) (.c (.int 2311))) (.c (.int 48271)))) .nil)) (.c (.int 2147483629))))
    (.ret [] (.bin .mod (.bi .int (.cons (.bin .fdiv (.v 4) (.c (.int 16))) .nil)) (.v 1)))))))))⟩
def fd__law_some : FD := ⟨none, "_law_some", ["hand", "things"], ["hand", "things"],
    (.ret [0] (.ix (.v 1) (.call F__law_draw (.cons (.v 0) (.cons (.bi .len (.cons (.v 1) .nil)) .nil)))))⟩
def fd__law_kind : FD := ⟨none, "_law_kind", ["hand", "deep", "way", "low", "names", "pairs", "name", "kind"], ["hand", "deep"],
    (.seq (.asg [0] (.n 2) (.call F__law_draw (.cons (.v 0) (.cons (.ife (.of (.cmp .gt (.v 1) (.c (.int 0)))) (.c (.int 6)) (.c (.int 2))) .nil))))
    (.seq (.ite [] (.of (.cmp .eq (.v 2) (.c (.int 0)))) (.seq (.asg [0] (.n 3) (.bin .sub (.call F__law_draw (.cons (.v 0) (.cons (.c (.int 5)) .nil))) (.c (.int 2))))
    (.ret [0, 3] (.tup (.cons (.c (.str [105, 110, 116])) (.cons (.v 3) (.cons (.bin .add (.v 3) (.call F__law_draw (.cons (.v 0) (.cons (.c (.int 3)) .nil)))) .nil)))))) .pass)
    (.seq (.ite [] (.of (.cmp .eq (.v 2) (.c (.int 1)))) (.ret [0] (.tup (.cons (.c (.str [119, 111, 114, 100])) (.cons (.sl (.tup (.cons (.c (.str [97])) (.cons (.c (.str [98])) (.cons (.c (.str [99])) .nil)))) .none (.some (.bin .add (.c (.int 1)) (.call F__law_draw (.cons (.v 0) (.cons (.c (.int 3)) .nil)))))) .nil)))) .pass)
    (.seq (.ite [] (.of (.cmp .eq (.v 2) (.c (.int 2)))) (.ret [0] (.tup (.cons (.c (.str [108, 105, 115, 116])) (.cons (.call F__law_kind (.cons (.v 0) (.cons (.bin .sub (.v 1) (.c (.int 1))) .nil))) .nil)))) .pass)
    (.seq (.asg [] (.n 4) (.ife (.of (.cmp .eq (.v 2) (.c (.int 3)))) (.tup (.cons (.c (.str [115])) (.cons (.c (.str [116])) .nil))) (.tup (.cons (.c (.str [112])) (.cons (.c (.str [113])) .nil)))))
    (.seq (.asg [0] (.n 5) (.bi .tuple (.cons (.lc (.tup (.cons (.v 6) (.cons (.call F__law_kind (.cons (.v 0) (.cons (.bin .sub (.v 1) (.c (.int 1))) .nil))) .nil))) (.n 6) .seq (.cons (.sl (.v 4) .none (.some (.bin .add (.c (.int 1)) (.call F__law_draw (.cons (.v 0) (.cons (.c (.int 2)) .nil)))))) .nil) .yes [6]) .nil)))
    (.seq (.ite [0] (.and (.of (.cmp .eq (.v 2) (.c (.int 3)))) (.of (.cmp .eq (.call F__law_draw (.cons (.v 0) (.cons (.c (.int 2)) .nil))) (.c (.int 0))))) (.asg [] (.n 5) (.bi .tuple (.cons (.lc (.tup (.cons (.v 6) (.cons (.ix (.ix (.v 5) (.c (.int 0))) (.c (.int 1))) .nil))) (.tup (.cons (.n 6) (.cons (.n 7) .nil))) .seq (.cons (.v 5) .nil) .yes [6, 7]) .nil))) .pass)
    (.ret [5] (.tup (.cons (.ife (.of (.cmp .eq (.v 2) (.c (.int 3)))) (.c (.str [99, 104, 111, 105, 99, 101])) (.c (.str [114, 101, 99]))) (.cons (.v 5) .nil)))))))))))⟩
def fd__law_number_row : FD := ⟨none, "_law_number_row", ["number", "row", "left"], ["number"],
    (.seq (.par [0] [1, 2] (.cons (.lst .nil) (.cons (.v 0) .nil)))
    (.seq (.while (.of (.cmp .gt (.v 2) (.c (.int 127)))) (.seq (.app [] 1 (.bin .add (.c (.int 128)) (.bin .mod (.bi .int (.cons (.v 2) .nil)) (.c (.int 128)))))
    (.asg [] (.n 2) (.bin .fdiv (.v 2) (.c (.int 128))))))
    (.ret [2] (.bin .add (.v 1) (.lst (.cons (.v 2) .nil))))))⟩
def fd__law_integer_row : FD := ⟨none, "_law_integer_row", ["number"], ["number"],
    (.ret [] (.call F__law_number_row (.cons (.ife (.of (.cmp .ge (.v 0) (.c (.int 0)))) (.bin .mul (.c (.int 2)) (.v 0)) (.bin .sub (.bin .sub (.c (.int 0)) (.bin .mul (.c (.int 2)) (.v 0))) (.c (.int 1)))) .nil)))⟩
def fd__law_name_row : FD := ⟨none, "_law_name_row", ["name", "sign"], ["name"],
    (.ret [] (.bin .add (.lst (.cons (.bi .len (.cons (.v 0) .nil)) .nil)) (.lc (.bin .add (.c (.int 97)) (.mt .sindex (.c (.str [97, 98, 99, 100, 101, 102, 103, 104, 105, 106, 107, 108, 109, 110, 111, 112, 113, 114, 115, 116, 117, 118, 119, 120, 121, 122])) (.cons (.v 1) .nil))) (.n 1) .seq (.cons (.v 0) .nil) .yes [1])))⟩
def fd__law_names_row : FD := ⟨none, "_law_names_row", ["names", "row", "name"], ["names"],
    (.seq (.asg [] (.n 1) (.call F__law_number_row (.cons (.bi .len (.cons (.v 0) .nil)) .nil)))
    (.seq (.for [0] (.n 2) .seq (.cons (.v 0) .nil) (.ext [2] 1 (.call F__law_name_row (.cons (.v 2) .nil))))
    (.retv 1)))⟩
def fd__law_kind_row : FD := ⟨none, "_law_kind_row", ["kind", "word", "row", "name", "one"], ["kind"],
    (.seq (.asg [] (.n 1) (.ix (.v 0) (.c (.int 0))))
    (.seq (.asg [] (.n 2) (.lst (.cons (.mt .lindex (.lst (.cons (.c (.str [105, 110, 116])) (.cons (.c (.str [119, 111, 114, 100])) (.cons (.c (.str [114, 101, 99])) (.cons (.c (.str [99, 104, 111, 105, 99, 101])) (.cons (.c (.str [108, 105, 115, 116])) .nil)))))) (.cons (.v 1) .nil)) .nil)))
    (.seq (.ite [] (.of (.cmp .eq (.v 1) (.c (.str [105, 110, 116])))) (.ret [] (.bin .add (.bin .add (.v 2) (.call F__law_integer_row (.cons (.ix (.v 0) (.c (.int 1))) .nil))) (.call F__law_integer_row (.cons (.ix (.v 0) (.c (.int 2))) .nil)))) .pass)
    (.seq (.ite [] (.of (.cmp .eq (.v 1) (.c (.str [119, 111, 114, 100])))) (.ret [] (.bin .add (.v 2) (.call F__law_names_row (.cons (.ix (.v 0) (.c (.int 1))) .nil)))) .pass)
    (.seq (.ite [] (.of (.cmp .eq (.v 1) (.c (.str [108, 105, 115, 116])))) (.ret [] (.bin .add (.v 2) (.call F__law_kind_row (.cons (.ix (.v 0) (.c (.int 1))) .nil)))) .pass)
    (.seq (.ext [] 2 (.call F__law_number_row (.cons (.bi .len (.cons (.ix (.v 0) (.c (.int 1))) .nil)) .nil)))
    (.seq (.for [] (.tup (.cons (.n 3) (.cons (.n 4) .nil))) .seq (.cons (.ix (.v 0) (.c (.int 1))) .nil) (.ext [3, 4] 2 (.bin .add (.call F__law_name_row (.cons (.v 3) .nil)) (.call F__law_kind_row (.cons (.v 4) .nil)))))
    (.retv 2))))))))⟩
def fd__law_great : FD := ⟨none, "_law_great", ["hand"], ["hand"],
    (.seq (.ite [0] (.of (.cmp .eq (.call F__law_draw (.cons (.v 0) (.cons (.c (.int 3)) .nil))) (.c (.int 0)))) (.ret [0] (.call F__law_some (.cons (.v 0) (.cons (.lst (.cons (.bin .sub (.bin .pow (.c (.int 10)) (.c (.int 18))) (.c (.int 1))) (.cons (.bin .sub (.c (.int 1)) (.bin .pow (.c (.int 10)) (.c (.int 18)))) (.cons (.c (.int 63)) (.cons (.c (.int 64)) (.cons (.neg (.c (.int 64))) (.cons (.neg (.c (.int 65))) (.cons (.c (.int 8191)) (.cons (.c (.int 8192)) (.cons (.bin .pow (.c (.int 10)) (.c (.int 9))) .nil)))))))))) .nil)))) .pass)
    (.ret [0] (.bin .sub (.call F__law_draw (.cons (.v 0) (.cons (.c (.int 200)) .nil))) (.c (.int 100)))))⟩
def fd__law_is_right : FD := ⟨none, "_law_is_right", ["hand", "kind", "ends", "row", "told", "within"], ["hand"],
    (.seq (.asg [0] (.n 1) (.call F__law_kind (.cons (.v 0) (.cons (.c (.int 3)) .nil))))
    (.seq (.asg [0] (.n 2) (.bi .sorted (.cons (.lst (.cons (.call F__law_great (.cons (.v 0) .nil)) (.cons (.call F__law_great (.cons (.v 0) .nil)) .nil))) .nil)))
    (.seq (.asg [1] (.n 1) (.tup (.cons (.c (.str [99, 104, 111, 105, 99, 101])) (.cons (.tup (.cons (.tup (.cons (.c (.str [115])) (.cons (.v 1) .nil))) (.cons (.tup (.cons (.c (.str [116])) (.cons (.tup (.cons (.c (.str [105, 110, 116])) (.cons (.ix (.v 2) (.c (.int 0))) (.cons (.ix (.v 2) (.c (.int 1))) .nil)))) .nil))) .nil))) .nil))))
    (.seq (.asg [1] (.n 3) (.call F__law_kind_row (.cons (.v 1) .nil)))
    (.seq (.asg [1] (.n 4) (.call F_kind_octets (.cons (.v 1) .nil)))
    (.seq (.ite [1, 4] (.or (.of (.isb false true (.call F_is_kind (.cons (.v 1) .nil)))) (.or (.of (.cmp .ne (.bi .list (.cons (.v 4) .nil)) (.v 3))) (.of (.cmp .ne (.call F_kind_of_octets (.cons (.v 4) .nil)) (.v 1))))) (.ret [] (.c (.bl false))) .pass)
    (.seq (.asg [] (.n 5) (.call F_kind_octets (.cons (.ix (.ix (.ix (.v 1) (.c (.int 1))) (.c (.int 0))) (.c (.int 1))) .nil)))
    (.seq (.ite [1] (.or (.of (.cmp .ne (.sl (.v 4) (.some (.c (.int 4))) (.some (.bin .add (.c (.int 4)) (.bi .len (.cons (.v 5) .nil))))) (.v 5))) (.of (.cmp .ne (.call F_kind_parts (.cons (.v 1) .nil)) (.bin .add (.call F_kind_parts (.cons (.ix (.ix (.ix (.v 1) (.c (.int 1))) (.c (.int 0))) (.c (.int 1))) .nil)) (.c (.int 2)))))) (.ret [] (.c (.bl false))) .pass)
    (.ret [5] (.cmp .eq (.call F_kind_of_octets (.cons (.v 5) .nil)) (.ix (.ix (.ix (.v 1) (.c (.int 1))) (.c (.int 0))) (.c (.int 1)))))))))))))⟩
def fd__law_refused : FD := ⟨none, "_law_refused", ["kind"], ["kind"],
    (.seq (.try (.ex [0] (.call F_kind_octets (.cons (.v 0) .nil))) 0 (.ret [] (.c (.bl true))))
    (.ret [] (.c (.bl false))))⟩
def fd_law : FD := ⟨none, "law", ["script", "hand", "kind", "turn"], ["script"],
    (.seq (.asg [0] (.n 1) (.call F__law_hand (.cons (.v 0) .nil)))
    (.seq (.asg [] (.n 2) (.tup (.cons (.c (.str [114, 101, 99])) (.cons (.tup (.cons (.tup (.cons (.c (.str [97])) (.cons (.tup (.cons (.c (.str [119, 111, 114, 100])) (.cons (.tup (.cons (.c (.str [98])) (.cons (.c (.str [99, 100])) .nil))) .nil))) .nil))) (.cons (.tup (.cons (.c (.str [101])) (.cons (.tup (.cons (.c (.str [108, 105, 115, 116])) (.cons (.tup (.cons (.c (.str [105, 110, 116])) (.cons (.neg (.c (.int 1))) (.cons (.c (.int 64)) .nil)))) .nil))) .nil))) .nil))) .nil))))
    (.seq (.ite [2] (.of (.cmp .ne (.bi .list (.cons (.call F_kind_octets (.cons (.v 2) .nil)) .nil)) (.lst (.cons (.c (.int 2)) (.cons (.c (.int 2)) (.cons (.c (.int 1)) (.cons (.c (.int 97)) (.cons (.c (.int 1)) (.cons (.c (.int 2)) (.cons (.c (.int 1)) (.cons (.c (.int 98)) (.cons (.c (.int 2)) (.cons (.c (.int 99)) (.cons (.c (.int 100)) (.cons (.c (.int 1)) (.cons (.c (.int 101)) (.cons (.c (.int 4)) (.cons (.c (.int 0)) (.cons (.c (.int 1)) (.cons (.c (.int 128)) (.cons (.c (.int 1)) .nil))))))))))))))))))))) (.ret [] (.c (.bl false))) .pass)
    (.seq (.ite [] (.or (.not (.of (.call F__law_refused (.cons (.tup (.cons (.c (.str [105, 110, 116])) (.cons (.c (.int 1)) (.cons (.c (.int 0)) .nil)))) .nil)))) (.not (.of (.call F__law_refused (.cons (.c .non) .nil))))) (.ret [] (.c (.bl false))) .pass)
    (.ret [1] (.bi .all (.cons (.lc (.call F__law_is_right (.cons (.v 1) .nil)) (.n 3) .rng (.cons (.c (.int 8)) .nil) .yes [3]) .nil)))))))⟩
def fds : List FD := [fd_is_integer, fd_is_short_integer, fd_is_name, fd_is_told, fd_rises, fd_are_names, fd_are_pairs, fd_kinds_right_within, fd_has_key, fd_is_kind, fd_check_kind, fd_raw_kind_parts, fd_kind_parts, fd_number_octets, fd_integer_octets, fd_name_octets, fd_names_octets, fd_raw_kind_octets, fd_kind_octets, fd_OctetReader_init, fd_OctetReader_fail_here, fd_OctetReader_take_octet, fd_OctetReader_take_word, fd_OctetReader_take_number, fd_OctetReader_take_integer, fd_OctetReader_take_name, fd_OctetReader_take_many, fd_OctetReader_take_names, fd_OctetReader_go_deep, fd_OctetReader_go_up, fd_OctetReader_take_kind, fd_OctetReader_close, fd_kind_of_octets, fd__law_hand, fd__law_draw, fd__law_some, fd__law_kind, fd__law_number_row, fd__law_integer_row, fd__law_name_row, fd__law_names_row, fd__law_kind_row, fd__law_great, fd__law_is_right, fd__law_refused, fd_law]
def Γ : Gam := ⟨fds, ["all_octets", "octet_at", "deep_now", "place"], ["fail_here", "take_octet", "take_number", "take_name", "take_many", "go_deep", "take_word", "go_up", "take_integer", "take_names", "take_kind", "close"], [⟨"OctetReader", 19, [(0, 20), (1, 21), (6, 22), (2, 23), (8, 24), (3, 25), (4, 26), (9, 27), (5, 28), (7, 29), (10, 30), (11, 31)]⟩], [⟨"NoKind", []⟩, ⟨"BadOctets", [3]⟩], [("MOST_INTEGER", .int 1000000000000000000), ("LETTERS", .str [97, 98, 99, 100, 101, 102, 103, 104, 105, 106, 107, 108, 109, 110, 111, 112, 113, 114, 115, 116, 117, 118, 119, 120, 121, 122]), ("MOST_NAME", .int 12), ("INT", .str [105, 110, 116]), ("WORD", .str [119, 111, 114, 100]), ("MOST_WORDS", .int 12), ("REC", .str [114, 101, 99]), ("MOST_FIELDS", .int 8), ("CHOICE", .str [99, 104, 111, 105, 99, 101]), ("LIST", .str [108, 105, 115, 116]), ("KEYED", .str [107, 101, 121, 101, 100]), ("MOST_DEEP", .int 12), ("MOST_PARTS", .int 60), ("BASE", .int 128), ("KIND_WORDS", .tup [(.str [105, 110, 116]), (.str [119, 111, 114, 100]), (.str [114, 101, 99]), (.str [99, 104, 111, 105, 99, 101]), (.str [108, 105, 115, 116]), (.str [107, 101, 121, 101, 100])]), ("MOST_SHIFTS", .int 10), ("FIRST_SIGN", .int 97), ("MOST_LEVELS", .int 24)], 1000000⟩
def top (i : Nat) : Stmt := PySem.Challenge.pw_glasskept_k60_whole_kinds_as_octets.main.body.getD i (.Pass ⟨0, 0, 0, 0⟩)
def d0 : He.DefD := ⟨("is_integer", none), "is_integer", "is_integer", defArgs (top 19), defBody (top 19), defScope (top 19), [], []⟩
def d1 : He.DefD := ⟨("is_short_integer", none), "is_short_integer", "is_short_integer", defArgs (top 20), defBody (top 20), defScope (top 20), [], []⟩
def d2 : He.DefD := ⟨("is_name", none), "is_name", "is_name", defArgs (top 21), defBody (top 21), defScope (top 21), [], []⟩
def d3 : He.DefD := ⟨("is_told", none), "is_told", "is_told", defArgs (top 22), defBody (top 22), defScope (top 22), [], []⟩
def d4 : He.DefD := ⟨("rises", none), "rises", "rises", defArgs (top 23), defBody (top 23), defScope (top 23), [], []⟩
def d5 : He.DefD := ⟨("are_names", none), "are_names", "are_names", defArgs (top 24), defBody (top 24), defScope (top 24), [], []⟩
def d6 : He.DefD := ⟨("are_pairs", none), "are_pairs", "are_pairs", defArgs (top 25), defBody (top 25), defScope (top 25), [], []⟩
def d7 : He.DefD := ⟨("kinds_right_within", none), "kinds_right_within", "kinds_right_within", defArgs (top 26), defBody (top 26), defScope (top 26), [], []⟩
def d8 : He.DefD := ⟨("has_key", none), "has_key", "has_key", defArgs (top 27), defBody (top 27), defScope (top 27), [], []⟩
def d9 : He.DefD := ⟨("is_kind", none), "is_kind", "is_kind", defArgs (top 28), defBody (top 28), defScope (top 28), [], []⟩
def d10 : He.DefD := ⟨("check_kind", none), "check_kind", "check_kind", defArgs (top 29), defBody (top 29), defScope (top 29), [], []⟩
def d11 : He.DefD := ⟨("raw_kind_parts", none), "raw_kind_parts", "raw_kind_parts", defArgs (top 30), defBody (top 30), defScope (top 30), [], []⟩
def d12 : He.DefD := ⟨("kind_parts", none), "kind_parts", "kind_parts", defArgs (top 31), defBody (top 31), defScope (top 31), [], []⟩
def d13 : He.DefD := ⟨("number_octets", none), "number_octets", "number_octets", defArgs (top 35), defBody (top 35), defScope (top 35), [], []⟩
def d14 : He.DefD := ⟨("integer_octets", none), "integer_octets", "integer_octets", defArgs (top 36), defBody (top 36), defScope (top 36), [], []⟩
def d15 : He.DefD := ⟨("name_octets", none), "name_octets", "name_octets", defArgs (top 37), defBody (top 37), defScope (top 37), [], []⟩
def d16 : He.DefD := ⟨("names_octets", none), "names_octets", "names_octets", defArgs (top 38), defBody (top 38), defScope (top 38), [], []⟩
def d17 : He.DefD := ⟨("raw_kind_octets", none), "raw_kind_octets", "raw_kind_octets", defArgs (top 39), defBody (top 39), defScope (top 39), [], []⟩
def d18 : He.DefD := ⟨("kind_octets", none), "kind_octets", "kind_octets", defArgs (top 40), defBody (top 40), defScope (top 40), [], []⟩
def d19 : He.DefD := ⟨("OctetReader", some "__init__"), "__init__", "OctetReader.__init__", defArgs (inClass (top 45) 0), defBody (inClass (top 45) 0), defScope (inClass (top 45) 0), [], []⟩
def d20 : He.DefD := ⟨("OctetReader", some "fail_here"), "fail_here", "OctetReader.fail_here", defArgs (inClass (top 45) 1), defBody (inClass (top 45) 1), defScope (inClass (top 45) 1), [], []⟩
def d21 : He.DefD := ⟨("OctetReader", some "take_octet"), "take_octet", "OctetReader.take_octet", defArgs (inClass (top 45) 2), defBody (inClass (top 45) 2), defScope (inClass (top 45) 2), [], []⟩
def d22 : He.DefD := ⟨("OctetReader", some "take_word"), "take_word", "OctetReader.take_word", defArgs (inClass (top 45) 3), defBody (inClass (top 45) 3), defScope (inClass (top 45) 3), [], []⟩
def d23 : He.DefD := ⟨("OctetReader", some "take_number"), "take_number", "OctetReader.take_number", defArgs (inClass (top 45) 4), defBody (inClass (top 45) 4), defScope (inClass (top 45) 4), [], []⟩
def d24 : He.DefD := ⟨("OctetReader", some "take_integer"), "take_integer", "OctetReader.take_integer", defArgs (inClass (top 45) 5), defBody (inClass (top 45) 5), defScope (inClass (top 45) 5), [], []⟩
def d25 : He.DefD := ⟨("OctetReader", some "take_name"), "take_name", "OctetReader.take_name", defArgs (inClass (top 45) 6), defBody (inClass (top 45) 6), defScope (inClass (top 45) 6), [], []⟩
def d26 : He.DefD := ⟨("OctetReader", some "take_many"), "take_many", "OctetReader.take_many", defArgs (inClass (top 45) 7), defBody (inClass (top 45) 7), defScope (inClass (top 45) 7), [], []⟩
def d27 : He.DefD := ⟨("OctetReader", some "take_names"), "take_names", "OctetReader.take_names", defArgs (inClass (top 45) 8), defBody (inClass (top 45) 8), defScope (inClass (top 45) 8), [], []⟩
def d28 : He.DefD := ⟨("OctetReader", some "go_deep"), "go_deep", "OctetReader.go_deep", defArgs (inClass (top 45) 9), defBody (inClass (top 45) 9), defScope (inClass (top 45) 9), [], []⟩
def d29 : He.DefD := ⟨("OctetReader", some "go_up"), "go_up", "OctetReader.go_up", defArgs (inClass (top 45) 10), defBody (inClass (top 45) 10), defScope (inClass (top 45) 10), [], []⟩
def d30 : He.DefD := ⟨("OctetReader", some "take_kind"), "take_kind", "OctetReader.take_kind", defArgs (inClass (top 45) 11), defBody (inClass (top 45) 11), defScope (inClass (top 45) 11), [], []⟩
def d31 : He.DefD := ⟨("OctetReader", some "close"), "close", "OctetReader.close", defArgs (inClass (top 45) 18), defBody (inClass (top 45) 18), defScope (inClass (top 45) 18), [], []⟩
def d32 : He.DefD := ⟨("kind_of_octets", none), "kind_of_octets", "kind_of_octets", defArgs (top 46), defBody (top 46), defScope (top 46), [], []⟩
def d33 : He.DefD := ⟨("_law_hand", none), "_law_hand", "_law_hand", defArgs (top 48), defBody (top 48), defScope (top 48), [], []⟩
def d34 : He.DefD := ⟨("_law_draw", none), "_law_draw", "_law_draw", defArgs (top 49), defBody (top 49), defScope (top 49), [], []⟩
def d35 : He.DefD := ⟨("_law_some", none), "_law_some", "_law_some", defArgs (top 50), defBody (top 50), defScope (top 50), [], []⟩
def d36 : He.DefD := ⟨("_law_kind", none), "_law_kind", "_law_kind", defArgs (top 51), defBody (top 51), defScope (top 51), [], []⟩
def d37 : He.DefD := ⟨("_law_number_row", none), "_law_number_row", "_law_number_row", defArgs (top 64), defBody (top 64), defScope (top 64), [], []⟩
def d38 : He.DefD := ⟨("_law_integer_row", none), "_law_integer_row", "_law_integer_row", defArgs (top 65), defBody (top 65), defScope (top 65), [], []⟩
def d39 : He.DefD := ⟨("_law_name_row", none), "_law_name_row", "_law_name_row", defArgs (top 66), defBody (top 66), defScope (top 66), [], []⟩
def d40 : He.DefD := ⟨("_law_names_row", none), "_law_names_row", "_law_names_row", defArgs (top 67), defBody (top 67), defScope (top 67), [], []⟩
def d41 : He.DefD := ⟨("_law_kind_row", none), "_law_kind_row", "_law_kind_row", defArgs (top 68), defBody (top 68), defScope (top 68), [], []⟩
def d42 : He.DefD := ⟨("_law_great", none), "_law_great", "_law_great", defArgs (top 71), defBody (top 71), defScope (top 71), [], []⟩
def d43 : He.DefD := ⟨("_law_is_right", none), "_law_is_right", "_law_is_right", defArgs (top 72), defBody (top 72), defScope (top 72), [], []⟩
def d44 : He.DefD := ⟨("_law_refused", none), "_law_refused", "_law_refused", defArgs (top 73), defBody (top 73), defScope (top 73), [], []⟩
def d45 : He.DefD := ⟨("law", none), "law", "law", defArgs (top 74), defBody (top 74), defScope (top 74), [], []⟩
def dI : He.DefD := ⟨("GlassError", some "__init__"), "__init__", "GlassError.__init__", defArgs (inClass (top 2) 0), defBody (inClass (top 2) 0), defScope (inClass (top 2) 0), [], []⟩
def ds : List He.DefD := [d0, d1, d2, d3, d4, d5, d6, d7, d8, d9, d10, d11, d12, d13, d14, d15, d16, d17, d18, d19, d20, d21, d22, d23, d24, d25, d26, d27, d28, d29, d30, d31, d32, d33, d34, d35, d36, d37, d38, d39, d40, d41, d42, d43, d44, d45]
def bn : Str := "GlassError"
theorem b0 : BindOk d0 fd_is_integer.ps := fun _ _ _ _ _ _ us hl => match us, hl with | [_], _ => rfl
theorem b1 : BindOk d1 fd_is_short_integer.ps := fun _ _ _ _ _ _ us hl => match us, hl with | [_], _ => rfl
theorem b2 : BindOk d2 fd_is_name.ps := fun _ _ _ _ _ _ us hl => match us, hl with | [_], _ => rfl
theorem b3 : BindOk d3 fd_is_told.ps := fun _ _ _ _ _ _ us hl => match us, hl with | [_, _, _], _ => rfl
theorem b4 : BindOk d4 fd_rises.ps := fun _ _ _ _ _ _ us hl => match us, hl with | [_], _ => rfl
theorem b5 : BindOk d5 fd_are_names.ps := fun _ _ _ _ _ _ us hl => match us, hl with | [_, _, _], _ => rfl
theorem b6 : BindOk d6 fd_are_pairs.ps := fun _ _ _ _ _ _ us hl => match us, hl with | [_, _, _], _ => rfl
theorem b7 : BindOk d7 fd_kinds_right_within.ps := fun _ _ _ _ _ _ us hl => match us, hl with | [_], _ => rfl
theorem b8 : BindOk d8 fd_has_key.ps := fun _ _ _ _ _ _ us hl => match us, hl with | [_], _ => rfl
theorem b9 : BindOk d9 fd_is_kind.ps := fun _ _ _ _ _ _ us hl => match us, hl with | [_], _ => rfl
theorem b10 : BindOk d10 fd_check_kind.ps := fun _ _ _ _ _ _ us hl => match us, hl with | [_], _ => rfl
theorem b11 : BindOk d11 fd_raw_kind_parts.ps := fun _ _ _ _ _ _ us hl => match us, hl with | [_], _ => rfl
theorem b12 : BindOk d12 fd_kind_parts.ps := fun _ _ _ _ _ _ us hl => match us, hl with | [_], _ => rfl
theorem b13 : BindOk d13 fd_number_octets.ps := fun _ _ _ _ _ _ us hl => match us, hl with | [_], _ => rfl
theorem b14 : BindOk d14 fd_integer_octets.ps := fun _ _ _ _ _ _ us hl => match us, hl with | [_], _ => rfl
theorem b15 : BindOk d15 fd_name_octets.ps := fun _ _ _ _ _ _ us hl => match us, hl with | [_], _ => rfl
theorem b16 : BindOk d16 fd_names_octets.ps := fun _ _ _ _ _ _ us hl => match us, hl with | [_], _ => rfl
theorem b17 : BindOk d17 fd_raw_kind_octets.ps := fun _ _ _ _ _ _ us hl => match us, hl with | [_], _ => rfl
theorem b18 : BindOk d18 fd_kind_octets.ps := fun _ _ _ _ _ _ us hl => match us, hl with | [_], _ => rfl
theorem b19 : BindOk d19 fd_OctetReader_init.ps := fun _ _ _ _ _ _ us hl => match us, hl with | [_, _], _ => rfl
theorem b20 : BindOk d20 fd_OctetReader_fail_here.ps := fun _ _ _ _ _ _ us hl => match us, hl with | [_], _ => rfl
theorem b21 : BindOk d21 fd_OctetReader_take_octet.ps := fun _ _ _ _ _ _ us hl => match us, hl with | [_], _ => rfl
theorem b22 : BindOk d22 fd_OctetReader_take_word.ps := fun _ _ _ _ _ _ us hl => match us, hl with | [_, _], _ => rfl
theorem b23 : BindOk d23 fd_OctetReader_take_number.ps := fun _ _ _ _ _ _ us hl => match us, hl with | [_], _ => rfl
theorem b24 : BindOk d24 fd_OctetReader_take_integer.ps := fun _ _ _ _ _ _ us hl => match us, hl with | [_], _ => rfl
theorem b25 : BindOk d25 fd_OctetReader_take_name.ps := fun _ _ _ _ _ _ us hl => match us, hl with | [_], _ => rfl
theorem b26 : BindOk d26 fd_OctetReader_take_many.ps := fun _ _ _ _ _ _ us hl => match us, hl with | [_], _ => rfl
theorem b27 : BindOk d27 fd_OctetReader_take_names.ps := fun _ _ _ _ _ _ us hl => match us, hl with | [_], _ => rfl
theorem b28 : BindOk d28 fd_OctetReader_go_deep.ps := fun _ _ _ _ _ _ us hl => match us, hl with | [_], _ => rfl
theorem b29 : BindOk d29 fd_OctetReader_go_up.ps := fun _ _ _ _ _ _ us hl => match us, hl with | [_, _], _ => rfl
theorem b30 : BindOk d30 fd_OctetReader_take_kind.ps := fun _ _ _ _ _ _ us hl => match us, hl with | [_], _ => rfl
theorem b31 : BindOk d31 fd_OctetReader_close.ps := fun _ _ _ _ _ _ us hl => match us, hl with | [_, _], _ => rfl
theorem b32 : BindOk d32 fd_kind_of_octets.ps := fun _ _ _ _ _ _ us hl => match us, hl with | [_], _ => rfl
theorem b33 : BindOk d33 fd__law_hand.ps := fun _ _ _ _ _ _ us hl => match us, hl with | [_], _ => rfl
theorem b34 : BindOk d34 fd__law_draw.ps := fun _ _ _ _ _ _ us hl => match us, hl with | [_, _], _ => rfl
theorem b35 : BindOk d35 fd__law_some.ps := fun _ _ _ _ _ _ us hl => match us, hl with | [_, _], _ => rfl
theorem b36 : BindOk d36 fd__law_kind.ps := fun _ _ _ _ _ _ us hl => match us, hl with | [_, _], _ => rfl
theorem b37 : BindOk d37 fd__law_number_row.ps := fun _ _ _ _ _ _ us hl => match us, hl with | [_], _ => rfl
theorem b38 : BindOk d38 fd__law_integer_row.ps := fun _ _ _ _ _ _ us hl => match us, hl with | [_], _ => rfl
theorem b39 : BindOk d39 fd__law_name_row.ps := fun _ _ _ _ _ _ us hl => match us, hl with | [_], _ => rfl
theorem b40 : BindOk d40 fd__law_names_row.ps := fun _ _ _ _ _ _ us hl => match us, hl with | [_], _ => rfl
theorem b41 : BindOk d41 fd__law_kind_row.ps := fun _ _ _ _ _ _ us hl => match us, hl with | [_], _ => rfl
theorem b42 : BindOk d42 fd__law_great.ps := fun _ _ _ _ _ _ us hl => match us, hl with | [_], _ => rfl
theorem b43 : BindOk d43 fd__law_is_right.ps := fun _ _ _ _ _ _ us hl => match us, hl with | [_], _ => rfl
theorem b44 : BindOk d44 fd__law_refused.ps := fun _ _ _ _ _ _ us hl => match us, hl with | [_], _ => rfl
theorem b45 : BindOk d45 fd_law.ps := fun _ _ _ _ _ _ us hl => match us, hl with | [_], _ => rfl
theorem bI : BindOk dI ["self"] := fun _ _ _ _ _ _ us hl => match us, hl with | [_], _ => rfl
theorem bAll : BindAll Γ.fds ds := .cons b0 (.cons b1 (.cons b2 (.cons b3 (.cons b4 (.cons b5 (.cons b6 (.cons b7 (.cons b8 (.cons b9 (.cons b10 (.cons b11 (.cons b12 (.cons b13 (.cons b14 (.cons b15 (.cons b16 (.cons b17 (.cons b18 (.cons b19 (.cons b20 (.cons b21 (.cons b22 (.cons b23 (.cons b24 (.cons b25 (.cons b26 (.cons b27 (.cons b28 (.cons b29 (.cons b30 (.cons b31 (.cons b32 (.cons b33 (.cons b34 (.cons b35 (.cons b36 (.cons b37 (.cons b38 (.cons b39 (.cons b40 (.cons b41 (.cons b42 (.cons b43 (.cons b44 (.cons b45 (.nil))))))))))))))))))))))))))))))))))))))))))))))
def nm0 : List Str := ["_wall", "GlassError", "NoKind", "BadOctets", "INT", "WORD", "REC", "CHOICE", "LIST", "KEYED", "LETTERS", "MOST_NAME", "MOST_INTEGER", "MOST_WORDS", "MOST_FIELDS", "MOST_PARTS", "MOST_DEEP", "is_integer", "is_short_integer", "is_name", "is_told", "rises", "are_names", "are_pairs", "kinds_right_within", "has_key", "is_kind", "check_kind", "raw_kind_parts", "kind_parts"]
def nm1 : List Str := ["KIND_WORDS", "BASE", "number_octets", "integer_octets", "name_octets", "names_octets", "raw_kind_octets", "kind_octets", "MOST_LEVELS", "FIRST_SIGN", "MOST_SHIFTS", "OctetReader", "kind_of_octets", "_law_hand", "_law_draw", "_law_some", "_law_kind", "_law_ints", "_law_rows", "_law_longer", "_law_small", "_law_narrow", "_law_other", "_law_narrowed", "_law_one", "_law_names", "_law_rec_glass", "_law_glass", "_law_seen", "_law_number_row"]
def nm2 : List Str := ["_law_integer_row", "_law_name_row", "_law_names_row", "_law_kind_row", "_law_value_row", "_law_values_row", "_law_great", "_law_is_right", "_law_refused"]
def names : List Str := nm0 ++ nm1 ++ nm2
theorem num : numB Γ = true := by decide +kernel
theorem lawD : LawD Γ bn ds dI F_law where
  num := num
  defs := by kernel_rfl
  bind := bAll
  ini := by kernel_rfl
  at_ := rfl
  bindI := bI
  law := ⟨fd_law, rfl, rfl, rfl, rfl⟩
abbrev Rw : PySem.W.OpenRow := PySem.W.OpenLaw.row PySem.Challenge.rw_glasskept_k60_whole_kinds_as_octets
abbrev hk : PySem.W.Hook := hookG 5 (dI :: ds) (exB Γ bn)
def ob (s : PySem.W.SharedT) : He.AlD × Bool := obG 5 (dI :: ds) (exB Γ bn) (HandSHeadRun.getT s)
theorem ob_eq (s : PySem.W.SharedT) : ob s = hk.obs s.abs := obG_eq (HandSHeadRun.getT_eq s)
theorem run (w : World) : HandSHeadRun.RunEq Rw (PySem.W.view Rw.prog [74]) hk ob 20000 names w := by
  intro os
  kernel_rfl
end D

set_option Elab.async false
set_option linter.all false
set_option maxRecDepth 100000
set_option maxHeartbeats 0
namespace D
open PySem G
theorem c_is_integer (n : Nat) (a0 : T) : callF Γ (n + 1) F_is_integer [a0] = retOf (evS Γ ⟨callF Γ n, callF Γ (n - 1)⟩ fd_is_integer.body [.va a0]) := by rw [callF_succ]; rfl
theorem c_is_short_integer (n : Nat) (a0 : T) : callF Γ (n + 1) F_is_short_integer [a0] = retOf (evS Γ ⟨callF Γ n, callF Γ (n - 1)⟩ fd_is_short_integer.body [.va a0]) := by rw [callF_succ]; rfl
theorem c_is_name (n : Nat) (a0 : T) : callF Γ (n + 1) F_is_name [a0] = retOf (evS Γ ⟨callF Γ n, callF Γ (n - 1)⟩ fd_is_name.body [.va a0, .un]) := by rw [callF_succ]; rfl
theorem c_is_told (n : Nat) (a0 : T) (a1 : T) (a2 : T) : callF Γ (n + 1) F_is_told [a0, a1, a2] = retOf (evS Γ ⟨callF Γ n, callF Γ (n - 1)⟩ fd_is_told.body [.va a0, .va a1, .va a2]) := by rw [callF_succ]; rfl
theorem c_rises (n : Nat) (a0 : T) : callF Γ (n + 1) F_rises [a0] = retOf (evS Γ ⟨callF Γ n, callF Γ (n - 1)⟩ fd_rises.body [.va a0, .un, .un]) := by rw [callF_succ]; rfl
theorem c_are_names (n : Nat) (a0 : T) (a1 : T) (a2 : T) : callF Γ (n + 1) F_are_names [a0, a1, a2] = retOf (evS Γ ⟨callF Γ n, callF Γ (n - 1)⟩ fd_are_names.body [.va a0, .va a1, .va a2, .un]) := by rw [callF_succ]; rfl
theorem c_are_pairs (n : Nat) (a0 : T) (a1 : T) (a2 : T) : callF Γ (n + 1) F_are_pairs [a0, a1, a2] = retOf (evS Γ ⟨callF Γ n, callF Γ (n - 1)⟩ fd_are_pairs.body [.va a0, .va a1, .va a2, .un]) := by rw [callF_succ]; rfl
theorem c_kinds_right_within (n : Nat) (a0 : T) : callF Γ (n + 1) F_kinds_right_within [a0] = retOf (evS Γ ⟨callF Γ n, callF Γ (n - 1)⟩ fd_kinds_right_within.body [.va a0, .un, .un]) := by rw [callF_succ]; rfl
theorem c_has_key (n : Nat) (a0 : T) : callF Γ (n + 1) F_has_key [a0] = retOf (evS Γ ⟨callF Γ n, callF Γ (n - 1)⟩ fd_has_key.body [.va a0, .un, .un, .un]) := by rw [callF_succ]; rfl
theorem c_is_kind (n : Nat) (a0 : T) : callF Γ (n + 1) F_is_kind [a0] = retOf (evS Γ ⟨callF Γ n, callF Γ (n - 1)⟩ fd_is_kind.body [.va a0, .un, .un, .un, .un, .un, .un, .un]) := by rw [callF_succ]; rfl
theorem c_check_kind (n : Nat) (a0 : T) : callF Γ (n + 1) F_check_kind [a0] = retOf (evS Γ ⟨callF Γ n, callF Γ (n - 1)⟩ fd_check_kind.body [.va a0]) := by rw [callF_succ]; rfl
theorem c_raw_kind_parts (n : Nat) (a0 : T) : callF Γ (n + 1) F_raw_kind_parts [a0] = retOf (evS Γ ⟨callF Γ n, callF Γ (n - 1)⟩ fd_raw_kind_parts.body [.va a0, .un]) := by rw [callF_succ]; rfl
theorem c_kind_parts (n : Nat) (a0 : T) : callF Γ (n + 1) F_kind_parts [a0] = retOf (evS Γ ⟨callF Γ n, callF Γ (n - 1)⟩ fd_kind_parts.body [.va a0]) := by rw [callF_succ]; rfl
theorem c_number_octets (n : Nat) (a0 : T) : callF Γ (n + 1) F_number_octets [a0] = retOf (evS Γ ⟨callF Γ n, callF Γ (n - 1)⟩ fd_number_octets.body [.va a0, .un]) := by rw [callF_succ]; rfl
theorem c_integer_octets (n : Nat) (a0 : T) : callF Γ (n + 1) F_integer_octets [a0] = retOf (evS Γ ⟨callF Γ n, callF Γ (n - 1)⟩ fd_integer_octets.body [.va a0]) := by rw [callF_succ]; rfl
theorem c_name_octets (n : Nat) (a0 : T) : callF Γ (n + 1) F_name_octets [a0] = retOf (evS Γ ⟨callF Γ n, callF Γ (n - 1)⟩ fd_name_octets.body [.va a0, .un]) := by rw [callF_succ]; rfl
theorem c_names_octets (n : Nat) (a0 : T) : callF Γ (n + 1) F_names_octets [a0] = retOf (evS Γ ⟨callF Γ n, callF Γ (n - 1)⟩ fd_names_octets.body [.va a0, .un, .un]) := by rw [callF_succ]; rfl
theorem c_raw_kind_octets (n : Nat) (a0 : T) : callF Γ (n + 1) F_raw_kind_octets [a0] = retOf (evS Γ ⟨callF Γ n, callF Γ (n - 1)⟩ fd_raw_kind_octets.body [.va a0, .un, .un, .un]) := by rw [callF_succ]; rfl
theorem c_kind_octets (n : Nat) (a0 : T) : callF Γ (n + 1) F_kind_octets [a0] = retOf (evS Γ ⟨callF Γ n, callF Γ (n - 1)⟩ fd_kind_octets.body [.va a0]) := by rw [callF_succ]; rfl
theorem c_OctetReader_init (n : Nat) (a0 : T) (a1 : T) : callF Γ (n + 1) F_OctetReader_init [a0, a1] = retOf (evS Γ ⟨callF Γ n, callF Γ (n - 1)⟩ fd_OctetReader_init.body [.va a0, .va a1]) := by rw [callF_succ]; rfl
theorem c_OctetReader_fail_here (n : Nat) (a0 : T) : callF Γ (n + 1) F_OctetReader_fail_here [a0] = retOf (evS Γ ⟨callF Γ n, callF Γ (n - 1)⟩ fd_OctetReader_fail_here.body [.va a0]) := by rw [callF_succ]; rfl
theorem c_OctetReader_take_octet (n : Nat) (a0 : T) : callF Γ (n + 1) F_OctetReader_take_octet [a0] = retOf (evS Γ ⟨callF Γ n, callF Γ (n - 1)⟩ fd_OctetReader_take_octet.body [.va a0]) := by rw [callF_succ]; rfl
theorem c_OctetReader_take_word (n : Nat) (a0 : T) (a1 : T) : callF Γ (n + 1) F_OctetReader_take_word [a0, a1] = retOf (evS Γ ⟨callF Γ n, callF Γ (n - 1)⟩ fd_OctetReader_take_word.body [.va a0, .va a1, .un]) := by rw [callF_succ]; rfl
theorem c_OctetReader_take_number (n : Nat) (a0 : T) : callF Γ (n + 1) F_OctetReader_take_number [a0] = retOf (evS Γ ⟨callF Γ n, callF Γ (n - 1)⟩ fd_OctetReader_take_number.body [.va a0, .un, .un, .un, .un, .un]) := by rw [callF_succ]; rfl
theorem c_OctetReader_take_integer (n : Nat) (a0 : T) : callF Γ (n + 1) F_OctetReader_take_integer [a0] = retOf (evS Γ ⟨callF Γ n, callF Γ (n - 1)⟩ fd_OctetReader_take_integer.body [.va a0, .un]) := by rw [callF_succ]; rfl
theorem c_OctetReader_take_name (n : Nat) (a0 : T) : callF Γ (n + 1) F_OctetReader_take_name [a0] = retOf (evS Γ ⟨callF Γ n, callF Γ (n - 1)⟩ fd_OctetReader_take_name.body [.va a0, .un, .un, .un, .un]) := by rw [callF_succ]; rfl
theorem c_OctetReader_take_many (n : Nat) (a0 : T) : callF Γ (n + 1) F_OctetReader_take_many [a0] = retOf (evS Γ ⟨callF Γ n, callF Γ (n - 1)⟩ fd_OctetReader_take_many.body [.va a0, .un, .un]) := by rw [callF_succ]; rfl
theorem c_OctetReader_take_names (n : Nat) (a0 : T) : callF Γ (n + 1) F_OctetReader_take_names [a0] = retOf (evS Γ ⟨callF Γ n, callF Γ (n - 1)⟩ fd_OctetReader_take_names.body [.va a0, .un]) := by rw [callF_succ]; rfl
theorem c_OctetReader_go_deep (n : Nat) (a0 : T) : callF Γ (n + 1) F_OctetReader_go_deep [a0] = retOf (evS Γ ⟨callF Γ n, callF Γ (n - 1)⟩ fd_OctetReader_go_deep.body [.va a0]) := by rw [callF_succ]; rfl
theorem c_OctetReader_go_up (n : Nat) (a0 : T) (a1 : T) : callF Γ (n + 1) F_OctetReader_go_up [a0, a1] = retOf (evS Γ ⟨callF Γ n, callF Γ (n - 1)⟩ fd_OctetReader_go_up.body [.va a0, .va a1]) := by rw [callF_succ]; rfl
theorem c_OctetReader_take_kind (n : Nat) (a0 : T) : callF Γ (n + 1) F_OctetReader_take_kind [a0] = retOf (evS Γ ⟨callF Γ n, callF Γ (n - 1)⟩ fd_OctetReader_take_kind.body [.va a0, .un, .un, .un, .un, .un]) := by rw [callF_succ]; rfl
theorem c_OctetReader_close (n : Nat) (a0 : T) (a1 : T) : callF Γ (n + 1) F_OctetReader_close [a0, a1] = retOf (evS Γ ⟨callF Γ n, callF Γ (n - 1)⟩ fd_OctetReader_close.body [.va a0, .va a1]) := by rw [callF_succ]; rfl
theorem c_kind_of_octets (n : Nat) (a0 : T) : callF Γ (n + 1) F_kind_of_octets [a0] = retOf (evS Γ ⟨callF Γ n, callF Γ (n - 1)⟩ fd_kind_of_octets.body [.va a0, .un, .un]) := by rw [callF_succ]; rfl
theorem c__law_hand (n : Nat) (a0 : T) : callF Γ (n + 1) F__law_hand [a0] = retOf (evS Γ ⟨callF Γ n, callF Γ (n - 1)⟩ fd__law_hand.body [.va a0, .un, .un]) := by rw [callF_succ]; rfl
theorem c__law_draw (n : Nat) (a0 : T) (a1 : T) : callF Γ (n + 1) F__law_draw [a0, a1] = retOf (evS Γ ⟨callF Γ n, callF Γ (n - 1)⟩ fd__law_draw.body [.va a0, .va a1, .un, .un, .un]) := by rw [callF_succ]; rfl
theorem c__law_some (n : Nat) (a0 : T) (a1 : T) : callF Γ (n + 1) F__law_some [a0, a1] = retOf (evS Γ ⟨callF Γ n, callF Γ (n - 1)⟩ fd__law_some.body [.va a0, .va a1]) := by rw [callF_succ]; rfl
theorem c__law_kind (n : Nat) (a0 : T) (a1 : T) : callF Γ (n + 1) F__law_kind [a0, a1] = retOf (evS Γ ⟨callF Γ n, callF Γ (n - 1)⟩ fd__law_kind.body [.va a0, .va a1, .un, .un, .un, .un, .un, .un]) := by rw [callF_succ]; rfl
theorem c__law_number_row (n : Nat) (a0 : T) : callF Γ (n + 1) F__law_number_row [a0] = retOf (evS Γ ⟨callF Γ n, callF Γ (n - 1)⟩ fd__law_number_row.body [.va a0, .un, .un]) := by rw [callF_succ]; rfl
theorem c__law_integer_row (n : Nat) (a0 : T) : callF Γ (n + 1) F__law_integer_row [a0] = retOf (evS Γ ⟨callF Γ n, callF Γ (n - 1)⟩ fd__law_integer_row.body [.va a0]) := by rw [callF_succ]; rfl
theorem c__law_name_row (n : Nat) (a0 : T) : callF Γ (n + 1) F__law_name_row [a0] = retOf (evS Γ ⟨callF Γ n, callF Γ (n - 1)⟩ fd__law_name_row.body [.va a0, .un]) := by rw [callF_succ]; rfl
theorem c__law_names_row (n : Nat) (a0 : T) : callF Γ (n + 1) F__law_names_row [a0] = retOf (evS Γ ⟨callF Γ n, callF Γ (n - 1)⟩ fd__law_names_row.body [.va a0, .un, .un]) := by rw [callF_succ]; rfl
theorem c__law_kind_row (n : Nat) (a0 : T) : callF Γ (n + 1) F__law_kind_row [a0] = retOf (evS Γ ⟨callF Γ n, callF Γ (n - 1)⟩ fd__law_kind_row.body [.va a0, .un, .un, .un, .un]) := by rw [callF_succ]; rfl
theorem c__law_great (n : Nat) (a0 : T) : callF Γ (n + 1) F__law_great [a0] = retOf (evS Γ ⟨callF Γ n, callF Γ (n - 1)⟩ fd__law_great.body [.va a0]) := by rw [callF_succ]; rfl
theorem c__law_is_right (n : Nat) (a0 : T) : callF Γ (n + 1) F__law_is_right [a0] = retOf (evS Γ ⟨callF Γ n, callF Γ (n - 1)⟩ fd__law_is_right.body [.va a0, .un, .un, .un, .un, .un]) := by rw [callF_succ]; rfl
theorem c__law_refused (n : Nat) (a0 : T) : callF Γ (n + 1) F__law_refused [a0] = retOf (evS Γ ⟨callF Γ n, callF Γ (n - 1)⟩ fd__law_refused.body [.va a0]) := by rw [callF_succ]; rfl
theorem c_law (n : Nat) (a0 : T) : callF Γ (n + 1) F_law [a0] = retOf (evS Γ ⟨callF Γ n, callF Γ (n - 1)⟩ fd_law.body [.va a0, .un, .un, .un]) := by rw [callF_succ]; rfl
theorem g_0 : Γ.gls[0]? = some (("MOST_INTEGER" : Str), ((.int 1000000000000000000) : T)) := rfl
theorem g_1 : Γ.gls[1]? = some (("LETTERS" : Str), ((.str [97, 98, 99, 100, 101, 102, 103, 104, 105, 106, 107, 108, 109, 110, 111, 112, 113, 114, 115, 116, 117, 118, 119, 120, 121, 122]) : T)) := rfl
theorem g_2 : Γ.gls[2]? = some (("MOST_NAME" : Str), ((.int 12) : T)) := rfl
theorem g_3 : Γ.gls[3]? = some (("INT" : Str), ((.str [105, 110, 116]) : T)) := rfl
theorem g_4 : Γ.gls[4]? = some (("WORD" : Str), ((.str [119, 111, 114, 100]) : T)) := rfl
theorem g_5 : Γ.gls[5]? = some (("MOST_WORDS" : Str), ((.int 12) : T)) := rfl
theorem g_6 : Γ.gls[6]? = some (("REC" : Str), ((.str [114, 101, 99]) : T)) := rfl
theorem g_7 : Γ.gls[7]? = some (("MOST_FIELDS" : Str), ((.int 8) : T)) := rfl
theorem g_8 : Γ.gls[8]? = some (("CHOICE" : Str), ((.str [99, 104, 111, 105, 99, 101]) : T)) := rfl
theorem g_9 : Γ.gls[9]? = some (("LIST" : Str), ((.str [108, 105, 115, 116]) : T)) := rfl
theorem g_10 : Γ.gls[10]? = some (("KEYED" : Str), ((.str [107, 101, 121, 101, 100]) : T)) := rfl
theorem g_11 : Γ.gls[11]? = some (("MOST_DEEP" : Str), ((.int 12) : T)) := rfl
theorem g_12 : Γ.gls[12]? = some (("MOST_PARTS" : Str), ((.int 60) : T)) := rfl
theorem g_13 : Γ.gls[13]? = some (("BASE" : Str), ((.int 128) : T)) := rfl
theorem g_14 : Γ.gls[14]? = some (("KIND_WORDS" : Str), ((.tup [(.str [105, 110, 116]), (.str [119, 111, 114, 100]), (.str [114, 101, 99]), (.str [99, 104, 111, 105, 99, 101]), (.str [108, 105, 115, 116]), (.str [107, 101, 121, 101, 100])]) : T)) := rfl
theorem g_15 : Γ.gls[15]? = some (("MOST_SHIFTS" : Str), ((.int 10) : T)) := rfl
theorem g_16 : Γ.gls[16]? = some (("FIRST_SIGN" : Str), ((.int 97) : T)) := rfl
theorem g_17 : Γ.gls[17]? = some (("MOST_LEVELS" : Str), ((.int 24) : T)) := rfl
end D

set_option Elab.async false
set_option linter.all false
set_option maxRecDepth 100000
set_option maxHeartbeats 0
namespace D
open PySem G
/-! ### numbers in octets -/
def tI (n : Nat) : T := .int (n : Int)
def numO (n : Nat) : List Nat := if n < 128 then [n] else (128 + n % 128) :: numO (n / 128)
termination_by n
decreasing_by omega
def zig (i : Int) : Nat := if 0 ≤ i then (2 * i).toNat else (-2 * i - 1).toNat
theorem big_v : big = 16777216 := rfl
theorem numO_len : ∀ (j n : Nat), n < 128 ^ (j + 1) → (numO n).length ≤ j + 1
  | 0, n, h => by
    have h : n < 128 := by simpa using h
    rw [numO, if_pos h]
    simp
  | j + 1, n, h => by
    rw [numO]
    split
    · simp
    · have : n / 128 < 128 ^ (j + 1) := by
        rw [Nat.div_lt_iff_lt_mul (by omega)]
        rw [Nat.pow_succ] at h
        exact h
      have := numO_len j (n / 128) this
      simp; omega
theorem no_while (O : Or) (st : Store) : ∀ (f n : Nat) (acc : List T), n < 128 ^ (f + 1) → acc.length + f < big → ∃ init last, numO n = init ++ [last] ∧
    ∀ k, whE Γ O (.of (.cmp .ge (.v 0) (.g 13))) (.seq (.app [] 1 (.bin .add (.g 13) (.bin .mod (.bi .int (.cons (.v 0) .nil)) (.g 13)))) (.asg [] (.n 0) (.bin .fdiv (.v 0) (.g 13)))) (f + k + 1) [.va (tI n), .ow acc] st
      = .ok .nx [.va (tI last), .ow (acc ++ init.map tI)] st := by
  intro f
  induction f with
  | zero =>
    intro n acc h hb
    have h : n < 128 := by simpa using h
    refine ⟨[], n, by rw [numO, if_pos h]; rfl, fun k => ?_⟩
    have e : ¬ ((128 : Int) ≤ (n : Int)) := by omega
    simp [wh_succ, rb_ok, rb_exn, rt_ok, rt_exn, rq_nx, rq_rt, rq_bk, rq_ct, rq_exn, m_ok, m_fail, okv_s, of_s, of_none, ite_s, ite_r, keep_va, keep_fr, sl_va, sl_ow, bl_r, in_r, ev_v, ev_c, ev_g, ev_bin, ev_neg, ev_cmp, ev_ch2, ev_isn, ev_isb, ev_and, ev_or, ev_not, ev_ife, ev_tup, ev_lst, ev_new, ev_ix, ev_sl, ev_call, ev_bi, ev_isi, ev_mt, lo_r, ce_r, ev_meth, ev_fld, ev_mk, ev_lc, nx_ok, lc_nil, evO_none, evO_some, evA_nil, evA_cons, evRs_nil, evRs_cons, evF_nil, evF_cons, tst_yes, ptst_of, ptst_and, ptst_or, ptst_not, truth_bl, truth_int, truth_lst, truth_non, op_r, evS_pass, evS_seq, evS_asg, evS_par, sls_va, sls_ow, evS_aug, evS_app, ls_s, evS_ext, evS_pop, evS_ex, re_va, re_fr, evS_ret, evS_retv, evS_retn, evS_ite, evS_while, loo_nx, loo_ct, loo_bk, loo_rt, evS_for, fo_nil, fo_cons, evS_brk, evS_cont, lo_s, in_s, evS_setfld, evS_augfld, li_s, nt_s, evS_setix, evS_try, ret_s, rr_rt, rr_nx, rr_exn, ix_lst, ix_tup, li_r, ix_loc, ix_str, ix_byt, add_int, add_str, add_tup, add_lst, sub_int, mul_int, div_int, mod_int, pow_int, ord_int, ord_str, cmp_lt, cmp_le, cmp_gt, cmp_ge, cmp_in, sl_lst, sl_scr, sl_tup, sl_byt, len_lst, len_tup, len_scr, len_str, len_byt, b_int, b_abs, b_tupl, b_lstl, b_lstt, b_lstb, aug_add, aug_sub, mk_l, mk_t, mk_s, is_1, is_2, is_3, is_4, is_5, is_6, is_7, se_va, se_fr, se_tu, ro_nil, ro_cons, bi_n, bi_t, bi_l, bl_n, bl_c, fz_nil, fz_cons, fz1_ow, fz1_va, fz1_un, wi_nil, wi_cons, it_l, it_t, it_c, it_s, it_r, it_zl, it_zt, it_e, non_1, non_2, non_3, non_4, non_5, non_6, atI_0, atI_1, atI_2, atI_3, atI_4, eq_int, ne_int, ne_byt, eq_byt, tI, g_13, e]
  | succ f ih =>
    intro n acc h hb
    by_cases hn : n < 128
    · refine ⟨[], n, by rw [numO, if_pos hn]; rfl, fun k => ?_⟩
      have e : ¬ ((128 : Int) ≤ (n : Int)) := by omega
      simp [wh_succ, rb_ok, rb_exn, rt_ok, rt_exn, rq_nx, rq_rt, rq_bk, rq_ct, rq_exn, m_ok, m_fail, okv_s, of_s, of_none, ite_s, ite_r, keep_va, keep_fr, sl_va, sl_ow, bl_r, in_r, ev_v, ev_c, ev_g, ev_bin, ev_neg, ev_cmp, ev_ch2, ev_isn, ev_isb, ev_and, ev_or, ev_not, ev_ife, ev_tup, ev_lst, ev_new, ev_ix, ev_sl, ev_call, ev_bi, ev_isi, ev_mt, lo_r, ce_r, ev_meth, ev_fld, ev_mk, ev_lc, nx_ok, lc_nil, evO_none, evO_some, evA_nil, evA_cons, evRs_nil, evRs_cons, evF_nil, evF_cons, tst_yes, ptst_of, ptst_and, ptst_or, ptst_not, truth_bl, truth_int, truth_lst, truth_non, op_r, evS_pass, evS_seq, evS_asg, evS_par, sls_va, sls_ow, evS_aug, evS_app, ls_s, evS_ext, evS_pop, evS_ex, re_va, re_fr, evS_ret, evS_retv, evS_retn, evS_ite, evS_while, loo_nx, loo_ct, loo_bk, loo_rt, evS_for, fo_nil, fo_cons, evS_brk, evS_cont, lo_s, in_s, evS_setfld, evS_augfld, li_s, nt_s, evS_setix, evS_try, ret_s, rr_rt, rr_nx, rr_exn, ix_lst, ix_tup, li_r, ix_loc, ix_str, ix_byt, add_int, add_str, add_tup, add_lst, sub_int, mul_int, div_int, mod_int, pow_int, ord_int, ord_str, cmp_lt, cmp_le, cmp_gt, cmp_ge, cmp_in, sl_lst, sl_scr, sl_tup, sl_byt, len_lst, len_tup, len_scr, len_str, len_byt, b_int, b_abs, b_tupl, b_lstl, b_lstt, b_lstb, aug_add, aug_sub, mk_l, mk_t, mk_s, is_1, is_2, is_3, is_4, is_5, is_6, is_7, se_va, se_fr, se_tu, ro_nil, ro_cons, bi_n, bi_t, bi_l, bl_n, bl_c, fz_nil, fz_cons, fz1_ow, fz1_va, fz1_un, wi_nil, wi_cons, it_l, it_t, it_c, it_s, it_r, it_zl, it_zt, it_e, non_1, non_2, non_3, non_4, non_5, non_6, atI_0, atI_1, atI_2, atI_3, atI_4, eq_int, ne_int, ne_byt, eq_byt, tI, g_13, e]
    · have hd : n / 128 < 128 ^ (f + 1) := by
        rw [Nat.div_lt_iff_lt_mul (by omega)]
        rw [Nat.pow_succ] at h
        exact h
      obtain ⟨init, last, h1, h2⟩ := ih (n / 128) (acc ++ [tI (128 + n % 128)]) hd (by simp; omega)
      refine ⟨(128 + n % 128) :: init, last, by rw [numO, if_neg hn, h1]; rfl, fun k => ?_⟩
      have e : (128 : Int) ≤ (n : Int) := by omega
      have hb' : acc.length < big := by omega
      have h2 := h2 k
      have ek : f + 1 + k = f + k + 1 := by omega
      rw [ek, wh_succ]
      simp [rb_ok, rb_exn, rt_ok, rt_exn, rq_nx, rq_rt, rq_bk, rq_ct, rq_exn, m_ok, m_fail, okv_s, of_s, of_none, ite_s, ite_r, keep_va, keep_fr, sl_va, sl_ow, bl_r, in_r, ev_v, ev_c, ev_g, ev_bin, ev_neg, ev_cmp, ev_ch2, ev_isn, ev_isb, ev_and, ev_or, ev_not, ev_ife, ev_tup, ev_lst, ev_new, ev_ix, ev_sl, ev_call, ev_bi, ev_isi, ev_mt, lo_r, ce_r, ev_meth, ev_fld, ev_mk, ev_lc, nx_ok, lc_nil, evO_none, evO_some, evA_nil, evA_cons, evRs_nil, evRs_cons, evF_nil, evF_cons, tst_yes, ptst_of, ptst_and, ptst_or, ptst_not, truth_bl, truth_int, truth_lst, truth_non, op_r, evS_pass, evS_seq, evS_asg, evS_par, sls_va, sls_ow, evS_aug, evS_app, ls_s, evS_ext, evS_pop, evS_ex, re_va, re_fr, evS_ret, evS_retv, evS_retn, evS_ite, evS_while, loo_nx, loo_ct, loo_bk, loo_rt, evS_for, fo_nil, fo_cons, evS_brk, evS_cont, lo_s, in_s, evS_setfld, evS_augfld, li_s, nt_s, evS_setix, evS_try, ret_s, rr_rt, rr_nx, rr_exn, ix_lst, ix_tup, li_r, ix_loc, ix_str, ix_byt, add_int, add_str, add_tup, add_lst, sub_int, mul_int, div_int, mod_int, pow_int, ord_int, ord_str, cmp_lt, cmp_le, cmp_gt, cmp_ge, cmp_in, sl_lst, sl_scr, sl_tup, sl_byt, len_lst, len_tup, len_scr, len_str, len_byt, b_int, b_abs, b_tupl, b_lstl, b_lstt, b_lstb, aug_add, aug_sub, mk_l, mk_t, mk_s, is_1, is_2, is_3, is_4, is_5, is_6, is_7, se_va, se_fr, se_tu, ro_nil, ro_cons, bi_n, bi_t, bi_l, bl_n, bl_c, fz_nil, fz_cons, fz1_ow, fz1_va, fz1_un, wi_nil, wi_cons, it_l, it_t, it_c, it_s, it_r, it_zl, it_zt, it_e, non_1, non_2, non_3, non_4, non_5, non_6, atI_0, atI_1, atI_2, atI_3, atI_4, eq_int, ne_int, ne_byt, eq_byt, tI, g_13, e, hb'] at h2 ⊢
      rw [h2]
theorem sp_number_octets (m n : Nat) (st : Store) (h : n < 128 ^ 100) : callF Γ (m + 1) F_number_octets [tI n] st = .ok (.lst ((numO n).map tI), .fr) st := by
  obtain ⟨init, last, h1, h2⟩ := no_while ⟨callF Γ m, callF Γ (m - 1)⟩ st 99 n [] h (by rw [big_v]; decide)
  have hl := numO_len 99 n h
  rw [h1] at hl
  simp at hl
  have hb : init.length + 1 ≤ big := by rw [big_v]; omega
  have h3 := h2 999900
  rw [h1, c_number_octets]
  have ew : Γ.wf = 99 + 999900 + 1 := rfl
  simp only [List.nil_append] at h3
  simp [fd_number_octets, rb_ok, rb_exn, rt_ok, rt_exn, rq_nx, rq_rt, rq_bk, rq_ct, rq_exn, m_ok, m_fail, okv_s, of_s, of_none, ite_s, ite_r, keep_va, keep_fr, sl_va, sl_ow, bl_r, in_r, ev_v, ev_c, ev_g, ev_bin, ev_neg, ev_cmp, ev_ch2, ev_isn, ev_isb, ev_and, ev_or, ev_not, ev_ife, ev_tup, ev_lst, ev_new, ev_ix, ev_sl, ev_call, ev_bi, ev_isi, ev_mt, lo_r, ce_r, ev_meth, ev_fld, ev_mk, ev_lc, nx_ok, lc_nil, evO_none, evO_some, evA_nil, evA_cons, evRs_nil, evRs_cons, evF_nil, evF_cons, tst_yes, ptst_of, ptst_and, ptst_or, ptst_not, truth_bl, truth_int, truth_lst, truth_non, op_r, evS_pass, evS_seq, evS_asg, evS_par, sls_va, sls_ow, evS_aug, evS_app, ls_s, evS_ext, evS_pop, evS_ex, re_va, re_fr, evS_ret, evS_retv, evS_retn, evS_ite, evS_while, loo_nx, loo_ct, loo_bk, loo_rt, evS_for, fo_nil, fo_cons, evS_brk, evS_cont, lo_s, in_s, evS_setfld, evS_augfld, li_s, nt_s, evS_setix, evS_try, ret_s, rr_rt, rr_nx, rr_exn, ix_lst, ix_tup, li_r, ix_loc, ix_str, ix_byt, add_int, add_str, add_tup, add_lst, sub_int, mul_int, div_int, mod_int, pow_int, ord_int, ord_str, cmp_lt, cmp_le, cmp_gt, cmp_ge, cmp_in, sl_lst, sl_scr, sl_tup, sl_byt, len_lst, len_tup, len_scr, len_str, len_byt, b_int, b_abs, b_tupl, b_lstl, b_lstt, b_lstb, aug_add, aug_sub, mk_l, mk_t, mk_s, is_1, is_2, is_3, is_4, is_5, is_6, is_7, se_va, se_fr, se_tu, ro_nil, ro_cons, bi_n, bi_t, bi_l, bl_n, bl_c, fz_nil, fz_cons, fz1_ow, fz1_va, fz1_un, wi_nil, wi_cons, it_l, it_t, it_c, it_s, it_r, it_zl, it_zt, it_e, non_1, non_2, non_3, non_4, non_5, non_6, atI_0, atI_1, atI_2, atI_3, atI_4, eq_int, ne_int, ne_byt, eq_byt, ew, -Nat.reduceAdd]
  rw [h3]
  have hb' : init.length + 1 ≤ 16777216 := hb
  simp [rb_ok, rb_exn, rt_ok, rt_exn, rq_nx, rq_rt, rq_bk, rq_ct, rq_exn, m_ok, m_fail, okv_s, of_s, of_none, ite_s, ite_r, keep_va, keep_fr, sl_va, sl_ow, bl_r, in_r, ev_v, ev_c, ev_g, ev_bin, ev_neg, ev_cmp, ev_ch2, ev_isn, ev_isb, ev_and, ev_or, ev_not, ev_ife, ev_tup, ev_lst, ev_new, ev_ix, ev_sl, ev_call, ev_bi, ev_isi, ev_mt, lo_r, ce_r, ev_meth, ev_fld, ev_mk, ev_lc, nx_ok, lc_nil, evO_none, evO_some, evA_nil, evA_cons, evRs_nil, evRs_cons, evF_nil, evF_cons, tst_yes, ptst_of, ptst_and, ptst_or, ptst_not, truth_bl, truth_int, truth_lst, truth_non, op_r, evS_pass, evS_seq, evS_asg, evS_par, sls_va, sls_ow, evS_aug, evS_app, ls_s, evS_ext, evS_pop, evS_ex, re_va, re_fr, evS_ret, evS_retv, evS_retn, evS_ite, evS_while, loo_nx, loo_ct, loo_bk, loo_rt, evS_for, fo_nil, fo_cons, evS_brk, evS_cont, lo_s, in_s, evS_setfld, evS_augfld, li_s, nt_s, evS_setix, evS_try, ret_s, rr_rt, rr_nx, rr_exn, ix_lst, ix_tup, li_r, ix_loc, ix_str, ix_byt, add_int, add_str, add_tup, add_lst, sub_int, mul_int, div_int, mod_int, pow_int, ord_int, ord_str, cmp_lt, cmp_le, cmp_gt, cmp_ge, cmp_in, sl_lst, sl_scr, sl_tup, sl_byt, len_lst, len_tup, len_scr, len_str, len_byt, b_int, b_abs, b_tupl, b_lstl, b_lstt, b_lstb, aug_add, aug_sub, mk_l, mk_t, mk_s, is_1, is_2, is_3, is_4, is_5, is_6, is_7, se_va, se_fr, se_tu, ro_nil, ro_cons, bi_n, bi_t, bi_l, bl_n, bl_c, fz_nil, fz_cons, fz1_ow, fz1_va, fz1_un, wi_nil, wi_cons, it_l, it_t, it_c, it_s, it_r, it_zl, it_zt, it_e, non_1, non_2, non_3, non_4, non_5, non_6, atI_0, atI_1, atI_2, atI_3, atI_4, eq_int, ne_int, ne_byt, eq_byt, hb', tI, big_v]
end D


set_option Elab.async false
set_option linter.all false
set_option maxRecDepth 100000
set_option maxHeartbeats 0
namespace D
open PySem G
theorem zig_lt {i : Int} (h : i.natAbs ≤ 10 ^ 18) : zig i < 128 ^ 9 := by
  unfold zig
  have e : (128 : Nat) ^ 9 = 9223372036854775808 := by decide
  rw [e]
  split <;> omega
theorem lt100 {n : Nat} (h : n < 128 ^ 9) : n < 128 ^ 100 := Nat.lt_of_lt_of_le h (Nat.pow_le_pow_right (by omega) (by omega))
theorem sp_integer_octets (m : Nat) (i : Int) (st : Store) (h : i.natAbs ≤ 10 ^ 18) : callF Γ (m + 2) F_integer_octets [.int i] st = .ok (.lst ((numO (zig i)).map tI), .fr) st := by
  have hz := lt100 (zig_lt h)
  have hn := sp_number_octets m (zig i) st hz
  rw [c_integer_octets]
  by_cases hi : 0 ≤ i
  · have e : tI (zig i) = .int (2 * i) := by unfold tI zig; rw [if_pos hi]; congr 1; omega
    rw [e] at hn
    have h1 : -18446744073709551616 < i ∧ i < 18446744073709551616 := by omega
    simp [fd_integer_octets, rb_ok, rb_exn, rt_ok, rt_exn, rq_nx, rq_rt, rq_bk, rq_ct, rq_exn, m_ok, m_fail, okv_s, of_s, of_none, ite_s, ite_r, keep_va, keep_fr, sl_va, sl_ow, bl_r, in_r, ev_v, ev_c, ev_g, ev_bin, ev_neg, ev_cmp, ev_ch2, ev_isn, ev_isb, ev_and, ev_or, ev_not, ev_ife, ev_tup, ev_lst, ev_new, ev_ix, ev_sl, ev_call, ev_bi, ev_isi, ev_mt, lo_r, ce_r, ev_meth, ev_fld, ev_mk, ev_lc, nx_ok, lc_nil, evO_none, evO_some, evA_nil, evA_cons, evRs_nil, evRs_cons, evF_nil, evF_cons, tst_yes, ptst_of, ptst_and, ptst_or, ptst_not, truth_bl, truth_int, truth_lst, truth_non, op_r, evS_pass, evS_seq, evS_asg, evS_par, sls_va, sls_ow, evS_aug, evS_app, ls_s, evS_ext, evS_pop, evS_ex, re_va, re_fr, evS_ret, evS_retv, evS_retn, evS_ite, evS_while, loo_nx, loo_ct, loo_bk, loo_rt, evS_for, fo_nil, fo_cons, evS_brk, evS_cont, lo_s, in_s, evS_setfld, evS_augfld, li_s, nt_s, evS_setix, evS_try, ret_s, rr_rt, rr_nx, rr_exn, ix_lst, ix_tup, li_r, ix_loc, ix_str, ix_byt, add_int, add_str, add_tup, add_lst, sub_int, mul_int, div_int, mod_int, pow_int, ord_int, ord_str, cmp_lt, cmp_le, cmp_gt, cmp_ge, cmp_in, sl_lst, sl_scr, sl_tup, sl_byt, len_lst, len_tup, len_scr, len_str, len_byt, b_int, b_abs, b_tupl, b_lstl, b_lstt, b_lstb, aug_add, aug_sub, mk_l, mk_t, mk_s, is_1, is_2, is_3, is_4, is_5, is_6, is_7, se_va, se_fr, se_tu, ro_nil, ro_cons, bi_n, bi_t, bi_l, bl_n, bl_c, fz_nil, fz_cons, fz1_ow, fz1_va, fz1_un, wi_nil, wi_cons, it_l, it_t, it_c, it_s, it_r, it_zl, it_zt, it_e, non_1, non_2, non_3, non_4, non_5, non_6, atI_0, atI_1, atI_2, atI_3, atI_4, eq_int, ne_int, ne_byt, eq_byt, hi, h1, hn]
  · have e : tI (zig i) = .int (-2 * i - 1) := by unfold tI zig; rw [if_neg hi]; congr 1; omega
    rw [e] at hn
    have h1 : -18446744073709551616 < i ∧ i < 18446744073709551616 := by omega
    have e2 : -(2 * i) - 1 = -2 * i - 1 := by omega
    simp [fd_integer_octets, rb_ok, rb_exn, rt_ok, rt_exn, rq_nx, rq_rt, rq_bk, rq_ct, rq_exn, m_ok, m_fail, okv_s, of_s, of_none, ite_s, ite_r, keep_va, keep_fr, sl_va, sl_ow, bl_r, in_r, ev_v, ev_c, ev_g, ev_bin, ev_neg, ev_cmp, ev_ch2, ev_isn, ev_isb, ev_and, ev_or, ev_not, ev_ife, ev_tup, ev_lst, ev_new, ev_ix, ev_sl, ev_call, ev_bi, ev_isi, ev_mt, lo_r, ce_r, ev_meth, ev_fld, ev_mk, ev_lc, nx_ok, lc_nil, evO_none, evO_some, evA_nil, evA_cons, evRs_nil, evRs_cons, evF_nil, evF_cons, tst_yes, ptst_of, ptst_and, ptst_or, ptst_not, truth_bl, truth_int, truth_lst, truth_non, op_r, evS_pass, evS_seq, evS_asg, evS_par, sls_va, sls_ow, evS_aug, evS_app, ls_s, evS_ext, evS_pop, evS_ex, re_va, re_fr, evS_ret, evS_retv, evS_retn, evS_ite, evS_while, loo_nx, loo_ct, loo_bk, loo_rt, evS_for, fo_nil, fo_cons, evS_brk, evS_cont, lo_s, in_s, evS_setfld, evS_augfld, li_s, nt_s, evS_setix, evS_try, ret_s, rr_rt, rr_nx, rr_exn, ix_lst, ix_tup, li_r, ix_loc, ix_str, ix_byt, add_int, add_str, add_tup, add_lst, sub_int, mul_int, div_int, mod_int, pow_int, ord_int, ord_str, cmp_lt, cmp_le, cmp_gt, cmp_ge, cmp_in, sl_lst, sl_scr, sl_tup, sl_byt, len_lst, len_tup, len_scr, len_str, len_byt, b_int, b_abs, b_tupl, b_lstl, b_lstt, b_lstb, aug_add, aug_sub, mk_l, mk_t, mk_s, is_1, is_2, is_3, is_4, is_5, is_6, is_7, se_va, se_fr, se_tu, ro_nil, ro_cons, bi_n, bi_t, bi_l, bl_n, bl_c, fz_nil, fz_cons, fz1_ow, fz1_va, fz1_un, wi_nil, wi_cons, it_l, it_t, it_c, it_s, it_r, it_zl, it_zt, it_e, non_1, non_2, non_3, non_4, non_5, non_6, atI_0, atI_1, atI_2, atI_3, atI_4, eq_int, ne_int, ne_byt, eq_byt, hi, h1, hn, e2]
theorem lw_while (O : Or) (st : Store) (x : Sl) : ∀ (f n : Nat) (acc : List T), n < 128 ^ (f + 1) → acc.length + f < big → ∃ init last, numO n = init ++ [last] ∧
    ∀ k, whE Γ O (.of (.cmp .gt (.v 2) (.c (.int 127)))) (.seq (.app [] 1 (.bin .add (.c (.int 128)) (.bin .mod (.bi .int (.cons (.v 2) .nil)) (.c (.int 128))))) (.asg [] (.n 2) (.bin .fdiv (.v 2) (.c (.int 128))))) (f + k + 1) [x, .ow acc, .va (tI n)] st
      = .ok .nx [x, .ow (acc ++ init.map tI), .va (tI last)] st := by
  intro f
  induction f with
  | zero =>
    intro n acc h hb
    have h : n < 128 := by simpa using h
    refine ⟨[], n, by rw [numO, if_pos h]; rfl, fun k => ?_⟩
    have e : ¬ ((127 : Int) < (n : Int)) := by omega
    simp [wh_succ, rb_ok, rb_exn, rt_ok, rt_exn, rq_nx, rq_rt, rq_bk, rq_ct, rq_exn, m_ok, m_fail, okv_s, of_s, of_none, ite_s, ite_r, keep_va, keep_fr, sl_va, sl_ow, bl_r, in_r, ev_v, ev_c, ev_g, ev_bin, ev_neg, ev_cmp, ev_ch2, ev_isn, ev_isb, ev_and, ev_or, ev_not, ev_ife, ev_tup, ev_lst, ev_new, ev_ix, ev_sl, ev_call, ev_bi, ev_isi, ev_mt, lo_r, ce_r, ev_meth, ev_fld, ev_mk, ev_lc, nx_ok, lc_nil, evO_none, evO_some, evA_nil, evA_cons, evRs_nil, evRs_cons, evF_nil, evF_cons, tst_yes, ptst_of, ptst_and, ptst_or, ptst_not, truth_bl, truth_int, truth_lst, truth_non, op_r, evS_pass, evS_seq, evS_asg, evS_par, sls_va, sls_ow, evS_aug, evS_app, ls_s, evS_ext, evS_pop, evS_ex, re_va, re_fr, evS_ret, evS_retv, evS_retn, evS_ite, evS_while, loo_nx, loo_ct, loo_bk, loo_rt, evS_for, fo_nil, fo_cons, evS_brk, evS_cont, lo_s, in_s, evS_setfld, evS_augfld, li_s, nt_s, evS_setix, evS_try, ret_s, rr_rt, rr_nx, rr_exn, ix_lst, ix_tup, li_r, ix_loc, ix_str, ix_byt, add_int, add_str, add_tup, add_lst, sub_int, mul_int, div_int, mod_int, pow_int, ord_int, ord_str, cmp_lt, cmp_le, cmp_gt, cmp_ge, cmp_in, sl_lst, sl_scr, sl_tup, sl_byt, len_lst, len_tup, len_scr, len_str, len_byt, b_int, b_abs, b_tupl, b_lstl, b_lstt, b_lstb, aug_add, aug_sub, mk_l, mk_t, mk_s, is_1, is_2, is_3, is_4, is_5, is_6, is_7, se_va, se_fr, se_tu, ro_nil, ro_cons, bi_n, bi_t, bi_l, bl_n, bl_c, fz_nil, fz_cons, fz1_ow, fz1_va, fz1_un, wi_nil, wi_cons, it_l, it_t, it_c, it_s, it_r, it_zl, it_zt, it_e, non_1, non_2, non_3, non_4, non_5, non_6, atI_0, atI_1, atI_2, atI_3, atI_4, eq_int, ne_int, ne_byt, eq_byt, tI, e]
  | succ f ih =>
    intro n acc h hb
    by_cases hn : n < 128
    · refine ⟨[], n, by rw [numO, if_pos hn]; rfl, fun k => ?_⟩
      have e : ¬ ((127 : Int) < (n : Int)) := by omega
      simp [wh_succ, rb_ok, rb_exn, rt_ok, rt_exn, rq_nx, rq_rt, rq_bk, rq_ct, rq_exn, m_ok, m_fail, okv_s, of_s, of_none, ite_s, ite_r, keep_va, keep_fr, sl_va, sl_ow, bl_r, in_r, ev_v, ev_c, ev_g, ev_bin, ev_neg, ev_cmp, ev_ch2, ev_isn, ev_isb, ev_and, ev_or, ev_not, ev_ife, ev_tup, ev_lst, ev_new, ev_ix, ev_sl, ev_call, ev_bi, ev_isi, ev_mt, lo_r, ce_r, ev_meth, ev_fld, ev_mk, ev_lc, nx_ok, lc_nil, evO_none, evO_some, evA_nil, evA_cons, evRs_nil, evRs_cons, evF_nil, evF_cons, tst_yes, ptst_of, ptst_and, ptst_or, ptst_not, truth_bl, truth_int, truth_lst, truth_non, op_r, evS_pass, evS_seq, evS_asg, evS_par, sls_va, sls_ow, evS_aug, evS_app, ls_s, evS_ext, evS_pop, evS_ex, re_va, re_fr, evS_ret, evS_retv, evS_retn, evS_ite, evS_while, loo_nx, loo_ct, loo_bk, loo_rt, evS_for, fo_nil, fo_cons, evS_brk, evS_cont, lo_s, in_s, evS_setfld, evS_augfld, li_s, nt_s, evS_setix, evS_try, ret_s, rr_rt, rr_nx, rr_exn, ix_lst, ix_tup, li_r, ix_loc, ix_str, ix_byt, add_int, add_str, add_tup, add_lst, sub_int, mul_int, div_int, mod_int, pow_int, ord_int, ord_str, cmp_lt, cmp_le, cmp_gt, cmp_ge, cmp_in, sl_lst, sl_scr, sl_tup, sl_byt, len_lst, len_tup, len_scr, len_str, len_byt, b_int, b_abs, b_tupl, b_lstl, b_lstt, b_lstb, aug_add, aug_sub, mk_l, mk_t, mk_s, is_1, is_2, is_3, is_4, is_5, is_6, is_7, se_va, se_fr, se_tu, ro_nil, ro_cons, bi_n, bi_t, bi_l, bl_n, bl_c, fz_nil, fz_cons, fz1_ow, fz1_va, fz1_un, wi_nil, wi_cons, it_l, it_t, it_c, it_s, it_r, it_zl, it_zt, it_e, non_1, non_2, non_3, non_4, non_5, non_6, atI_0, atI_1, atI_2, atI_3, atI_4, eq_int, ne_int, ne_byt, eq_byt, tI, e]
    · have hd : n / 128 < 128 ^ (f + 1) := by
        rw [Nat.div_lt_iff_lt_mul (by omega)]
        rw [Nat.pow_succ] at h
        exact h
      obtain ⟨init, last, h1, h2⟩ := ih (n / 128) (acc ++ [tI (128 + n % 128)]) hd (by simp; omega)
      refine ⟨(128 + n % 128) :: init, last, by rw [numO, if_neg hn, h1]; rfl, fun k => ?_⟩
      have e : (127 : Int) < (n : Int) := by omega
      have hb' : acc.length < big := by omega
      have h2 := h2 k
      have ek : f + 1 + k = f + k + 1 := by omega
      rw [ek, wh_succ]
      simp [rb_ok, rb_exn, rt_ok, rt_exn, rq_nx, rq_rt, rq_bk, rq_ct, rq_exn, m_ok, m_fail, okv_s, of_s, of_none, ite_s, ite_r, keep_va, keep_fr, sl_va, sl_ow, bl_r, in_r, ev_v, ev_c, ev_g, ev_bin, ev_neg, ev_cmp, ev_ch2, ev_isn, ev_isb, ev_and, ev_or, ev_not, ev_ife, ev_tup, ev_lst, ev_new, ev_ix, ev_sl, ev_call, ev_bi, ev_isi, ev_mt, lo_r, ce_r, ev_meth, ev_fld, ev_mk, ev_lc, nx_ok, lc_nil, evO_none, evO_some, evA_nil, evA_cons, evRs_nil, evRs_cons, evF_nil, evF_cons, tst_yes, ptst_of, ptst_and, ptst_or, ptst_not, truth_bl, truth_int, truth_lst, truth_non, op_r, evS_pass, evS_seq, evS_asg, evS_par, sls_va, sls_ow, evS_aug, evS_app, ls_s, evS_ext, evS_pop, evS_ex, re_va, re_fr, evS_ret, evS_retv, evS_retn, evS_ite, evS_while, loo_nx, loo_ct, loo_bk, loo_rt, evS_for, fo_nil, fo_cons, evS_brk, evS_cont, lo_s, in_s, evS_setfld, evS_augfld, li_s, nt_s, evS_setix, evS_try, ret_s, rr_rt, rr_nx, rr_exn, ix_lst, ix_tup, li_r, ix_loc, ix_str, ix_byt, add_int, add_str, add_tup, add_lst, sub_int, mul_int, div_int, mod_int, pow_int, ord_int, ord_str, cmp_lt, cmp_le, cmp_gt, cmp_ge, cmp_in, sl_lst, sl_scr, sl_tup, sl_byt, len_lst, len_tup, len_scr, len_str, len_byt, b_int, b_abs, b_tupl, b_lstl, b_lstt, b_lstb, aug_add, aug_sub, mk_l, mk_t, mk_s, is_1, is_2, is_3, is_4, is_5, is_6, is_7, se_va, se_fr, se_tu, ro_nil, ro_cons, bi_n, bi_t, bi_l, bl_n, bl_c, fz_nil, fz_cons, fz1_ow, fz1_va, fz1_un, wi_nil, wi_cons, it_l, it_t, it_c, it_s, it_r, it_zl, it_zt, it_e, non_1, non_2, non_3, non_4, non_5, non_6, atI_0, atI_1, atI_2, atI_3, atI_4, eq_int, ne_int, ne_byt, eq_byt, tI, e, hb'] at h2 ⊢
      rw [h2]
theorem sp_law_number_row (m n : Nat) (st : Store) (h : n < 128 ^ 100) : callF Γ (m + 1) F__law_number_row [tI n] st = .ok (.lst ((numO n).map tI), .fr) st := by
  obtain ⟨init, last, h1, h2⟩ := lw_while ⟨callF Γ m, callF Γ (m - 1)⟩ st (.va (tI n)) 99 n [] h (by rw [big_v]; decide)
  have hl := numO_len 99 n h
  rw [h1] at hl
  simp at hl
  have h3 := h2 999900
  rw [h1, c__law_number_row]
  have ew : Γ.wf = 99 + 999900 + 1 := rfl
  simp only [List.nil_append] at h3
  simp [fd__law_number_row, rb_ok, rb_exn, rt_ok, rt_exn, rq_nx, rq_rt, rq_bk, rq_ct, rq_exn, m_ok, m_fail, okv_s, of_s, of_none, ite_s, ite_r, keep_va, keep_fr, sl_va, sl_ow, bl_r, in_r, ev_v, ev_c, ev_g, ev_bin, ev_neg, ev_cmp, ev_ch2, ev_isn, ev_isb, ev_and, ev_or, ev_not, ev_ife, ev_tup, ev_lst, ev_new, ev_ix, ev_sl, ev_call, ev_bi, ev_isi, ev_mt, lo_r, ce_r, ev_meth, ev_fld, ev_mk, ev_lc, nx_ok, lc_nil, evO_none, evO_some, evA_nil, evA_cons, evRs_nil, evRs_cons, evF_nil, evF_cons, tst_yes, ptst_of, ptst_and, ptst_or, ptst_not, truth_bl, truth_int, truth_lst, truth_non, op_r, evS_pass, evS_seq, evS_asg, evS_par, sls_va, sls_ow, evS_aug, evS_app, ls_s, evS_ext, evS_pop, evS_ex, re_va, re_fr, evS_ret, evS_retv, evS_retn, evS_ite, evS_while, loo_nx, loo_ct, loo_bk, loo_rt, evS_for, fo_nil, fo_cons, evS_brk, evS_cont, lo_s, in_s, evS_setfld, evS_augfld, li_s, nt_s, evS_setix, evS_try, ret_s, rr_rt, rr_nx, rr_exn, ix_lst, ix_tup, li_r, ix_loc, ix_str, ix_byt, add_int, add_str, add_tup, add_lst, sub_int, mul_int, div_int, mod_int, pow_int, ord_int, ord_str, cmp_lt, cmp_le, cmp_gt, cmp_ge, cmp_in, sl_lst, sl_scr, sl_tup, sl_byt, len_lst, len_tup, len_scr, len_str, len_byt, b_int, b_abs, b_tupl, b_lstl, b_lstt, b_lstb, aug_add, aug_sub, mk_l, mk_t, mk_s, is_1, is_2, is_3, is_4, is_5, is_6, is_7, se_va, se_fr, se_tu, ro_nil, ro_cons, bi_n, bi_t, bi_l, bl_n, bl_c, fz_nil, fz_cons, fz1_ow, fz1_va, fz1_un, wi_nil, wi_cons, it_l, it_t, it_c, it_s, it_r, it_zl, it_zt, it_e, non_1, non_2, non_3, non_4, non_5, non_6, atI_0, atI_1, atI_2, atI_3, atI_4, eq_int, ne_int, ne_byt, eq_byt, ew, -Nat.reduceAdd, big_v]
  rw [h3]
  have hb' : init.length + 1 ≤ 16777216 := by omega
  simp [rb_ok, rb_exn, rt_ok, rt_exn, rq_nx, rq_rt, rq_bk, rq_ct, rq_exn, m_ok, m_fail, okv_s, of_s, of_none, ite_s, ite_r, keep_va, keep_fr, sl_va, sl_ow, bl_r, in_r, ev_v, ev_c, ev_g, ev_bin, ev_neg, ev_cmp, ev_ch2, ev_isn, ev_isb, ev_and, ev_or, ev_not, ev_ife, ev_tup, ev_lst, ev_new, ev_ix, ev_sl, ev_call, ev_bi, ev_isi, ev_mt, lo_r, ce_r, ev_meth, ev_fld, ev_mk, ev_lc, nx_ok, lc_nil, evO_none, evO_some, evA_nil, evA_cons, evRs_nil, evRs_cons, evF_nil, evF_cons, tst_yes, ptst_of, ptst_and, ptst_or, ptst_not, truth_bl, truth_int, truth_lst, truth_non, op_r, evS_pass, evS_seq, evS_asg, evS_par, sls_va, sls_ow, evS_aug, evS_app, ls_s, evS_ext, evS_pop, evS_ex, re_va, re_fr, evS_ret, evS_retv, evS_retn, evS_ite, evS_while, loo_nx, loo_ct, loo_bk, loo_rt, evS_for, fo_nil, fo_cons, evS_brk, evS_cont, lo_s, in_s, evS_setfld, evS_augfld, li_s, nt_s, evS_setix, evS_try, ret_s, rr_rt, rr_nx, rr_exn, ix_lst, ix_tup, li_r, ix_loc, ix_str, ix_byt, add_int, add_str, add_tup, add_lst, sub_int, mul_int, div_int, mod_int, pow_int, ord_int, ord_str, cmp_lt, cmp_le, cmp_gt, cmp_ge, cmp_in, sl_lst, sl_scr, sl_tup, sl_byt, len_lst, len_tup, len_scr, len_str, len_byt, b_int, b_abs, b_tupl, b_lstl, b_lstt, b_lstb, aug_add, aug_sub, mk_l, mk_t, mk_s, is_1, is_2, is_3, is_4, is_5, is_6, is_7, se_va, se_fr, se_tu, ro_nil, ro_cons, bi_n, bi_t, bi_l, bl_n, bl_c, fz_nil, fz_cons, fz1_ow, fz1_va, fz1_un, wi_nil, wi_cons, it_l, it_t, it_c, it_s, it_r, it_zl, it_zt, it_e, non_1, non_2, non_3, non_4, non_5, non_6, atI_0, atI_1, atI_2, atI_3, atI_4, eq_int, ne_int, ne_byt, eq_byt, hb', tI, big_v]
theorem sp_law_integer_row (m : Nat) (i : Int) (st : Store) (h : i.natAbs ≤ 10 ^ 18) : callF Γ (m + 2) F__law_integer_row [.int i] st = .ok (.lst ((numO (zig i)).map tI), .fr) st := by
  have hz := lt100 (zig_lt h)
  have hn := sp_law_number_row m (zig i) st hz
  rw [c__law_integer_row]
  by_cases hi : 0 ≤ i
  · have e : tI (zig i) = .int (2 * i) := by unfold tI zig; rw [if_pos hi]; congr 1; omega
    rw [e] at hn
    have h1 : -18446744073709551616 < i ∧ i < 18446744073709551616 := by omega
    simp [fd__law_integer_row, rb_ok, rb_exn, rt_ok, rt_exn, rq_nx, rq_rt, rq_bk, rq_ct, rq_exn, m_ok, m_fail, okv_s, of_s, of_none, ite_s, ite_r, keep_va, keep_fr, sl_va, sl_ow, bl_r, in_r, ev_v, ev_c, ev_g, ev_bin, ev_neg, ev_cmp, ev_ch2, ev_isn, ev_isb, ev_and, ev_or, ev_not, ev_ife, ev_tup, ev_lst, ev_new, ev_ix, ev_sl, ev_call, ev_bi, ev_isi, ev_mt, lo_r, ce_r, ev_meth, ev_fld, ev_mk, ev_lc, nx_ok, lc_nil, evO_none, evO_some, evA_nil, evA_cons, evRs_nil, evRs_cons, evF_nil, evF_cons, tst_yes, ptst_of, ptst_and, ptst_or, ptst_not, truth_bl, truth_int, truth_lst, truth_non, op_r, evS_pass, evS_seq, evS_asg, evS_par, sls_va, sls_ow, evS_aug, evS_app, ls_s, evS_ext, evS_pop, evS_ex, re_va, re_fr, evS_ret, evS_retv, evS_retn, evS_ite, evS_while, loo_nx, loo_ct, loo_bk, loo_rt, evS_for, fo_nil, fo_cons, evS_brk, evS_cont, lo_s, in_s, evS_setfld, evS_augfld, li_s, nt_s, evS_setix, evS_try, ret_s, rr_rt, rr_nx, rr_exn, ix_lst, ix_tup, li_r, ix_loc, ix_str, ix_byt, add_int, add_str, add_tup, add_lst, sub_int, mul_int, div_int, mod_int, pow_int, ord_int, ord_str, cmp_lt, cmp_le, cmp_gt, cmp_ge, cmp_in, sl_lst, sl_scr, sl_tup, sl_byt, len_lst, len_tup, len_scr, len_str, len_byt, b_int, b_abs, b_tupl, b_lstl, b_lstt, b_lstb, aug_add, aug_sub, mk_l, mk_t, mk_s, is_1, is_2, is_3, is_4, is_5, is_6, is_7, se_va, se_fr, se_tu, ro_nil, ro_cons, bi_n, bi_t, bi_l, bl_n, bl_c, fz_nil, fz_cons, fz1_ow, fz1_va, fz1_un, wi_nil, wi_cons, it_l, it_t, it_c, it_s, it_r, it_zl, it_zt, it_e, non_1, non_2, non_3, non_4, non_5, non_6, atI_0, atI_1, atI_2, atI_3, atI_4, eq_int, ne_int, ne_byt, eq_byt, hi, h1, hn]
  · have e : tI (zig i) = .int (-(2 * i) - 1) := by unfold tI zig; rw [if_neg hi]; congr 1; omega
    rw [e] at hn
    have h1 : -18446744073709551616 < i ∧ i < 18446744073709551616 := by omega
    simp [fd__law_integer_row, rb_ok, rb_exn, rt_ok, rt_exn, rq_nx, rq_rt, rq_bk, rq_ct, rq_exn, m_ok, m_fail, okv_s, of_s, of_none, ite_s, ite_r, keep_va, keep_fr, sl_va, sl_ow, bl_r, in_r, ev_v, ev_c, ev_g, ev_bin, ev_neg, ev_cmp, ev_ch2, ev_isn, ev_isb, ev_and, ev_or, ev_not, ev_ife, ev_tup, ev_lst, ev_new, ev_ix, ev_sl, ev_call, ev_bi, ev_isi, ev_mt, lo_r, ce_r, ev_meth, ev_fld, ev_mk, ev_lc, nx_ok, lc_nil, evO_none, evO_some, evA_nil, evA_cons, evRs_nil, evRs_cons, evF_nil, evF_cons, tst_yes, ptst_of, ptst_and, ptst_or, ptst_not, truth_bl, truth_int, truth_lst, truth_non, op_r, evS_pass, evS_seq, evS_asg, evS_par, sls_va, sls_ow, evS_aug, evS_app, ls_s, evS_ext, evS_pop, evS_ex, re_va, re_fr, evS_ret, evS_retv, evS_retn, evS_ite, evS_while, loo_nx, loo_ct, loo_bk, loo_rt, evS_for, fo_nil, fo_cons, evS_brk, evS_cont, lo_s, in_s, evS_setfld, evS_augfld, li_s, nt_s, evS_setix, evS_try, ret_s, rr_rt, rr_nx, rr_exn, ix_lst, ix_tup, li_r, ix_loc, ix_str, ix_byt, add_int, add_str, add_tup, add_lst, sub_int, mul_int, div_int, mod_int, pow_int, ord_int, ord_str, cmp_lt, cmp_le, cmp_gt, cmp_ge, cmp_in, sl_lst, sl_scr, sl_tup, sl_byt, len_lst, len_tup, len_scr, len_str, len_byt, b_int, b_abs, b_tupl, b_lstl, b_lstt, b_lstb, aug_add, aug_sub, mk_l, mk_t, mk_s, is_1, is_2, is_3, is_4, is_5, is_6, is_7, se_va, se_fr, se_tu, ro_nil, ro_cons, bi_n, bi_t, bi_l, bl_n, bl_c, fz_nil, fz_cons, fz1_ow, fz1_va, fz1_un, wi_nil, wi_cons, it_l, it_t, it_c, it_s, it_r, it_zl, it_zt, it_e, non_1, non_2, non_3, non_4, non_5, non_6, atI_0, atI_1, atI_2, atI_3, atI_4, eq_int, ne_int, ne_byt, eq_byt, hi, h1, hn]
/-! ### kinds -/
inductive Kd where
  | int (a b : Int)
  | word (n : Nat)
  | list (k : Kd)
  | rec1 (k : Kd)
  | rec2 (k l : Kd)
  | cho1 (k : Kd)
  | cho2 (k l : Kd)
def wds (n : Nat) : List T := match n with
  | 0 => [.str [97]]
  | 1 => [.str [97], .str [98]]
  | _ => [.str [97], .str [98], .str [99]]
def Kd.t : Kd → T
  | .int a b => .tup [.str [105, 110, 116], .int a, .int b]
  | .word n => .tup [.str [119, 111, 114, 100], .tup (wds n)]
  | .list k => .tup [.str [108, 105, 115, 116], k.t]
  | .rec1 k => .tup [.str [114, 101, 99], .tup [.tup [.str [112], k.t]]]
  | .rec2 k l => .tup [.str [114, 101, 99], .tup [.tup [.str [112], k.t], .tup [.str [113], l.t]]]
  | .cho1 k => .tup [.str [99, 104, 111, 105, 99, 101], .tup [.tup [.str [115], k.t]]]
  | .cho2 k l => .tup [.str [99, 104, 111, 105, 99, 101], .tup [.tup [.str [115], k.t], .tup [.str [116], l.t]]]
def Kd.ok : Kd → Prop
  | .int a b => a.natAbs < 10 ^ 18 ∧ b.natAbs < 10 ^ 18 ∧ a ≤ b
  | .word _ => True
  | .list k => k.ok
  | .rec1 k => k.ok
  | .rec2 k l => k.ok ∧ l.ok
  | .cho1 k => k.ok
  | .cho2 k l => k.ok ∧ l.ok
def wenc (n : Nat) : List Nat := match n with
  | 0 => [1, 1, 97]
  | 1 => [2, 1, 97, 1, 98]
  | _ => [3, 1, 97, 1, 98, 1, 99]
def Kd.enc : Kd → List Nat
  | .int a b => 0 :: (numO (zig a) ++ numO (zig b))
  | .word n => 1 :: wenc n
  | .list k => 4 :: k.enc
  | .rec1 k => 2 :: 1 :: 1 :: 112 :: k.enc
  | .rec2 k l => 2 :: 2 :: 1 :: 112 :: (k.enc ++ 1 :: 113 :: l.enc)
  | .cho1 k => 3 :: 1 :: 1 :: 115 :: k.enc
  | .cho2 k l => 3 :: 2 :: 1 :: 115 :: (k.enc ++ 1 :: 116 :: l.enc)
def Kd.parts : Kd → Nat
  | .int _ _ => 1
  | .word _ => 1
  | .list k => 1 + k.parts
  | .rec1 k => 1 + k.parts
  | .rec2 k l => 1 + (k.parts + l.parts)
  | .cho1 k => 1 + k.parts
  | .cho2 k l => 1 + (k.parts + l.parts)
def Kd.deep : Kd → Nat
  | .int _ _ => 1
  | .word _ => 1
  | .list k => 1 + k.deep
  | .rec1 k => 1 + k.deep
  | .rec2 k l => 1 + max k.deep l.deep
  | .cho1 k => 1 + k.deep
  | .cho2 k l => 1 + max k.deep l.deep
def Kd.subs : Kd → List Kd
  | .int _ _ => []
  | .word _ => []
  | .list k => [k]
  | .rec1 k => [k]
  | .rec2 k l => [k, l]
  | .cho1 k => [k]
  | .cho2 k l => [k, l]
theorem enc_len : ∀ k : Kd, k.ok → k.enc.length ≤ 30 * k.parts
  | .int a b, h => by
    obtain ⟨h1, h2, h3⟩ := h
    have e1 := numO_len 8 (zig a) (zig_lt (by omega))
    have e2 := numO_len 8 (zig b) (zig_lt (by omega))
    simp [Kd.enc, Kd.parts]; omega
  | .word n, _ => by
    unfold Kd.enc wenc Kd.parts
    split <;> simp
  | .list k, h => by have := enc_len k h; simp [Kd.enc, Kd.parts]; omega
  | .rec1 k, h => by have := enc_len k h; simp [Kd.enc, Kd.parts]; omega
  | .rec2 k l, h => by have := enc_len k h.1; have := enc_len l h.2; simp [Kd.enc, Kd.parts]; omega
  | .cho1 k, h => by have := enc_len k h; simp [Kd.enc, Kd.parts]; omega
  | .cho2 k l, h => by have := enc_len k h.1; have := enc_len l h.2; simp [Kd.enc, Kd.parts]; omega
theorem ok_1 : okS [105, 110, 116] = true := by decide +kernel
theorem ok_2 : okS [119, 111, 114, 100] = true := by decide +kernel
theorem ok_3 : okS [108, 105, 115, 116] = true := by decide +kernel
theorem ok_4 : okS [114, 101, 99] = true := by decide +kernel
theorem ok_5 : okS [99, 104, 111, 105, 99, 101] = true := by decide +kernel
theorem ok_6 : okS [107, 101, 121, 101, 100] = true := by decide +kernel
theorem nmO (m : Nat) (st : Store) (x : Nat) (h : x = 112 ∨ x = 113 ∨ x = 115 ∨ x = 116) : callF Γ (m + 1) F_name_octets [.str [x]] st = .ok (.lst [.int 1, .int (x : Nat)], .fr) st := by
  rw [c_name_octets]
  rcases h with rfl | rfl | rfl | rfl <;> rfl
theorem nmR (m : Nat) (st : Store) (x : Nat) (h : x = 112 ∨ x = 113 ∨ x = 115 ∨ x = 116) : callF Γ (m + 1) F__law_name_row [.str [x]] st = .ok (.lst [.int 1, .int (x : Nat)], .fr) st := by
  rw [c__law_name_row]
  rcases h with rfl | rfl | rfl | rfl <;> rfl
theorem nmsO (m n : Nat) (st : Store) : callF Γ (m + 3) F_names_octets [.tup (wds n)] st = .ok (.lst ((wenc n).map tI), .fr) st := by
  rw [c_names_octets]
  unfold wds wenc
  split <;> kernel_rfl
theorem nmsR (m n : Nat) (st : Store) : callF Γ (m + 3) F__law_names_row [.tup (wds n)] st = .ok (.lst ((wenc n).map tI), .fr) st := by
  rw [c__law_names_row]
  unfold wds wenc
  split <;> kernel_rfl
end D


set_option Elab.async false
set_option linter.all false
set_option maxRecDepth 100000
set_option maxHeartbeats 0
namespace D
open PySem G
def KW : List T := [.str [105, 110, 116], .str [119, 111, 114, 100], .str [114, 101, 99], .str [99, 104, 111, 105, 99, 101], .str [108, 105, 115, 116]]
theorem li_1 (st : Store) : evMt .lindex (.lst [.str [105, 110, 116], .str [119, 111, 114, 100], .str [114, 101, 99], .str [99, 104, 111, 105, 99, 101], .str [108, 105, 115, 116]]) [.str [105, 110, 116]] st = .ok (.int 0, .va) st := rfl
theorem li_2 (st : Store) : evMt .lindex (.lst [.str [105, 110, 116], .str [119, 111, 114, 100], .str [114, 101, 99], .str [99, 104, 111, 105, 99, 101], .str [108, 105, 115, 116]]) [.str [119, 111, 114, 100]] st = .ok (.int 1, .va) st := rfl
theorem li_3 (st : Store) : evMt .lindex (.lst [.str [105, 110, 116], .str [119, 111, 114, 100], .str [114, 101, 99], .str [99, 104, 111, 105, 99, 101], .str [108, 105, 115, 116]]) [.str [114, 101, 99]] st = .ok (.int 2, .va) st := rfl
theorem li_4 (st : Store) : evMt .lindex (.lst [.str [105, 110, 116], .str [119, 111, 114, 100], .str [114, 101, 99], .str [99, 104, 111, 105, 99, 101], .str [108, 105, 115, 116]]) [.str [99, 104, 111, 105, 99, 101]] st = .ok (.int 3, .va) st := rfl
theorem li_5 (st : Store) : evMt .lindex (.lst [.str [105, 110, 116], .str [119, 111, 114, 100], .str [114, 101, 99], .str [99, 104, 111, 105, 99, 101], .str [108, 105, 115, 116]]) [.str [108, 105, 115, 116]] st = .ok (.int 4, .va) st := rfl
theorem ti_1 (st : Store) : evMt .tindex (.tup [.str [105, 110, 116], .str [119, 111, 114, 100], .str [114, 101, 99], .str [99, 104, 111, 105, 99, 101], .str [108, 105, 115, 116], .str [107, 101, 121, 101, 100]]) [.str [105, 110, 116]] st = .ok (.int 0, .va) st := rfl
theorem ti_2 (st : Store) : evMt .tindex (.tup [.str [105, 110, 116], .str [119, 111, 114, 100], .str [114, 101, 99], .str [99, 104, 111, 105, 99, 101], .str [108, 105, 115, 116], .str [107, 101, 121, 101, 100]]) [.str [119, 111, 114, 100]] st = .ok (.int 1, .va) st := rfl
theorem ti_3 (st : Store) : evMt .tindex (.tup [.str [105, 110, 116], .str [119, 111, 114, 100], .str [114, 101, 99], .str [99, 104, 111, 105, 99, 101], .str [108, 105, 115, 116], .str [107, 101, 121, 101, 100]]) [.str [114, 101, 99]] st = .ok (.int 2, .va) st := rfl
theorem ti_4 (st : Store) : evMt .tindex (.tup [.str [105, 110, 116], .str [119, 111, 114, 100], .str [114, 101, 99], .str [99, 104, 111, 105, 99, 101], .str [108, 105, 115, 116], .str [107, 101, 121, 101, 100]]) [.str [99, 104, 111, 105, 99, 101]] st = .ok (.int 3, .va) st := rfl
theorem ti_5 (st : Store) : evMt .tindex (.tup [.str [105, 110, 116], .str [119, 111, 114, 100], .str [114, 101, 99], .str [99, 104, 111, 105, 99, 101], .str [108, 105, 115, 116], .str [107, 101, 121, 101, 100]]) [.str [108, 105, 115, 116]] st = .ok (.int 4, .va) st := rfl
theorem mk_1 (o : T) (as : List T) : True := trivial
theorem nR1 (m : Nat) (st : Store) : callF Γ (m + 1) F__law_number_row [.int 1] st = .ok (.lst [.int 1], .fr) st := by rw [c__law_number_row]; rfl
theorem nR2 (m : Nat) (st : Store) : callF Γ (m + 1) F__law_number_row [.int 2] st = .ok (.lst [.int 2], .fr) st := by rw [c__law_number_row]; rfl
theorem nO1 (m : Nat) (st : Store) : callF Γ (m + 1) F_number_octets [.int 1] st = .ok (.lst [.int 1], .fr) st := by rw [c_number_octets]; rfl
theorem nO2 (m : Nat) (st : Store) : callF Γ (m + 1) F_number_octets [.int 2] st = .ok (.lst [.int 2], .fr) st := by rw [c_number_octets]; rfl
theorem rP (m : Nat) (st : Store) : callF Γ (m + 1) F__law_name_row [.str [112]] st = .ok (.lst [.int 1, .int 112], .fr) st := nmR m st 112 (by simp)
theorem rQ (m : Nat) (st : Store) : callF Γ (m + 1) F__law_name_row [.str [113]] st = .ok (.lst [.int 1, .int 113], .fr) st := nmR m st 113 (by simp)
theorem rS (m : Nat) (st : Store) : callF Γ (m + 1) F__law_name_row [.str [115]] st = .ok (.lst [.int 1, .int 115], .fr) st := nmR m st 115 (by simp)
theorem rT (m : Nat) (st : Store) : callF Γ (m + 1) F__law_name_row [.str [116]] st = .ok (.lst [.int 1, .int 116], .fr) st := nmR m st 116 (by simp)
theorem oP (m : Nat) (st : Store) : callF Γ (m + 1) F_name_octets [.str [112]] st = .ok (.lst [.int 1, .int 112], .fr) st := nmO m st 112 (by simp)
theorem oQ (m : Nat) (st : Store) : callF Γ (m + 1) F_name_octets [.str [113]] st = .ok (.lst [.int 1, .int 113], .fr) st := nmO m st 113 (by simp)
theorem oS (m : Nat) (st : Store) : callF Γ (m + 1) F_name_octets [.str [115]] st = .ok (.lst [.int 1, .int 115], .fr) st := nmO m st 115 (by simp)
theorem oT (m : Nat) (st : Store) : callF Γ (m + 1) F_name_octets [.str [116]] st = .ok (.lst [.int 1, .int 116], .fr) st := nmO m st 116 (by simp)
theorem atI_m1 {α : Type} (a b : α) : L2.atI [a, b] (-1) = some b := by
  unfold L2.atI L2.ixN
  simp
theorem row_ok : ∀ (k : Kd), k.ok → k.parts ≤ 1000 → ∀ (n : Nat) (st : Store), k.deep + 3 ≤ n → callF Γ n F__law_kind_row [k.t] st = .ok (.lst (k.enc.map tI), .fr) st
  | .int a b, h, hp, n, st, hn => by
    obtain ⟨m, rfl⟩ : ∃ m, n = m + 3 := ⟨n - 3, by omega⟩
    obtain ⟨h1, h2, h3⟩ := h
    have e1 := numO_len 8 (zig a) (zig_lt (by omega))
    have e2 := numO_len 8 (zig b) (zig_lt (by omega))
    have r1 := fun st => sp_law_integer_row m a st (by omega)
    have r2 := fun st => sp_law_integer_row m b st (by omega)
    rw [c__law_kind_row]
    simp [fd__law_kind_row, rb_ok, rb_exn, rt_ok, rt_exn, rq_nx, rq_rt, rq_bk, rq_ct, rq_exn, m_ok, m_fail, okv_s, of_s, of_none, ite_s, ite_r, keep_va, keep_fr, sl_va, sl_ow, bl_r, in_r, ev_v, ev_c, ev_g, ev_bin, ev_neg, ev_cmp, ev_ch2, ev_isn, ev_isb, ev_and, ev_or, ev_not, ev_ife, ev_tup, ev_lst, ev_new, ev_ix, ev_sl, ev_call, ev_bi, ev_isi, ev_mt, lo_r, ce_r, ev_meth, ev_fld, ev_mk, ev_lc, nx_ok, lc_nil, evO_none, evO_some, evA_nil, evA_cons, evRs_nil, evRs_cons, evF_nil, evF_cons, tst_yes, ptst_of, ptst_and, ptst_or, ptst_not, truth_bl, truth_int, truth_lst, truth_non, op_r, evS_pass, evS_seq, evS_asg, evS_par, sls_va, sls_ow, evS_aug, evS_app, ls_s, evS_ext, evS_pop, evS_ex, re_va, re_fr, evS_ret, evS_retv, evS_retn, evS_ite, evS_while, loo_nx, loo_ct, loo_bk, loo_rt, evS_for, fo_nil, fo_cons, evS_brk, evS_cont, lo_s, in_s, evS_setfld, evS_augfld, li_s, nt_s, evS_setix, evS_try, ret_s, rr_rt, rr_nx, rr_exn, ix_lst, ix_tup, li_r, ix_loc, ix_str, ix_byt, add_int, add_str, add_tup, add_lst, sub_int, mul_int, div_int, mod_int, pow_int, ord_int, ord_str, cmp_lt, cmp_le, cmp_gt, cmp_ge, cmp_in, sl_lst, sl_scr, sl_tup, sl_byt, len_lst, len_tup, len_scr, len_str, len_byt, b_int, b_abs, b_tupl, b_lstl, b_lstt, b_lstb, aug_add, aug_sub, mk_l, mk_t, mk_s, is_1, is_2, is_3, is_4, is_5, is_6, is_7, se_va, se_fr, se_tu, ro_nil, ro_cons, bi_n, bi_t, bi_l, bl_n, bl_c, fz_nil, fz_cons, fz1_ow, fz1_va, fz1_un, wi_nil, wi_cons, it_l, it_t, it_c, it_s, it_r, it_zl, it_zt, it_e, non_1, non_2, non_3, non_4, non_5, non_6, atI_0, atI_1, atI_2, atI_3, atI_4, eq_int, ne_int, ne_byt, eq_byt, Kd.t, big_v, li_1, eq_str, ok_1, ok_2, ok_3, ok_4, ok_5, r1, r2]
    rw [if_pos (by omega)]
    simp [rb_ok, rb_exn, rt_ok, rt_exn, rq_nx, rq_rt, rq_bk, rq_ct, rq_exn, m_ok, m_fail, okv_s, of_s, of_none, ite_s, ite_r, keep_va, keep_fr, sl_va, sl_ow, bl_r, in_r, ev_v, ev_c, ev_g, ev_bin, ev_neg, ev_cmp, ev_ch2, ev_isn, ev_isb, ev_and, ev_or, ev_not, ev_ife, ev_tup, ev_lst, ev_new, ev_ix, ev_sl, ev_call, ev_bi, ev_isi, ev_mt, lo_r, ce_r, ev_meth, ev_fld, ev_mk, ev_lc, nx_ok, lc_nil, evO_none, evO_some, evA_nil, evA_cons, evRs_nil, evRs_cons, evF_nil, evF_cons, tst_yes, ptst_of, ptst_and, ptst_or, ptst_not, truth_bl, truth_int, truth_lst, truth_non, op_r, evS_pass, evS_seq, evS_asg, evS_par, sls_va, sls_ow, evS_aug, evS_app, ls_s, evS_ext, evS_pop, evS_ex, re_va, re_fr, evS_ret, evS_retv, evS_retn, evS_ite, evS_while, loo_nx, loo_ct, loo_bk, loo_rt, evS_for, fo_nil, fo_cons, evS_brk, evS_cont, lo_s, in_s, evS_setfld, evS_augfld, li_s, nt_s, evS_setix, evS_try, ret_s, rr_rt, rr_nx, rr_exn, ix_lst, ix_tup, li_r, ix_loc, ix_str, ix_byt, add_int, add_str, add_tup, add_lst, sub_int, mul_int, div_int, mod_int, pow_int, ord_int, ord_str, cmp_lt, cmp_le, cmp_gt, cmp_ge, cmp_in, sl_lst, sl_scr, sl_tup, sl_byt, len_lst, len_tup, len_scr, len_str, len_byt, b_int, b_abs, b_tupl, b_lstl, b_lstt, b_lstb, aug_add, aug_sub, mk_l, mk_t, mk_s, is_1, is_2, is_3, is_4, is_5, is_6, is_7, se_va, se_fr, se_tu, ro_nil, ro_cons, bi_n, bi_t, bi_l, bl_n, bl_c, fz_nil, fz_cons, fz1_ow, fz1_va, fz1_un, wi_nil, wi_cons, it_l, it_t, it_c, it_s, it_r, it_zl, it_zt, it_e, non_1, non_2, non_3, non_4, non_5, non_6, atI_0, atI_1, atI_2, atI_3, atI_4, eq_int, ne_int, ne_byt, eq_byt, r2, big_v]
    rw [if_pos (by omega)]
    simp [rb_ok, rb_exn, rt_ok, rt_exn, rq_nx, rq_rt, rq_bk, rq_ct, rq_exn, m_ok, m_fail, okv_s, of_s, of_none, ite_s, ite_r, keep_va, keep_fr, sl_va, sl_ow, bl_r, in_r, ev_v, ev_c, ev_g, ev_bin, ev_neg, ev_cmp, ev_ch2, ev_isn, ev_isb, ev_and, ev_or, ev_not, ev_ife, ev_tup, ev_lst, ev_new, ev_ix, ev_sl, ev_call, ev_bi, ev_isi, ev_mt, lo_r, ce_r, ev_meth, ev_fld, ev_mk, ev_lc, nx_ok, lc_nil, evO_none, evO_some, evA_nil, evA_cons, evRs_nil, evRs_cons, evF_nil, evF_cons, tst_yes, ptst_of, ptst_and, ptst_or, ptst_not, truth_bl, truth_int, truth_lst, truth_non, op_r, evS_pass, evS_seq, evS_asg, evS_par, sls_va, sls_ow, evS_aug, evS_app, ls_s, evS_ext, evS_pop, evS_ex, re_va, re_fr, evS_ret, evS_retv, evS_retn, evS_ite, evS_while, loo_nx, loo_ct, loo_bk, loo_rt, evS_for, fo_nil, fo_cons, evS_brk, evS_cont, lo_s, in_s, evS_setfld, evS_augfld, li_s, nt_s, evS_setix, evS_try, ret_s, rr_rt, rr_nx, rr_exn, ix_lst, ix_tup, li_r, ix_loc, ix_str, ix_byt, add_int, add_str, add_tup, add_lst, sub_int, mul_int, div_int, mod_int, pow_int, ord_int, ord_str, cmp_lt, cmp_le, cmp_gt, cmp_ge, cmp_in, sl_lst, sl_scr, sl_tup, sl_byt, len_lst, len_tup, len_scr, len_str, len_byt, b_int, b_abs, b_tupl, b_lstl, b_lstt, b_lstb, aug_add, aug_sub, mk_l, mk_t, mk_s, is_1, is_2, is_3, is_4, is_5, is_6, is_7, se_va, se_fr, se_tu, ro_nil, ro_cons, bi_n, bi_t, bi_l, bl_n, bl_c, fz_nil, fz_cons, fz1_ow, fz1_va, fz1_un, wi_nil, wi_cons, it_l, it_t, it_c, it_s, it_r, it_zl, it_zt, it_e, non_1, non_2, non_3, non_4, non_5, non_6, atI_0, atI_1, atI_2, atI_3, atI_4, eq_int, ne_int, ne_byt, eq_byt, Kd.enc, tI]
  | .word w, h, hp, n, st, hn => by
    obtain ⟨m, rfl⟩ : ∃ m, n = m + 4 := ⟨n - 4, by simp [Kd.deep] at hn; omega⟩
    have r1 := fun st => nmsR m w st
    have e := enc_len (.word w) h
    simp [Kd.enc, Kd.parts] at e
    rw [c__law_kind_row]
    simp [fd__law_kind_row, rb_ok, rb_exn, rt_ok, rt_exn, rq_nx, rq_rt, rq_bk, rq_ct, rq_exn, m_ok, m_fail, okv_s, of_s, of_none, ite_s, ite_r, keep_va, keep_fr, sl_va, sl_ow, bl_r, in_r, ev_v, ev_c, ev_g, ev_bin, ev_neg, ev_cmp, ev_ch2, ev_isn, ev_isb, ev_and, ev_or, ev_not, ev_ife, ev_tup, ev_lst, ev_new, ev_ix, ev_sl, ev_call, ev_bi, ev_isi, ev_mt, lo_r, ce_r, ev_meth, ev_fld, ev_mk, ev_lc, nx_ok, lc_nil, evO_none, evO_some, evA_nil, evA_cons, evRs_nil, evRs_cons, evF_nil, evF_cons, tst_yes, ptst_of, ptst_and, ptst_or, ptst_not, truth_bl, truth_int, truth_lst, truth_non, op_r, evS_pass, evS_seq, evS_asg, evS_par, sls_va, sls_ow, evS_aug, evS_app, ls_s, evS_ext, evS_pop, evS_ex, re_va, re_fr, evS_ret, evS_retv, evS_retn, evS_ite, evS_while, loo_nx, loo_ct, loo_bk, loo_rt, evS_for, fo_nil, fo_cons, evS_brk, evS_cont, lo_s, in_s, evS_setfld, evS_augfld, li_s, nt_s, evS_setix, evS_try, ret_s, rr_rt, rr_nx, rr_exn, ix_lst, ix_tup, li_r, ix_loc, ix_str, ix_byt, add_int, add_str, add_tup, add_lst, sub_int, mul_int, div_int, mod_int, pow_int, ord_int, ord_str, cmp_lt, cmp_le, cmp_gt, cmp_ge, cmp_in, sl_lst, sl_scr, sl_tup, sl_byt, len_lst, len_tup, len_scr, len_str, len_byt, b_int, b_abs, b_tupl, b_lstl, b_lstt, b_lstb, aug_add, aug_sub, mk_l, mk_t, mk_s, is_1, is_2, is_3, is_4, is_5, is_6, is_7, se_va, se_fr, se_tu, ro_nil, ro_cons, bi_n, bi_t, bi_l, bl_n, bl_c, fz_nil, fz_cons, fz1_ow, fz1_va, fz1_un, wi_nil, wi_cons, it_l, it_t, it_c, it_s, it_r, it_zl, it_zt, it_e, non_1, non_2, non_3, non_4, non_5, non_6, atI_0, atI_1, atI_2, atI_3, atI_4, eq_int, ne_int, ne_byt, eq_byt, Kd.t, big_v, li_2, eq_str, ok_1, ok_2, ok_3, ok_4, ok_5, r1]
    rw [if_pos (by omega)]
    simp [rb_ok, rb_exn, rt_ok, rt_exn, rq_nx, rq_rt, rq_bk, rq_ct, rq_exn, m_ok, m_fail, okv_s, of_s, of_none, ite_s, ite_r, keep_va, keep_fr, sl_va, sl_ow, bl_r, in_r, ev_v, ev_c, ev_g, ev_bin, ev_neg, ev_cmp, ev_ch2, ev_isn, ev_isb, ev_and, ev_or, ev_not, ev_ife, ev_tup, ev_lst, ev_new, ev_ix, ev_sl, ev_call, ev_bi, ev_isi, ev_mt, lo_r, ce_r, ev_meth, ev_fld, ev_mk, ev_lc, nx_ok, lc_nil, evO_none, evO_some, evA_nil, evA_cons, evRs_nil, evRs_cons, evF_nil, evF_cons, tst_yes, ptst_of, ptst_and, ptst_or, ptst_not, truth_bl, truth_int, truth_lst, truth_non, op_r, evS_pass, evS_seq, evS_asg, evS_par, sls_va, sls_ow, evS_aug, evS_app, ls_s, evS_ext, evS_pop, evS_ex, re_va, re_fr, evS_ret, evS_retv, evS_retn, evS_ite, evS_while, loo_nx, loo_ct, loo_bk, loo_rt, evS_for, fo_nil, fo_cons, evS_brk, evS_cont, lo_s, in_s, evS_setfld, evS_augfld, li_s, nt_s, evS_setix, evS_try, ret_s, rr_rt, rr_nx, rr_exn, ix_lst, ix_tup, li_r, ix_loc, ix_str, ix_byt, add_int, add_str, add_tup, add_lst, sub_int, mul_int, div_int, mod_int, pow_int, ord_int, ord_str, cmp_lt, cmp_le, cmp_gt, cmp_ge, cmp_in, sl_lst, sl_scr, sl_tup, sl_byt, len_lst, len_tup, len_scr, len_str, len_byt, b_int, b_abs, b_tupl, b_lstl, b_lstt, b_lstb, aug_add, aug_sub, mk_l, mk_t, mk_s, is_1, is_2, is_3, is_4, is_5, is_6, is_7, se_va, se_fr, se_tu, ro_nil, ro_cons, bi_n, bi_t, bi_l, bl_n, bl_c, fz_nil, fz_cons, fz1_ow, fz1_va, fz1_un, wi_nil, wi_cons, it_l, it_t, it_c, it_s, it_r, it_zl, it_zt, it_e, non_1, non_2, non_3, non_4, non_5, non_6, atI_0, atI_1, atI_2, atI_3, atI_4, eq_int, ne_int, ne_byt, eq_byt, Kd.enc, tI]
  | .list k, h, hp, n, st, hn => by
    obtain ⟨m, rfl⟩ : ∃ m, n = m + 1 := ⟨n - 1, by omega⟩
    simp [Kd.deep, Kd.parts] at hn hp
    have r1 := fun st => row_ok k h (by omega) m st (by omega)
    have e := enc_len k h
    rw [c__law_kind_row]
    simp [fd__law_kind_row, rb_ok, rb_exn, rt_ok, rt_exn, rq_nx, rq_rt, rq_bk, rq_ct, rq_exn, m_ok, m_fail, okv_s, of_s, of_none, ite_s, ite_r, keep_va, keep_fr, sl_va, sl_ow, bl_r, in_r, ev_v, ev_c, ev_g, ev_bin, ev_neg, ev_cmp, ev_ch2, ev_isn, ev_isb, ev_and, ev_or, ev_not, ev_ife, ev_tup, ev_lst, ev_new, ev_ix, ev_sl, ev_call, ev_bi, ev_isi, ev_mt, lo_r, ce_r, ev_meth, ev_fld, ev_mk, ev_lc, nx_ok, lc_nil, evO_none, evO_some, evA_nil, evA_cons, evRs_nil, evRs_cons, evF_nil, evF_cons, tst_yes, ptst_of, ptst_and, ptst_or, ptst_not, truth_bl, truth_int, truth_lst, truth_non, op_r, evS_pass, evS_seq, evS_asg, evS_par, sls_va, sls_ow, evS_aug, evS_app, ls_s, evS_ext, evS_pop, evS_ex, re_va, re_fr, evS_ret, evS_retv, evS_retn, evS_ite, evS_while, loo_nx, loo_ct, loo_bk, loo_rt, evS_for, fo_nil, fo_cons, evS_brk, evS_cont, lo_s, in_s, evS_setfld, evS_augfld, li_s, nt_s, evS_setix, evS_try, ret_s, rr_rt, rr_nx, rr_exn, ix_lst, ix_tup, li_r, ix_loc, ix_str, ix_byt, add_int, add_str, add_tup, add_lst, sub_int, mul_int, div_int, mod_int, pow_int, ord_int, ord_str, cmp_lt, cmp_le, cmp_gt, cmp_ge, cmp_in, sl_lst, sl_scr, sl_tup, sl_byt, len_lst, len_tup, len_scr, len_str, len_byt, b_int, b_abs, b_tupl, b_lstl, b_lstt, b_lstb, aug_add, aug_sub, mk_l, mk_t, mk_s, is_1, is_2, is_3, is_4, is_5, is_6, is_7, se_va, se_fr, se_tu, ro_nil, ro_cons, bi_n, bi_t, bi_l, bl_n, bl_c, fz_nil, fz_cons, fz1_ow, fz1_va, fz1_un, wi_nil, wi_cons, it_l, it_t, it_c, it_s, it_r, it_zl, it_zt, it_e, non_1, non_2, non_3, non_4, non_5, non_6, atI_0, atI_1, atI_2, atI_3, atI_4, eq_int, ne_int, ne_byt, eq_byt, Kd.t, big_v, li_5, eq_str, ok_1, ok_2, ok_3, ok_4, ok_5, r1]
    rw [if_pos (by omega)]
    simp [rb_ok, rb_exn, rt_ok, rt_exn, rq_nx, rq_rt, rq_bk, rq_ct, rq_exn, m_ok, m_fail, okv_s, of_s, of_none, ite_s, ite_r, keep_va, keep_fr, sl_va, sl_ow, bl_r, in_r, ev_v, ev_c, ev_g, ev_bin, ev_neg, ev_cmp, ev_ch2, ev_isn, ev_isb, ev_and, ev_or, ev_not, ev_ife, ev_tup, ev_lst, ev_new, ev_ix, ev_sl, ev_call, ev_bi, ev_isi, ev_mt, lo_r, ce_r, ev_meth, ev_fld, ev_mk, ev_lc, nx_ok, lc_nil, evO_none, evO_some, evA_nil, evA_cons, evRs_nil, evRs_cons, evF_nil, evF_cons, tst_yes, ptst_of, ptst_and, ptst_or, ptst_not, truth_bl, truth_int, truth_lst, truth_non, op_r, evS_pass, evS_seq, evS_asg, evS_par, sls_va, sls_ow, evS_aug, evS_app, ls_s, evS_ext, evS_pop, evS_ex, re_va, re_fr, evS_ret, evS_retv, evS_retn, evS_ite, evS_while, loo_nx, loo_ct, loo_bk, loo_rt, evS_for, fo_nil, fo_cons, evS_brk, evS_cont, lo_s, in_s, evS_setfld, evS_augfld, li_s, nt_s, evS_setix, evS_try, ret_s, rr_rt, rr_nx, rr_exn, ix_lst, ix_tup, li_r, ix_loc, ix_str, ix_byt, add_int, add_str, add_tup, add_lst, sub_int, mul_int, div_int, mod_int, pow_int, ord_int, ord_str, cmp_lt, cmp_le, cmp_gt, cmp_ge, cmp_in, sl_lst, sl_scr, sl_tup, sl_byt, len_lst, len_tup, len_scr, len_str, len_byt, b_int, b_abs, b_tupl, b_lstl, b_lstt, b_lstb, aug_add, aug_sub, mk_l, mk_t, mk_s, is_1, is_2, is_3, is_4, is_5, is_6, is_7, se_va, se_fr, se_tu, ro_nil, ro_cons, bi_n, bi_t, bi_l, bl_n, bl_c, fz_nil, fz_cons, fz1_ow, fz1_va, fz1_un, wi_nil, wi_cons, it_l, it_t, it_c, it_s, it_r, it_zl, it_zt, it_e, non_1, non_2, non_3, non_4, non_5, non_6, atI_0, atI_1, atI_2, atI_3, atI_4, eq_int, ne_int, ne_byt, eq_byt, Kd.enc, tI]
  | .rec1 k, h, hp, n, st, hn => by
    obtain ⟨m, rfl⟩ : ∃ m, n = m + 2 := ⟨n - 2, by omega⟩
    simp [Kd.deep, Kd.parts] at hn hp
    have r1 := fun st => row_ok k h (by omega) (m + 1) st (by omega)
    have e := enc_len k h
    rw [c__law_kind_row]
    simp [fd__law_kind_row, rb_ok, rb_exn, rt_ok, rt_exn, rq_nx, rq_rt, rq_bk, rq_ct, rq_exn, m_ok, m_fail, okv_s, of_s, of_none, ite_s, ite_r, keep_va, keep_fr, sl_va, sl_ow, bl_r, in_r, ev_v, ev_c, ev_g, ev_bin, ev_neg, ev_cmp, ev_ch2, ev_isn, ev_isb, ev_and, ev_or, ev_not, ev_ife, ev_tup, ev_lst, ev_new, ev_ix, ev_sl, ev_call, ev_bi, ev_isi, ev_mt, lo_r, ce_r, ev_meth, ev_fld, ev_mk, ev_lc, nx_ok, lc_nil, evO_none, evO_some, evA_nil, evA_cons, evRs_nil, evRs_cons, evF_nil, evF_cons, tst_yes, ptst_of, ptst_and, ptst_or, ptst_not, truth_bl, truth_int, truth_lst, truth_non, op_r, evS_pass, evS_seq, evS_asg, evS_par, sls_va, sls_ow, evS_aug, evS_app, ls_s, evS_ext, evS_pop, evS_ex, re_va, re_fr, evS_ret, evS_retv, evS_retn, evS_ite, evS_while, loo_nx, loo_ct, loo_bk, loo_rt, evS_for, fo_nil, fo_cons, evS_brk, evS_cont, lo_s, in_s, evS_setfld, evS_augfld, li_s, nt_s, evS_setix, evS_try, ret_s, rr_rt, rr_nx, rr_exn, ix_lst, ix_tup, li_r, ix_loc, ix_str, ix_byt, add_int, add_str, add_tup, add_lst, sub_int, mul_int, div_int, mod_int, pow_int, ord_int, ord_str, cmp_lt, cmp_le, cmp_gt, cmp_ge, cmp_in, sl_lst, sl_scr, sl_tup, sl_byt, len_lst, len_tup, len_scr, len_str, len_byt, b_int, b_abs, b_tupl, b_lstl, b_lstt, b_lstb, aug_add, aug_sub, mk_l, mk_t, mk_s, is_1, is_2, is_3, is_4, is_5, is_6, is_7, se_va, se_fr, se_tu, ro_nil, ro_cons, bi_n, bi_t, bi_l, bl_n, bl_c, fz_nil, fz_cons, fz1_ow, fz1_va, fz1_un, wi_nil, wi_cons, it_l, it_t, it_c, it_s, it_r, it_zl, it_zt, it_e, non_1, non_2, non_3, non_4, non_5, non_6, atI_0, atI_1, atI_2, atI_3, atI_4, eq_int, ne_int, ne_byt, eq_byt, Kd.t, big_v, li_3, eq_str, ok_1, ok_2, ok_3, ok_4, ok_5, r1, nR1, nR2, rP, rQ, rS, rT]
    rw [if_pos (by omega)]
    simp [rb_ok, rb_exn, rt_ok, rt_exn, rq_nx, rq_rt, rq_bk, rq_ct, rq_exn, m_ok, m_fail, okv_s, of_s, of_none, ite_s, ite_r, keep_va, keep_fr, sl_va, sl_ow, bl_r, in_r, ev_v, ev_c, ev_g, ev_bin, ev_neg, ev_cmp, ev_ch2, ev_isn, ev_isb, ev_and, ev_or, ev_not, ev_ife, ev_tup, ev_lst, ev_new, ev_ix, ev_sl, ev_call, ev_bi, ev_isi, ev_mt, lo_r, ce_r, ev_meth, ev_fld, ev_mk, ev_lc, nx_ok, lc_nil, evO_none, evO_some, evA_nil, evA_cons, evRs_nil, evRs_cons, evF_nil, evF_cons, tst_yes, ptst_of, ptst_and, ptst_or, ptst_not, truth_bl, truth_int, truth_lst, truth_non, op_r, evS_pass, evS_seq, evS_asg, evS_par, sls_va, sls_ow, evS_aug, evS_app, ls_s, evS_ext, evS_pop, evS_ex, re_va, re_fr, evS_ret, evS_retv, evS_retn, evS_ite, evS_while, loo_nx, loo_ct, loo_bk, loo_rt, evS_for, fo_nil, fo_cons, evS_brk, evS_cont, lo_s, in_s, evS_setfld, evS_augfld, li_s, nt_s, evS_setix, evS_try, ret_s, rr_rt, rr_nx, rr_exn, ix_lst, ix_tup, li_r, ix_loc, ix_str, ix_byt, add_int, add_str, add_tup, add_lst, sub_int, mul_int, div_int, mod_int, pow_int, ord_int, ord_str, cmp_lt, cmp_le, cmp_gt, cmp_ge, cmp_in, sl_lst, sl_scr, sl_tup, sl_byt, len_lst, len_tup, len_scr, len_str, len_byt, b_int, b_abs, b_tupl, b_lstl, b_lstt, b_lstb, aug_add, aug_sub, mk_l, mk_t, mk_s, is_1, is_2, is_3, is_4, is_5, is_6, is_7, se_va, se_fr, se_tu, ro_nil, ro_cons, bi_n, bi_t, bi_l, bl_n, bl_c, fz_nil, fz_cons, fz1_ow, fz1_va, fz1_un, wi_nil, wi_cons, it_l, it_t, it_c, it_s, it_r, it_zl, it_zt, it_e, non_1, non_2, non_3, non_4, non_5, non_6, atI_0, atI_1, atI_2, atI_3, atI_4, eq_int, ne_int, ne_byt, eq_byt, big_v]
    rw [if_pos (by omega)]
    simp [rb_ok, rb_exn, rt_ok, rt_exn, rq_nx, rq_rt, rq_bk, rq_ct, rq_exn, m_ok, m_fail, okv_s, of_s, of_none, ite_s, ite_r, keep_va, keep_fr, sl_va, sl_ow, bl_r, in_r, ev_v, ev_c, ev_g, ev_bin, ev_neg, ev_cmp, ev_ch2, ev_isn, ev_isb, ev_and, ev_or, ev_not, ev_ife, ev_tup, ev_lst, ev_new, ev_ix, ev_sl, ev_call, ev_bi, ev_isi, ev_mt, lo_r, ce_r, ev_meth, ev_fld, ev_mk, ev_lc, nx_ok, lc_nil, evO_none, evO_some, evA_nil, evA_cons, evRs_nil, evRs_cons, evF_nil, evF_cons, tst_yes, ptst_of, ptst_and, ptst_or, ptst_not, truth_bl, truth_int, truth_lst, truth_non, op_r, evS_pass, evS_seq, evS_asg, evS_par, sls_va, sls_ow, evS_aug, evS_app, ls_s, evS_ext, evS_pop, evS_ex, re_va, re_fr, evS_ret, evS_retv, evS_retn, evS_ite, evS_while, loo_nx, loo_ct, loo_bk, loo_rt, evS_for, fo_nil, fo_cons, evS_brk, evS_cont, lo_s, in_s, evS_setfld, evS_augfld, li_s, nt_s, evS_setix, evS_try, ret_s, rr_rt, rr_nx, rr_exn, ix_lst, ix_tup, li_r, ix_loc, ix_str, ix_byt, add_int, add_str, add_tup, add_lst, sub_int, mul_int, div_int, mod_int, pow_int, ord_int, ord_str, cmp_lt, cmp_le, cmp_gt, cmp_ge, cmp_in, sl_lst, sl_scr, sl_tup, sl_byt, len_lst, len_tup, len_scr, len_str, len_byt, b_int, b_abs, b_tupl, b_lstl, b_lstt, b_lstb, aug_add, aug_sub, mk_l, mk_t, mk_s, is_1, is_2, is_3, is_4, is_5, is_6, is_7, se_va, se_fr, se_tu, ro_nil, ro_cons, bi_n, bi_t, bi_l, bl_n, bl_c, fz_nil, fz_cons, fz1_ow, fz1_va, fz1_un, wi_nil, wi_cons, it_l, it_t, it_c, it_s, it_r, it_zl, it_zt, it_e, non_1, non_2, non_3, non_4, non_5, non_6, atI_0, atI_1, atI_2, atI_3, atI_4, eq_int, ne_int, ne_byt, eq_byt, Kd.enc, tI]
  | .rec2 k l, h, hp, n, st, hn => by
    obtain ⟨m, rfl⟩ : ∃ m, n = m + 2 := ⟨n - 2, by omega⟩
    simp [Kd.deep, Kd.parts] at hn hp
    have r1 := fun st => row_ok k h.1 (by omega) (m + 1) st (by omega)
    have r2 := fun st => row_ok l h.2 (by omega) (m + 1) st (by omega)
    have e := enc_len k h.1
    have e2 := enc_len l h.2
    rw [c__law_kind_row]
    simp [fd__law_kind_row, rb_ok, rb_exn, rt_ok, rt_exn, rq_nx, rq_rt, rq_bk, rq_ct, rq_exn, m_ok, m_fail, okv_s, of_s, of_none, ite_s, ite_r, keep_va, keep_fr, sl_va, sl_ow, bl_r, in_r, ev_v, ev_c, ev_g, ev_bin, ev_neg, ev_cmp, ev_ch2, ev_isn, ev_isb, ev_and, ev_or, ev_not, ev_ife, ev_tup, ev_lst, ev_new, ev_ix, ev_sl, ev_call, ev_bi, ev_isi, ev_mt, lo_r, ce_r, ev_meth, ev_fld, ev_mk, ev_lc, nx_ok, lc_nil, evO_none, evO_some, evA_nil, evA_cons, evRs_nil, evRs_cons, evF_nil, evF_cons, tst_yes, ptst_of, ptst_and, ptst_or, ptst_not, truth_bl, truth_int, truth_lst, truth_non, op_r, evS_pass, evS_seq, evS_asg, evS_par, sls_va, sls_ow, evS_aug, evS_app, ls_s, evS_ext, evS_pop, evS_ex, re_va, re_fr, evS_ret, evS_retv, evS_retn, evS_ite, evS_while, loo_nx, loo_ct, loo_bk, loo_rt, evS_for, fo_nil, fo_cons, evS_brk, evS_cont, lo_s, in_s, evS_setfld, evS_augfld, li_s, nt_s, evS_setix, evS_try, ret_s, rr_rt, rr_nx, rr_exn, ix_lst, ix_tup, li_r, ix_loc, ix_str, ix_byt, add_int, add_str, add_tup, add_lst, sub_int, mul_int, div_int, mod_int, pow_int, ord_int, ord_str, cmp_lt, cmp_le, cmp_gt, cmp_ge, cmp_in, sl_lst, sl_scr, sl_tup, sl_byt, len_lst, len_tup, len_scr, len_str, len_byt, b_int, b_abs, b_tupl, b_lstl, b_lstt, b_lstb, aug_add, aug_sub, mk_l, mk_t, mk_s, is_1, is_2, is_3, is_4, is_5, is_6, is_7, se_va, se_fr, se_tu, ro_nil, ro_cons, bi_n, bi_t, bi_l, bl_n, bl_c, fz_nil, fz_cons, fz1_ow, fz1_va, fz1_un, wi_nil, wi_cons, it_l, it_t, it_c, it_s, it_r, it_zl, it_zt, it_e, non_1, non_2, non_3, non_4, non_5, non_6, atI_0, atI_1, atI_2, atI_3, atI_4, eq_int, ne_int, ne_byt, eq_byt, Kd.t, big_v, li_3, eq_str, ok_1, ok_2, ok_3, ok_4, ok_5, r1, r2, nR1, nR2, rP, rQ, rS, rT]
    rw [if_pos (by omega)]
    simp [rb_ok, rb_exn, rt_ok, rt_exn, rq_nx, rq_rt, rq_bk, rq_ct, rq_exn, m_ok, m_fail, okv_s, of_s, of_none, ite_s, ite_r, keep_va, keep_fr, sl_va, sl_ow, bl_r, in_r, ev_v, ev_c, ev_g, ev_bin, ev_neg, ev_cmp, ev_ch2, ev_isn, ev_isb, ev_and, ev_or, ev_not, ev_ife, ev_tup, ev_lst, ev_new, ev_ix, ev_sl, ev_call, ev_bi, ev_isi, ev_mt, lo_r, ce_r, ev_meth, ev_fld, ev_mk, ev_lc, nx_ok, lc_nil, evO_none, evO_some, evA_nil, evA_cons, evRs_nil, evRs_cons, evF_nil, evF_cons, tst_yes, ptst_of, ptst_and, ptst_or, ptst_not, truth_bl, truth_int, truth_lst, truth_non, op_r, evS_pass, evS_seq, evS_asg, evS_par, sls_va, sls_ow, evS_aug, evS_app, ls_s, evS_ext, evS_pop, evS_ex, re_va, re_fr, evS_ret, evS_retv, evS_retn, evS_ite, evS_while, loo_nx, loo_ct, loo_bk, loo_rt, evS_for, fo_nil, fo_cons, evS_brk, evS_cont, lo_s, in_s, evS_setfld, evS_augfld, li_s, nt_s, evS_setix, evS_try, ret_s, rr_rt, rr_nx, rr_exn, ix_lst, ix_tup, li_r, ix_loc, ix_str, ix_byt, add_int, add_str, add_tup, add_lst, sub_int, mul_int, div_int, mod_int, pow_int, ord_int, ord_str, cmp_lt, cmp_le, cmp_gt, cmp_ge, cmp_in, sl_lst, sl_scr, sl_tup, sl_byt, len_lst, len_tup, len_scr, len_str, len_byt, b_int, b_abs, b_tupl, b_lstl, b_lstt, b_lstb, aug_add, aug_sub, mk_l, mk_t, mk_s, is_1, is_2, is_3, is_4, is_5, is_6, is_7, se_va, se_fr, se_tu, ro_nil, ro_cons, bi_n, bi_t, bi_l, bl_n, bl_c, fz_nil, fz_cons, fz1_ow, fz1_va, fz1_un, wi_nil, wi_cons, it_l, it_t, it_c, it_s, it_r, it_zl, it_zt, it_e, non_1, non_2, non_3, non_4, non_5, non_6, atI_0, atI_1, atI_2, atI_3, atI_4, eq_int, ne_int, ne_byt, eq_byt, big_v, r1, r2, rP, rQ, rS, rT]
    rw [if_pos (by omega)]
    simp [rb_ok, rb_exn, rt_ok, rt_exn, rq_nx, rq_rt, rq_bk, rq_ct, rq_exn, m_ok, m_fail, okv_s, of_s, of_none, ite_s, ite_r, keep_va, keep_fr, sl_va, sl_ow, bl_r, in_r, ev_v, ev_c, ev_g, ev_bin, ev_neg, ev_cmp, ev_ch2, ev_isn, ev_isb, ev_and, ev_or, ev_not, ev_ife, ev_tup, ev_lst, ev_new, ev_ix, ev_sl, ev_call, ev_bi, ev_isi, ev_mt, lo_r, ce_r, ev_meth, ev_fld, ev_mk, ev_lc, nx_ok, lc_nil, evO_none, evO_some, evA_nil, evA_cons, evRs_nil, evRs_cons, evF_nil, evF_cons, tst_yes, ptst_of, ptst_and, ptst_or, ptst_not, truth_bl, truth_int, truth_lst, truth_non, op_r, evS_pass, evS_seq, evS_asg, evS_par, sls_va, sls_ow, evS_aug, evS_app, ls_s, evS_ext, evS_pop, evS_ex, re_va, re_fr, evS_ret, evS_retv, evS_retn, evS_ite, evS_while, loo_nx, loo_ct, loo_bk, loo_rt, evS_for, fo_nil, fo_cons, evS_brk, evS_cont, lo_s, in_s, evS_setfld, evS_augfld, li_s, nt_s, evS_setix, evS_try, ret_s, rr_rt, rr_nx, rr_exn, ix_lst, ix_tup, li_r, ix_loc, ix_str, ix_byt, add_int, add_str, add_tup, add_lst, sub_int, mul_int, div_int, mod_int, pow_int, ord_int, ord_str, cmp_lt, cmp_le, cmp_gt, cmp_ge, cmp_in, sl_lst, sl_scr, sl_tup, sl_byt, len_lst, len_tup, len_scr, len_str, len_byt, b_int, b_abs, b_tupl, b_lstl, b_lstt, b_lstb, aug_add, aug_sub, mk_l, mk_t, mk_s, is_1, is_2, is_3, is_4, is_5, is_6, is_7, se_va, se_fr, se_tu, ro_nil, ro_cons, bi_n, bi_t, bi_l, bl_n, bl_c, fz_nil, fz_cons, fz1_ow, fz1_va, fz1_un, wi_nil, wi_cons, it_l, it_t, it_c, it_s, it_r, it_zl, it_zt, it_e, non_1, non_2, non_3, non_4, non_5, non_6, atI_0, atI_1, atI_2, atI_3, atI_4, eq_int, ne_int, ne_byt, eq_byt, big_v, r1, r2, rP, rQ, rS, rT]
    rw [if_pos (by omega)]
    simp [rb_ok, rb_exn, rt_ok, rt_exn, rq_nx, rq_rt, rq_bk, rq_ct, rq_exn, m_ok, m_fail, okv_s, of_s, of_none, ite_s, ite_r, keep_va, keep_fr, sl_va, sl_ow, bl_r, in_r, ev_v, ev_c, ev_g, ev_bin, ev_neg, ev_cmp, ev_ch2, ev_isn, ev_isb, ev_and, ev_or, ev_not, ev_ife, ev_tup, ev_lst, ev_new, ev_ix, ev_sl, ev_call, ev_bi, ev_isi, ev_mt, lo_r, ce_r, ev_meth, ev_fld, ev_mk, ev_lc, nx_ok, lc_nil, evO_none, evO_some, evA_nil, evA_cons, evRs_nil, evRs_cons, evF_nil, evF_cons, tst_yes, ptst_of, ptst_and, ptst_or, ptst_not, truth_bl, truth_int, truth_lst, truth_non, op_r, evS_pass, evS_seq, evS_asg, evS_par, sls_va, sls_ow, evS_aug, evS_app, ls_s, evS_ext, evS_pop, evS_ex, re_va, re_fr, evS_ret, evS_retv, evS_retn, evS_ite, evS_while, loo_nx, loo_ct, loo_bk, loo_rt, evS_for, fo_nil, fo_cons, evS_brk, evS_cont, lo_s, in_s, evS_setfld, evS_augfld, li_s, nt_s, evS_setix, evS_try, ret_s, rr_rt, rr_nx, rr_exn, ix_lst, ix_tup, li_r, ix_loc, ix_str, ix_byt, add_int, add_str, add_tup, add_lst, sub_int, mul_int, div_int, mod_int, pow_int, ord_int, ord_str, cmp_lt, cmp_le, cmp_gt, cmp_ge, cmp_in, sl_lst, sl_scr, sl_tup, sl_byt, len_lst, len_tup, len_scr, len_str, len_byt, b_int, b_abs, b_tupl, b_lstl, b_lstt, b_lstb, aug_add, aug_sub, mk_l, mk_t, mk_s, is_1, is_2, is_3, is_4, is_5, is_6, is_7, se_va, se_fr, se_tu, ro_nil, ro_cons, bi_n, bi_t, bi_l, bl_n, bl_c, fz_nil, fz_cons, fz1_ow, fz1_va, fz1_un, wi_nil, wi_cons, it_l, it_t, it_c, it_s, it_r, it_zl, it_zt, it_e, non_1, non_2, non_3, non_4, non_5, non_6, atI_0, atI_1, atI_2, atI_3, atI_4, eq_int, ne_int, ne_byt, eq_byt, big_v]
    rw [if_pos (by omega)]
    simp [rb_ok, rb_exn, rt_ok, rt_exn, rq_nx, rq_rt, rq_bk, rq_ct, rq_exn, m_ok, m_fail, okv_s, of_s, of_none, ite_s, ite_r, keep_va, keep_fr, sl_va, sl_ow, bl_r, in_r, ev_v, ev_c, ev_g, ev_bin, ev_neg, ev_cmp, ev_ch2, ev_isn, ev_isb, ev_and, ev_or, ev_not, ev_ife, ev_tup, ev_lst, ev_new, ev_ix, ev_sl, ev_call, ev_bi, ev_isi, ev_mt, lo_r, ce_r, ev_meth, ev_fld, ev_mk, ev_lc, nx_ok, lc_nil, evO_none, evO_some, evA_nil, evA_cons, evRs_nil, evRs_cons, evF_nil, evF_cons, tst_yes, ptst_of, ptst_and, ptst_or, ptst_not, truth_bl, truth_int, truth_lst, truth_non, op_r, evS_pass, evS_seq, evS_asg, evS_par, sls_va, sls_ow, evS_aug, evS_app, ls_s, evS_ext, evS_pop, evS_ex, re_va, re_fr, evS_ret, evS_retv, evS_retn, evS_ite, evS_while, loo_nx, loo_ct, loo_bk, loo_rt, evS_for, fo_nil, fo_cons, evS_brk, evS_cont, lo_s, in_s, evS_setfld, evS_augfld, li_s, nt_s, evS_setix, evS_try, ret_s, rr_rt, rr_nx, rr_exn, ix_lst, ix_tup, li_r, ix_loc, ix_str, ix_byt, add_int, add_str, add_tup, add_lst, sub_int, mul_int, div_int, mod_int, pow_int, ord_int, ord_str, cmp_lt, cmp_le, cmp_gt, cmp_ge, cmp_in, sl_lst, sl_scr, sl_tup, sl_byt, len_lst, len_tup, len_scr, len_str, len_byt, b_int, b_abs, b_tupl, b_lstl, b_lstt, b_lstb, aug_add, aug_sub, mk_l, mk_t, mk_s, is_1, is_2, is_3, is_4, is_5, is_6, is_7, se_va, se_fr, se_tu, ro_nil, ro_cons, bi_n, bi_t, bi_l, bl_n, bl_c, fz_nil, fz_cons, fz1_ow, fz1_va, fz1_un, wi_nil, wi_cons, it_l, it_t, it_c, it_s, it_r, it_zl, it_zt, it_e, non_1, non_2, non_3, non_4, non_5, non_6, atI_0, atI_1, atI_2, atI_3, atI_4, eq_int, ne_int, ne_byt, eq_byt, Kd.enc, tI]
  | .cho1 k, h, hp, n, st, hn => by
    obtain ⟨m, rfl⟩ : ∃ m, n = m + 2 := ⟨n - 2, by omega⟩
    simp [Kd.deep, Kd.parts] at hn hp
    have r1 := fun st => row_ok k h (by omega) (m + 1) st (by omega)
    have e := enc_len k h
    rw [c__law_kind_row]
    simp [fd__law_kind_row, rb_ok, rb_exn, rt_ok, rt_exn, rq_nx, rq_rt, rq_bk, rq_ct, rq_exn, m_ok, m_fail, okv_s, of_s, of_none, ite_s, ite_r, keep_va, keep_fr, sl_va, sl_ow, bl_r, in_r, ev_v, ev_c, ev_g, ev_bin, ev_neg, ev_cmp, ev_ch2, ev_isn, ev_isb, ev_and, ev_or, ev_not, ev_ife, ev_tup, ev_lst, ev_new, ev_ix, ev_sl, ev_call, ev_bi, ev_isi, ev_mt, lo_r, ce_r, ev_meth, ev_fld, ev_mk, ev_lc, nx_ok, lc_nil, evO_none, evO_some, evA_nil, evA_cons, evRs_nil, evRs_cons, evF_nil, evF_cons, tst_yes, ptst_of, ptst_and, ptst_or, ptst_not, truth_bl, truth_int, truth_lst, truth_non, op_r, evS_pass, evS_seq, evS_asg, evS_par, sls_va, sls_ow, evS_aug, evS_app, ls_s, evS_ext, evS_pop, evS_ex, re_va, re_fr, evS_ret, evS_retv, evS_retn, evS_ite, evS_while, loo_nx, loo_ct, loo_bk, loo_rt, evS_for, fo_nil, fo_cons, evS_brk, evS_cont, lo_s, in_s, evS_setfld, evS_augfld, li_s, nt_s, evS_setix, evS_try, ret_s, rr_rt, rr_nx, rr_exn, ix_lst, ix_tup, li_r, ix_loc, ix_str, ix_byt, add_int, add_str, add_tup, add_lst, sub_int, mul_int, div_int, mod_int, pow_int, ord_int, ord_str, cmp_lt, cmp_le, cmp_gt, cmp_ge, cmp_in, sl_lst, sl_scr, sl_tup, sl_byt, len_lst, len_tup, len_scr, len_str, len_byt, b_int, b_abs, b_tupl, b_lstl, b_lstt, b_lstb, aug_add, aug_sub, mk_l, mk_t, mk_s, is_1, is_2, is_3, is_4, is_5, is_6, is_7, se_va, se_fr, se_tu, ro_nil, ro_cons, bi_n, bi_t, bi_l, bl_n, bl_c, fz_nil, fz_cons, fz1_ow, fz1_va, fz1_un, wi_nil, wi_cons, it_l, it_t, it_c, it_s, it_r, it_zl, it_zt, it_e, non_1, non_2, non_3, non_4, non_5, non_6, atI_0, atI_1, atI_2, atI_3, atI_4, eq_int, ne_int, ne_byt, eq_byt, Kd.t, big_v, li_4, eq_str, ok_1, ok_2, ok_3, ok_4, ok_5, r1, nR1, nR2, rP, rQ, rS, rT]
    rw [if_pos (by omega)]
    simp [rb_ok, rb_exn, rt_ok, rt_exn, rq_nx, rq_rt, rq_bk, rq_ct, rq_exn, m_ok, m_fail, okv_s, of_s, of_none, ite_s, ite_r, keep_va, keep_fr, sl_va, sl_ow, bl_r, in_r, ev_v, ev_c, ev_g, ev_bin, ev_neg, ev_cmp, ev_ch2, ev_isn, ev_isb, ev_and, ev_or, ev_not, ev_ife, ev_tup, ev_lst, ev_new, ev_ix, ev_sl, ev_call, ev_bi, ev_isi, ev_mt, lo_r, ce_r, ev_meth, ev_fld, ev_mk, ev_lc, nx_ok, lc_nil, evO_none, evO_some, evA_nil, evA_cons, evRs_nil, evRs_cons, evF_nil, evF_cons, tst_yes, ptst_of, ptst_and, ptst_or, ptst_not, truth_bl, truth_int, truth_lst, truth_non, op_r, evS_pass, evS_seq, evS_asg, evS_par, sls_va, sls_ow, evS_aug, evS_app, ls_s, evS_ext, evS_pop, evS_ex, re_va, re_fr, evS_ret, evS_retv, evS_retn, evS_ite, evS_while, loo_nx, loo_ct, loo_bk, loo_rt, evS_for, fo_nil, fo_cons, evS_brk, evS_cont, lo_s, in_s, evS_setfld, evS_augfld, li_s, nt_s, evS_setix, evS_try, ret_s, rr_rt, rr_nx, rr_exn, ix_lst, ix_tup, li_r, ix_loc, ix_str, ix_byt, add_int, add_str, add_tup, add_lst, sub_int, mul_int, div_int, mod_int, pow_int, ord_int, ord_str, cmp_lt, cmp_le, cmp_gt, cmp_ge, cmp_in, sl_lst, sl_scr, sl_tup, sl_byt, len_lst, len_tup, len_scr, len_str, len_byt, b_int, b_abs, b_tupl, b_lstl, b_lstt, b_lstb, aug_add, aug_sub, mk_l, mk_t, mk_s, is_1, is_2, is_3, is_4, is_5, is_6, is_7, se_va, se_fr, se_tu, ro_nil, ro_cons, bi_n, bi_t, bi_l, bl_n, bl_c, fz_nil, fz_cons, fz1_ow, fz1_va, fz1_un, wi_nil, wi_cons, it_l, it_t, it_c, it_s, it_r, it_zl, it_zt, it_e, non_1, non_2, non_3, non_4, non_5, non_6, atI_0, atI_1, atI_2, atI_3, atI_4, eq_int, ne_int, ne_byt, eq_byt, big_v]
    rw [if_pos (by omega)]
    simp [rb_ok, rb_exn, rt_ok, rt_exn, rq_nx, rq_rt, rq_bk, rq_ct, rq_exn, m_ok, m_fail, okv_s, of_s, of_none, ite_s, ite_r, keep_va, keep_fr, sl_va, sl_ow, bl_r, in_r, ev_v, ev_c, ev_g, ev_bin, ev_neg, ev_cmp, ev_ch2, ev_isn, ev_isb, ev_and, ev_or, ev_not, ev_ife, ev_tup, ev_lst, ev_new, ev_ix, ev_sl, ev_call, ev_bi, ev_isi, ev_mt, lo_r, ce_r, ev_meth, ev_fld, ev_mk, ev_lc, nx_ok, lc_nil, evO_none, evO_some, evA_nil, evA_cons, evRs_nil, evRs_cons, evF_nil, evF_cons, tst_yes, ptst_of, ptst_and, ptst_or, ptst_not, truth_bl, truth_int, truth_lst, truth_non, op_r, evS_pass, evS_seq, evS_asg, evS_par, sls_va, sls_ow, evS_aug, evS_app, ls_s, evS_ext, evS_pop, evS_ex, re_va, re_fr, evS_ret, evS_retv, evS_retn, evS_ite, evS_while, loo_nx, loo_ct, loo_bk, loo_rt, evS_for, fo_nil, fo_cons, evS_brk, evS_cont, lo_s, in_s, evS_setfld, evS_augfld, li_s, nt_s, evS_setix, evS_try, ret_s, rr_rt, rr_nx, rr_exn, ix_lst, ix_tup, li_r, ix_loc, ix_str, ix_byt, add_int, add_str, add_tup, add_lst, sub_int, mul_int, div_int, mod_int, pow_int, ord_int, ord_str, cmp_lt, cmp_le, cmp_gt, cmp_ge, cmp_in, sl_lst, sl_scr, sl_tup, sl_byt, len_lst, len_tup, len_scr, len_str, len_byt, b_int, b_abs, b_tupl, b_lstl, b_lstt, b_lstb, aug_add, aug_sub, mk_l, mk_t, mk_s, is_1, is_2, is_3, is_4, is_5, is_6, is_7, se_va, se_fr, se_tu, ro_nil, ro_cons, bi_n, bi_t, bi_l, bl_n, bl_c, fz_nil, fz_cons, fz1_ow, fz1_va, fz1_un, wi_nil, wi_cons, it_l, it_t, it_c, it_s, it_r, it_zl, it_zt, it_e, non_1, non_2, non_3, non_4, non_5, non_6, atI_0, atI_1, atI_2, atI_3, atI_4, eq_int, ne_int, ne_byt, eq_byt, Kd.enc, tI]
  | .cho2 k l, h, hp, n, st, hn => by
    obtain ⟨m, rfl⟩ : ∃ m, n = m + 2 := ⟨n - 2, by omega⟩
    simp [Kd.deep, Kd.parts] at hn hp
    have r1 := fun st => row_ok k h.1 (by omega) (m + 1) st (by omega)
    have r2 := fun st => row_ok l h.2 (by omega) (m + 1) st (by omega)
    have e := enc_len k h.1
    have e2 := enc_len l h.2
    rw [c__law_kind_row]
    simp [fd__law_kind_row, rb_ok, rb_exn, rt_ok, rt_exn, rq_nx, rq_rt, rq_bk, rq_ct, rq_exn, m_ok, m_fail, okv_s, of_s, of_none, ite_s, ite_r, keep_va, keep_fr, sl_va, sl_ow, bl_r, in_r, ev_v, ev_c, ev_g, ev_bin, ev_neg, ev_cmp, ev_ch2, ev_isn, ev_isb, ev_and, ev_or, ev_not, ev_ife, ev_tup, ev_lst, ev_new, ev_ix, ev_sl, ev_call, ev_bi, ev_isi, ev_mt, lo_r, ce_r, ev_meth, ev_fld, ev_mk, ev_lc, nx_ok, lc_nil, evO_none, evO_some, evA_nil, evA_cons, evRs_nil, evRs_cons, evF_nil, evF_cons, tst_yes, ptst_of, ptst_and, ptst_or, ptst_not, truth_bl, truth_int, truth_lst, truth_non, op_r, evS_pass, evS_seq, evS_asg, evS_par, sls_va, sls_ow, evS_aug, evS_app, ls_s, evS_ext, evS_pop, evS_ex, re_va, re_fr, evS_ret, evS_retv, evS_retn, evS_ite, evS_while, loo_nx, loo_ct, loo_bk, loo_rt, evS_for, fo_nil, fo_cons, evS_brk, evS_cont, lo_s, in_s, evS_setfld, evS_augfld, li_s, nt_s, evS_setix, evS_try, ret_s, rr_rt, rr_nx, rr_exn, ix_lst, ix_tup, li_r, ix_loc, ix_str, ix_byt, add_int, add_str, add_tup, add_lst, sub_int, mul_int, div_int, mod_int, pow_int, ord_int, ord_str, cmp_lt, cmp_le, cmp_gt, cmp_ge, cmp_in, sl_lst, sl_scr, sl_tup, sl_byt, len_lst, len_tup, len_scr, len_str, len_byt, b_int, b_abs, b_tupl, b_lstl, b_lstt, b_lstb, aug_add, aug_sub, mk_l, mk_t, mk_s, is_1, is_2, is_3, is_4, is_5, is_6, is_7, se_va, se_fr, se_tu, ro_nil, ro_cons, bi_n, bi_t, bi_l, bl_n, bl_c, fz_nil, fz_cons, fz1_ow, fz1_va, fz1_un, wi_nil, wi_cons, it_l, it_t, it_c, it_s, it_r, it_zl, it_zt, it_e, non_1, non_2, non_3, non_4, non_5, non_6, atI_0, atI_1, atI_2, atI_3, atI_4, eq_int, ne_int, ne_byt, eq_byt, Kd.t, big_v, li_4, eq_str, ok_1, ok_2, ok_3, ok_4, ok_5, r1, r2, nR1, nR2, rP, rQ, rS, rT]
    rw [if_pos (by omega)]
    simp [rb_ok, rb_exn, rt_ok, rt_exn, rq_nx, rq_rt, rq_bk, rq_ct, rq_exn, m_ok, m_fail, okv_s, of_s, of_none, ite_s, ite_r, keep_va, keep_fr, sl_va, sl_ow, bl_r, in_r, ev_v, ev_c, ev_g, ev_bin, ev_neg, ev_cmp, ev_ch2, ev_isn, ev_isb, ev_and, ev_or, ev_not, ev_ife, ev_tup, ev_lst, ev_new, ev_ix, ev_sl, ev_call, ev_bi, ev_isi, ev_mt, lo_r, ce_r, ev_meth, ev_fld, ev_mk, ev_lc, nx_ok, lc_nil, evO_none, evO_some, evA_nil, evA_cons, evRs_nil, evRs_cons, evF_nil, evF_cons, tst_yes, ptst_of, ptst_and, ptst_or, ptst_not, truth_bl, truth_int, truth_lst, truth_non, op_r, evS_pass, evS_seq, evS_asg, evS_par, sls_va, sls_ow, evS_aug, evS_app, ls_s, evS_ext, evS_pop, evS_ex, re_va, re_fr, evS_ret, evS_retv, evS_retn, evS_ite, evS_while, loo_nx, loo_ct, loo_bk, loo_rt, evS_for, fo_nil, fo_cons, evS_brk, evS_cont, lo_s, in_s, evS_setfld, evS_augfld, li_s, nt_s, evS_setix, evS_try, ret_s, rr_rt, rr_nx, rr_exn, ix_lst, ix_tup, li_r, ix_loc, ix_str, ix_byt, add_int, add_str, add_tup, add_lst, sub_int, mul_int, div_int, mod_int, pow_int, ord_int, ord_str, cmp_lt, cmp_le, cmp_gt, cmp_ge, cmp_in, sl_lst, sl_scr, sl_tup, sl_byt, len_lst, len_tup, len_scr, len_str, len_byt, b_int, b_abs, b_tupl, b_lstl, b_lstt, b_lstb, aug_add, aug_sub, mk_l, mk_t, mk_s, is_1, is_2, is_3, is_4, is_5, is_6, is_7, se_va, se_fr, se_tu, ro_nil, ro_cons, bi_n, bi_t, bi_l, bl_n, bl_c, fz_nil, fz_cons, fz1_ow, fz1_va, fz1_un, wi_nil, wi_cons, it_l, it_t, it_c, it_s, it_r, it_zl, it_zt, it_e, non_1, non_2, non_3, non_4, non_5, non_6, atI_0, atI_1, atI_2, atI_3, atI_4, eq_int, ne_int, ne_byt, eq_byt, big_v, r1, r2, rP, rQ, rS, rT]
    rw [if_pos (by omega)]
    simp [rb_ok, rb_exn, rt_ok, rt_exn, rq_nx, rq_rt, rq_bk, rq_ct, rq_exn, m_ok, m_fail, okv_s, of_s, of_none, ite_s, ite_r, keep_va, keep_fr, sl_va, sl_ow, bl_r, in_r, ev_v, ev_c, ev_g, ev_bin, ev_neg, ev_cmp, ev_ch2, ev_isn, ev_isb, ev_and, ev_or, ev_not, ev_ife, ev_tup, ev_lst, ev_new, ev_ix, ev_sl, ev_call, ev_bi, ev_isi, ev_mt, lo_r, ce_r, ev_meth, ev_fld, ev_mk, ev_lc, nx_ok, lc_nil, evO_none, evO_some, evA_nil, evA_cons, evRs_nil, evRs_cons, evF_nil, evF_cons, tst_yes, ptst_of, ptst_and, ptst_or, ptst_not, truth_bl, truth_int, truth_lst, truth_non, op_r, evS_pass, evS_seq, evS_asg, evS_par, sls_va, sls_ow, evS_aug, evS_app, ls_s, evS_ext, evS_pop, evS_ex, re_va, re_fr, evS_ret, evS_retv, evS_retn, evS_ite, evS_while, loo_nx, loo_ct, loo_bk, loo_rt, evS_for, fo_nil, fo_cons, evS_brk, evS_cont, lo_s, in_s, evS_setfld, evS_augfld, li_s, nt_s, evS_setix, evS_try, ret_s, rr_rt, rr_nx, rr_exn, ix_lst, ix_tup, li_r, ix_loc, ix_str, ix_byt, add_int, add_str, add_tup, add_lst, sub_int, mul_int, div_int, mod_int, pow_int, ord_int, ord_str, cmp_lt, cmp_le, cmp_gt, cmp_ge, cmp_in, sl_lst, sl_scr, sl_tup, sl_byt, len_lst, len_tup, len_scr, len_str, len_byt, b_int, b_abs, b_tupl, b_lstl, b_lstt, b_lstb, aug_add, aug_sub, mk_l, mk_t, mk_s, is_1, is_2, is_3, is_4, is_5, is_6, is_7, se_va, se_fr, se_tu, ro_nil, ro_cons, bi_n, bi_t, bi_l, bl_n, bl_c, fz_nil, fz_cons, fz1_ow, fz1_va, fz1_un, wi_nil, wi_cons, it_l, it_t, it_c, it_s, it_r, it_zl, it_zt, it_e, non_1, non_2, non_3, non_4, non_5, non_6, atI_0, atI_1, atI_2, atI_3, atI_4, eq_int, ne_int, ne_byt, eq_byt, big_v, r1, r2, rP, rQ, rS, rT]
    rw [if_pos (by omega)]
    simp [rb_ok, rb_exn, rt_ok, rt_exn, rq_nx, rq_rt, rq_bk, rq_ct, rq_exn, m_ok, m_fail, okv_s, of_s, of_none, ite_s, ite_r, keep_va, keep_fr, sl_va, sl_ow, bl_r, in_r, ev_v, ev_c, ev_g, ev_bin, ev_neg, ev_cmp, ev_ch2, ev_isn, ev_isb, ev_and, ev_or, ev_not, ev_ife, ev_tup, ev_lst, ev_new, ev_ix, ev_sl, ev_call, ev_bi, ev_isi, ev_mt, lo_r, ce_r, ev_meth, ev_fld, ev_mk, ev_lc, nx_ok, lc_nil, evO_none, evO_some, evA_nil, evA_cons, evRs_nil, evRs_cons, evF_nil, evF_cons, tst_yes, ptst_of, ptst_and, ptst_or, ptst_not, truth_bl, truth_int, truth_lst, truth_non, op_r, evS_pass, evS_seq, evS_asg, evS_par, sls_va, sls_ow, evS_aug, evS_app, ls_s, evS_ext, evS_pop, evS_ex, re_va, re_fr, evS_ret, evS_retv, evS_retn, evS_ite, evS_while, loo_nx, loo_ct, loo_bk, loo_rt, evS_for, fo_nil, fo_cons, evS_brk, evS_cont, lo_s, in_s, evS_setfld, evS_augfld, li_s, nt_s, evS_setix, evS_try, ret_s, rr_rt, rr_nx, rr_exn, ix_lst, ix_tup, li_r, ix_loc, ix_str, ix_byt, add_int, add_str, add_tup, add_lst, sub_int, mul_int, div_int, mod_int, pow_int, ord_int, ord_str, cmp_lt, cmp_le, cmp_gt, cmp_ge, cmp_in, sl_lst, sl_scr, sl_tup, sl_byt, len_lst, len_tup, len_scr, len_str, len_byt, b_int, b_abs, b_tupl, b_lstl, b_lstt, b_lstb, aug_add, aug_sub, mk_l, mk_t, mk_s, is_1, is_2, is_3, is_4, is_5, is_6, is_7, se_va, se_fr, se_tu, ro_nil, ro_cons, bi_n, bi_t, bi_l, bl_n, bl_c, fz_nil, fz_cons, fz1_ow, fz1_va, fz1_un, wi_nil, wi_cons, it_l, it_t, it_c, it_s, it_r, it_zl, it_zt, it_e, non_1, non_2, non_3, non_4, non_5, non_6, atI_0, atI_1, atI_2, atI_3, atI_4, eq_int, ne_int, ne_byt, eq_byt, big_v]
    rw [if_pos (by omega)]
    simp [rb_ok, rb_exn, rt_ok, rt_exn, rq_nx, rq_rt, rq_bk, rq_ct, rq_exn, m_ok, m_fail, okv_s, of_s, of_none, ite_s, ite_r, keep_va, keep_fr, sl_va, sl_ow, bl_r, in_r, ev_v, ev_c, ev_g, ev_bin, ev_neg, ev_cmp, ev_ch2, ev_isn, ev_isb, ev_and, ev_or, ev_not, ev_ife, ev_tup, ev_lst, ev_new, ev_ix, ev_sl, ev_call, ev_bi, ev_isi, ev_mt, lo_r, ce_r, ev_meth, ev_fld, ev_mk, ev_lc, nx_ok, lc_nil, evO_none, evO_some, evA_nil, evA_cons, evRs_nil, evRs_cons, evF_nil, evF_cons, tst_yes, ptst_of, ptst_and, ptst_or, ptst_not, truth_bl, truth_int, truth_lst, truth_non, op_r, evS_pass, evS_seq, evS_asg, evS_par, sls_va, sls_ow, evS_aug, evS_app, ls_s, evS_ext, evS_pop, evS_ex, re_va, re_fr, evS_ret, evS_retv, evS_retn, evS_ite, evS_while, loo_nx, loo_ct, loo_bk, loo_rt, evS_for, fo_nil, fo_cons, evS_brk, evS_cont, lo_s, in_s, evS_setfld, evS_augfld, li_s, nt_s, evS_setix, evS_try, ret_s, rr_rt, rr_nx, rr_exn, ix_lst, ix_tup, li_r, ix_loc, ix_str, ix_byt, add_int, add_str, add_tup, add_lst, sub_int, mul_int, div_int, mod_int, pow_int, ord_int, ord_str, cmp_lt, cmp_le, cmp_gt, cmp_ge, cmp_in, sl_lst, sl_scr, sl_tup, sl_byt, len_lst, len_tup, len_scr, len_str, len_byt, b_int, b_abs, b_tupl, b_lstl, b_lstt, b_lstb, aug_add, aug_sub, mk_l, mk_t, mk_s, is_1, is_2, is_3, is_4, is_5, is_6, is_7, se_va, se_fr, se_tu, ro_nil, ro_cons, bi_n, bi_t, bi_l, bl_n, bl_c, fz_nil, fz_cons, fz1_ow, fz1_va, fz1_un, wi_nil, wi_cons, it_l, it_t, it_c, it_s, it_r, it_zl, it_zt, it_e, non_1, non_2, non_3, non_4, non_5, non_6, atI_0, atI_1, atI_2, atI_3, atI_4, eq_int, ne_int, ne_byt, eq_byt, Kd.enc, tI]
theorem oct_ok : ∀ (k : Kd), k.ok → k.parts ≤ 1000 → ∀ (n : Nat) (st : Store), k.deep + 3 ≤ n → callF Γ n F_raw_kind_octets [k.t] st = .ok (.lst (k.enc.map tI), .fr) st
  | .int a b, h, hp, n, st, hn => by
    obtain ⟨m, rfl⟩ : ∃ m, n = m + 3 := ⟨n - 3, by omega⟩
    obtain ⟨h1, h2, h3⟩ := h
    have e1 := numO_len 8 (zig a) (zig_lt (by omega))
    have e2 := numO_len 8 (zig b) (zig_lt (by omega))
    have r1 := fun st => sp_integer_octets m a st (by omega)
    have r2 := fun st => sp_integer_octets m b st (by omega)
    rw [c_raw_kind_octets]
    simp [fd_raw_kind_octets, rb_ok, rb_exn, rt_ok, rt_exn, rq_nx, rq_rt, rq_bk, rq_ct, rq_exn, m_ok, m_fail, okv_s, of_s, of_none, ite_s, ite_r, keep_va, keep_fr, sl_va, sl_ow, bl_r, in_r, ev_v, ev_c, ev_g, ev_bin, ev_neg, ev_cmp, ev_ch2, ev_isn, ev_isb, ev_and, ev_or, ev_not, ev_ife, ev_tup, ev_lst, ev_new, ev_ix, ev_sl, ev_call, ev_bi, ev_isi, ev_mt, lo_r, ce_r, ev_meth, ev_fld, ev_mk, ev_lc, nx_ok, lc_nil, evO_none, evO_some, evA_nil, evA_cons, evRs_nil, evRs_cons, evF_nil, evF_cons, tst_yes, ptst_of, ptst_and, ptst_or, ptst_not, truth_bl, truth_int, truth_lst, truth_non, op_r, evS_pass, evS_seq, evS_asg, evS_par, sls_va, sls_ow, evS_aug, evS_app, ls_s, evS_ext, evS_pop, evS_ex, re_va, re_fr, evS_ret, evS_retv, evS_retn, evS_ite, evS_while, loo_nx, loo_ct, loo_bk, loo_rt, evS_for, fo_nil, fo_cons, evS_brk, evS_cont, lo_s, in_s, evS_setfld, evS_augfld, li_s, nt_s, evS_setix, evS_try, ret_s, rr_rt, rr_nx, rr_exn, ix_lst, ix_tup, li_r, ix_loc, ix_str, ix_byt, add_int, add_str, add_tup, add_lst, sub_int, mul_int, div_int, mod_int, pow_int, ord_int, ord_str, cmp_lt, cmp_le, cmp_gt, cmp_ge, cmp_in, sl_lst, sl_scr, sl_tup, sl_byt, len_lst, len_tup, len_scr, len_str, len_byt, b_int, b_abs, b_tupl, b_lstl, b_lstt, b_lstb, aug_add, aug_sub, mk_l, mk_t, mk_s, is_1, is_2, is_3, is_4, is_5, is_6, is_7, se_va, se_fr, se_tu, ro_nil, ro_cons, bi_n, bi_t, bi_l, bl_n, bl_c, fz_nil, fz_cons, fz1_ow, fz1_va, fz1_un, wi_nil, wi_cons, it_l, it_t, it_c, it_s, it_r, it_zl, it_zt, it_e, non_1, non_2, non_3, non_4, non_5, non_6, atI_0, atI_1, atI_2, atI_3, atI_4, eq_int, ne_int, ne_byt, eq_byt, Kd.t, big_v, g_3, g_4, g_6, g_8, g_10, g_14, mk_t, evIn, T.flat, T.eqf, atI_m1, ok_6, ti_1, eq_str, ok_1, ok_2, ok_3, ok_4, ok_5, r1, r2]
    rw [if_pos (by omega)]
    simp [rb_ok, rb_exn, rt_ok, rt_exn, rq_nx, rq_rt, rq_bk, rq_ct, rq_exn, m_ok, m_fail, okv_s, of_s, of_none, ite_s, ite_r, keep_va, keep_fr, sl_va, sl_ow, bl_r, in_r, ev_v, ev_c, ev_g, ev_bin, ev_neg, ev_cmp, ev_ch2, ev_isn, ev_isb, ev_and, ev_or, ev_not, ev_ife, ev_tup, ev_lst, ev_new, ev_ix, ev_sl, ev_call, ev_bi, ev_isi, ev_mt, lo_r, ce_r, ev_meth, ev_fld, ev_mk, ev_lc, nx_ok, lc_nil, evO_none, evO_some, evA_nil, evA_cons, evRs_nil, evRs_cons, evF_nil, evF_cons, tst_yes, ptst_of, ptst_and, ptst_or, ptst_not, truth_bl, truth_int, truth_lst, truth_non, op_r, evS_pass, evS_seq, evS_asg, evS_par, sls_va, sls_ow, evS_aug, evS_app, ls_s, evS_ext, evS_pop, evS_ex, re_va, re_fr, evS_ret, evS_retv, evS_retn, evS_ite, evS_while, loo_nx, loo_ct, loo_bk, loo_rt, evS_for, fo_nil, fo_cons, evS_brk, evS_cont, lo_s, in_s, evS_setfld, evS_augfld, li_s, nt_s, evS_setix, evS_try, ret_s, rr_rt, rr_nx, rr_exn, ix_lst, ix_tup, li_r, ix_loc, ix_str, ix_byt, add_int, add_str, add_tup, add_lst, sub_int, mul_int, div_int, mod_int, pow_int, ord_int, ord_str, cmp_lt, cmp_le, cmp_gt, cmp_ge, cmp_in, sl_lst, sl_scr, sl_tup, sl_byt, len_lst, len_tup, len_scr, len_str, len_byt, b_int, b_abs, b_tupl, b_lstl, b_lstt, b_lstb, aug_add, aug_sub, mk_l, mk_t, mk_s, is_1, is_2, is_3, is_4, is_5, is_6, is_7, se_va, se_fr, se_tu, ro_nil, ro_cons, bi_n, bi_t, bi_l, bl_n, bl_c, fz_nil, fz_cons, fz1_ow, fz1_va, fz1_un, wi_nil, wi_cons, it_l, it_t, it_c, it_s, it_r, it_zl, it_zt, it_e, non_1, non_2, non_3, non_4, non_5, non_6, atI_0, atI_1, atI_2, atI_3, atI_4, eq_int, ne_int, ne_byt, eq_byt, r2, big_v]
    rw [if_pos (by omega)]
    simp [rb_ok, rb_exn, rt_ok, rt_exn, rq_nx, rq_rt, rq_bk, rq_ct, rq_exn, m_ok, m_fail, okv_s, of_s, of_none, ite_s, ite_r, keep_va, keep_fr, sl_va, sl_ow, bl_r, in_r, ev_v, ev_c, ev_g, ev_bin, ev_neg, ev_cmp, ev_ch2, ev_isn, ev_isb, ev_and, ev_or, ev_not, ev_ife, ev_tup, ev_lst, ev_new, ev_ix, ev_sl, ev_call, ev_bi, ev_isi, ev_mt, lo_r, ce_r, ev_meth, ev_fld, ev_mk, ev_lc, nx_ok, lc_nil, evO_none, evO_some, evA_nil, evA_cons, evRs_nil, evRs_cons, evF_nil, evF_cons, tst_yes, ptst_of, ptst_and, ptst_or, ptst_not, truth_bl, truth_int, truth_lst, truth_non, op_r, evS_pass, evS_seq, evS_asg, evS_par, sls_va, sls_ow, evS_aug, evS_app, ls_s, evS_ext, evS_pop, evS_ex, re_va, re_fr, evS_ret, evS_retv, evS_retn, evS_ite, evS_while, loo_nx, loo_ct, loo_bk, loo_rt, evS_for, fo_nil, fo_cons, evS_brk, evS_cont, lo_s, in_s, evS_setfld, evS_augfld, li_s, nt_s, evS_setix, evS_try, ret_s, rr_rt, rr_nx, rr_exn, ix_lst, ix_tup, li_r, ix_loc, ix_str, ix_byt, add_int, add_str, add_tup, add_lst, sub_int, mul_int, div_int, mod_int, pow_int, ord_int, ord_str, cmp_lt, cmp_le, cmp_gt, cmp_ge, cmp_in, sl_lst, sl_scr, sl_tup, sl_byt, len_lst, len_tup, len_scr, len_str, len_byt, b_int, b_abs, b_tupl, b_lstl, b_lstt, b_lstb, aug_add, aug_sub, mk_l, mk_t, mk_s, is_1, is_2, is_3, is_4, is_5, is_6, is_7, se_va, se_fr, se_tu, ro_nil, ro_cons, bi_n, bi_t, bi_l, bl_n, bl_c, fz_nil, fz_cons, fz1_ow, fz1_va, fz1_un, wi_nil, wi_cons, it_l, it_t, it_c, it_s, it_r, it_zl, it_zt, it_e, non_1, non_2, non_3, non_4, non_5, non_6, atI_0, atI_1, atI_2, atI_3, atI_4, eq_int, ne_int, ne_byt, eq_byt, Kd.enc, tI]
  | .word w, h, hp, n, st, hn => by
    obtain ⟨m, rfl⟩ : ∃ m, n = m + 4 := ⟨n - 4, by simp [Kd.deep] at hn; omega⟩
    have r1 := fun st => nmsO m w st
    have e := enc_len (.word w) h
    simp [Kd.enc, Kd.parts] at e
    rw [c_raw_kind_octets]
    simp [fd_raw_kind_octets, rb_ok, rb_exn, rt_ok, rt_exn, rq_nx, rq_rt, rq_bk, rq_ct, rq_exn, m_ok, m_fail, okv_s, of_s, of_none, ite_s, ite_r, keep_va, keep_fr, sl_va, sl_ow, bl_r, in_r, ev_v, ev_c, ev_g, ev_bin, ev_neg, ev_cmp, ev_ch2, ev_isn, ev_isb, ev_and, ev_or, ev_not, ev_ife, ev_tup, ev_lst, ev_new, ev_ix, ev_sl, ev_call, ev_bi, ev_isi, ev_mt, lo_r, ce_r, ev_meth, ev_fld, ev_mk, ev_lc, nx_ok, lc_nil, evO_none, evO_some, evA_nil, evA_cons, evRs_nil, evRs_cons, evF_nil, evF_cons, tst_yes, ptst_of, ptst_and, ptst_or, ptst_not, truth_bl, truth_int, truth_lst, truth_non, op_r, evS_pass, evS_seq, evS_asg, evS_par, sls_va, sls_ow, evS_aug, evS_app, ls_s, evS_ext, evS_pop, evS_ex, re_va, re_fr, evS_ret, evS_retv, evS_retn, evS_ite, evS_while, loo_nx, loo_ct, loo_bk, loo_rt, evS_for, fo_nil, fo_cons, evS_brk, evS_cont, lo_s, in_s, evS_setfld, evS_augfld, li_s, nt_s, evS_setix, evS_try, ret_s, rr_rt, rr_nx, rr_exn, ix_lst, ix_tup, li_r, ix_loc, ix_str, ix_byt, add_int, add_str, add_tup, add_lst, sub_int, mul_int, div_int, mod_int, pow_int, ord_int, ord_str, cmp_lt, cmp_le, cmp_gt, cmp_ge, cmp_in, sl_lst, sl_scr, sl_tup, sl_byt, len_lst, len_tup, len_scr, len_str, len_byt, b_int, b_abs, b_tupl, b_lstl, b_lstt, b_lstb, aug_add, aug_sub, mk_l, mk_t, mk_s, is_1, is_2, is_3, is_4, is_5, is_6, is_7, se_va, se_fr, se_tu, ro_nil, ro_cons, bi_n, bi_t, bi_l, bl_n, bl_c, fz_nil, fz_cons, fz1_ow, fz1_va, fz1_un, wi_nil, wi_cons, it_l, it_t, it_c, it_s, it_r, it_zl, it_zt, it_e, non_1, non_2, non_3, non_4, non_5, non_6, atI_0, atI_1, atI_2, atI_3, atI_4, eq_int, ne_int, ne_byt, eq_byt, Kd.t, big_v, g_3, g_4, g_6, g_8, g_10, g_14, mk_t, evIn, T.flat, T.eqf, atI_m1, ok_6, ti_2, eq_str, ok_1, ok_2, ok_3, ok_4, ok_5, r1]
    rw [if_pos (by omega)]
    simp [rb_ok, rb_exn, rt_ok, rt_exn, rq_nx, rq_rt, rq_bk, rq_ct, rq_exn, m_ok, m_fail, okv_s, of_s, of_none, ite_s, ite_r, keep_va, keep_fr, sl_va, sl_ow, bl_r, in_r, ev_v, ev_c, ev_g, ev_bin, ev_neg, ev_cmp, ev_ch2, ev_isn, ev_isb, ev_and, ev_or, ev_not, ev_ife, ev_tup, ev_lst, ev_new, ev_ix, ev_sl, ev_call, ev_bi, ev_isi, ev_mt, lo_r, ce_r, ev_meth, ev_fld, ev_mk, ev_lc, nx_ok, lc_nil, evO_none, evO_some, evA_nil, evA_cons, evRs_nil, evRs_cons, evF_nil, evF_cons, tst_yes, ptst_of, ptst_and, ptst_or, ptst_not, truth_bl, truth_int, truth_lst, truth_non, op_r, evS_pass, evS_seq, evS_asg, evS_par, sls_va, sls_ow, evS_aug, evS_app, ls_s, evS_ext, evS_pop, evS_ex, re_va, re_fr, evS_ret, evS_retv, evS_retn, evS_ite, evS_while, loo_nx, loo_ct, loo_bk, loo_rt, evS_for, fo_nil, fo_cons, evS_brk, evS_cont, lo_s, in_s, evS_setfld, evS_augfld, li_s, nt_s, evS_setix, evS_try, ret_s, rr_rt, rr_nx, rr_exn, ix_lst, ix_tup, li_r, ix_loc, ix_str, ix_byt, add_int, add_str, add_tup, add_lst, sub_int, mul_int, div_int, mod_int, pow_int, ord_int, ord_str, cmp_lt, cmp_le, cmp_gt, cmp_ge, cmp_in, sl_lst, sl_scr, sl_tup, sl_byt, len_lst, len_tup, len_scr, len_str, len_byt, b_int, b_abs, b_tupl, b_lstl, b_lstt, b_lstb, aug_add, aug_sub, mk_l, mk_t, mk_s, is_1, is_2, is_3, is_4, is_5, is_6, is_7, se_va, se_fr, se_tu, ro_nil, ro_cons, bi_n, bi_t, bi_l, bl_n, bl_c, fz_nil, fz_cons, fz1_ow, fz1_va, fz1_un, wi_nil, wi_cons, it_l, it_t, it_c, it_s, it_r, it_zl, it_zt, it_e, non_1, non_2, non_3, non_4, non_5, non_6, atI_0, atI_1, atI_2, atI_3, atI_4, eq_int, ne_int, ne_byt, eq_byt, Kd.enc, tI]
  | .list k, h, hp, n, st, hn => by
    obtain ⟨m, rfl⟩ : ∃ m, n = m + 1 := ⟨n - 1, by omega⟩
    simp [Kd.deep, Kd.parts] at hn hp
    have r1 := fun st => oct_ok k h (by omega) m st (by omega)
    have e := enc_len k h
    rw [c_raw_kind_octets]
    simp [fd_raw_kind_octets, rb_ok, rb_exn, rt_ok, rt_exn, rq_nx, rq_rt, rq_bk, rq_ct, rq_exn, m_ok, m_fail, okv_s, of_s, of_none, ite_s, ite_r, keep_va, keep_fr, sl_va, sl_ow, bl_r, in_r, ev_v, ev_c, ev_g, ev_bin, ev_neg, ev_cmp, ev_ch2, ev_isn, ev_isb, ev_and, ev_or, ev_not, ev_ife, ev_tup, ev_lst, ev_new, ev_ix, ev_sl, ev_call, ev_bi, ev_isi, ev_mt, lo_r, ce_r, ev_meth, ev_fld, ev_mk, ev_lc, nx_ok, lc_nil, evO_none, evO_some, evA_nil, evA_cons, evRs_nil, evRs_cons, evF_nil, evF_cons, tst_yes, ptst_of, ptst_and, ptst_or, ptst_not, truth_bl, truth_int, truth_lst, truth_non, op_r, evS_pass, evS_seq, evS_asg, evS_par, sls_va, sls_ow, evS_aug, evS_app, ls_s, evS_ext, evS_pop, evS_ex, re_va, re_fr, evS_ret, evS_retv, evS_retn, evS_ite, evS_while, loo_nx, loo_ct, loo_bk, loo_rt, evS_for, fo_nil, fo_cons, evS_brk, evS_cont, lo_s, in_s, evS_setfld, evS_augfld, li_s, nt_s, evS_setix, evS_try, ret_s, rr_rt, rr_nx, rr_exn, ix_lst, ix_tup, li_r, ix_loc, ix_str, ix_byt, add_int, add_str, add_tup, add_lst, sub_int, mul_int, div_int, mod_int, pow_int, ord_int, ord_str, cmp_lt, cmp_le, cmp_gt, cmp_ge, cmp_in, sl_lst, sl_scr, sl_tup, sl_byt, len_lst, len_tup, len_scr, len_str, len_byt, b_int, b_abs, b_tupl, b_lstl, b_lstt, b_lstb, aug_add, aug_sub, mk_l, mk_t, mk_s, is_1, is_2, is_3, is_4, is_5, is_6, is_7, se_va, se_fr, se_tu, ro_nil, ro_cons, bi_n, bi_t, bi_l, bl_n, bl_c, fz_nil, fz_cons, fz1_ow, fz1_va, fz1_un, wi_nil, wi_cons, it_l, it_t, it_c, it_s, it_r, it_zl, it_zt, it_e, non_1, non_2, non_3, non_4, non_5, non_6, atI_0, atI_1, atI_2, atI_3, atI_4, eq_int, ne_int, ne_byt, eq_byt, Kd.t, big_v, g_3, g_4, g_6, g_8, g_10, g_14, mk_t, evIn, T.flat, T.eqf, atI_m1, ok_6, ti_5, eq_str, ok_1, ok_2, ok_3, ok_4, ok_5, r1]
    rw [if_pos (by omega)]
    simp [rb_ok, rb_exn, rt_ok, rt_exn, rq_nx, rq_rt, rq_bk, rq_ct, rq_exn, m_ok, m_fail, okv_s, of_s, of_none, ite_s, ite_r, keep_va, keep_fr, sl_va, sl_ow, bl_r, in_r, ev_v, ev_c, ev_g, ev_bin, ev_neg, ev_cmp, ev_ch2, ev_isn, ev_isb, ev_and, ev_or, ev_not, ev_ife, ev_tup, ev_lst, ev_new, ev_ix, ev_sl, ev_call, ev_bi, ev_isi, ev_mt, lo_r, ce_r, ev_meth, ev_fld, ev_mk, ev_lc, nx_ok, lc_nil, evO_none, evO_some, evA_nil, evA_cons, evRs_nil, evRs_cons, evF_nil, evF_cons, tst_yes, ptst_of, ptst_and, ptst_or, ptst_not, truth_bl, truth_int, truth_lst, truth_non, op_r, evS_pass, evS_seq, evS_asg, evS_par, sls_va, sls_ow, evS_aug, evS_app, ls_s, evS_ext, evS_pop, evS_ex, re_va, re_fr, evS_ret, evS_retv, evS_retn, evS_ite, evS_while, loo_nx, loo_ct, loo_bk, loo_rt, evS_for, fo_nil, fo_cons, evS_brk, evS_cont, lo_s, in_s, evS_setfld, evS_augfld, li_s, nt_s, evS_setix, evS_try, ret_s, rr_rt, rr_nx, rr_exn, ix_lst, ix_tup, li_r, ix_loc, ix_str, ix_byt, add_int, add_str, add_tup, add_lst, sub_int, mul_int, div_int, mod_int, pow_int, ord_int, ord_str, cmp_lt, cmp_le, cmp_gt, cmp_ge, cmp_in, sl_lst, sl_scr, sl_tup, sl_byt, len_lst, len_tup, len_scr, len_str, len_byt, b_int, b_abs, b_tupl, b_lstl, b_lstt, b_lstb, aug_add, aug_sub, mk_l, mk_t, mk_s, is_1, is_2, is_3, is_4, is_5, is_6, is_7, se_va, se_fr, se_tu, ro_nil, ro_cons, bi_n, bi_t, bi_l, bl_n, bl_c, fz_nil, fz_cons, fz1_ow, fz1_va, fz1_un, wi_nil, wi_cons, it_l, it_t, it_c, it_s, it_r, it_zl, it_zt, it_e, non_1, non_2, non_3, non_4, non_5, non_6, atI_0, atI_1, atI_2, atI_3, atI_4, eq_int, ne_int, ne_byt, eq_byt, Kd.enc, tI]
  | .rec1 k, h, hp, n, st, hn => by
    obtain ⟨m, rfl⟩ : ∃ m, n = m + 2 := ⟨n - 2, by omega⟩
    simp [Kd.deep, Kd.parts] at hn hp
    have r1 := fun st => oct_ok k h (by omega) (m + 1) st (by omega)
    have e := enc_len k h
    rw [c_raw_kind_octets]
    simp [fd_raw_kind_octets, rb_ok, rb_exn, rt_ok, rt_exn, rq_nx, rq_rt, rq_bk, rq_ct, rq_exn, m_ok, m_fail, okv_s, of_s, of_none, ite_s, ite_r, keep_va, keep_fr, sl_va, sl_ow, bl_r, in_r, ev_v, ev_c, ev_g, ev_bin, ev_neg, ev_cmp, ev_ch2, ev_isn, ev_isb, ev_and, ev_or, ev_not, ev_ife, ev_tup, ev_lst, ev_new, ev_ix, ev_sl, ev_call, ev_bi, ev_isi, ev_mt, lo_r, ce_r, ev_meth, ev_fld, ev_mk, ev_lc, nx_ok, lc_nil, evO_none, evO_some, evA_nil, evA_cons, evRs_nil, evRs_cons, evF_nil, evF_cons, tst_yes, ptst_of, ptst_and, ptst_or, ptst_not, truth_bl, truth_int, truth_lst, truth_non, op_r, evS_pass, evS_seq, evS_asg, evS_par, sls_va, sls_ow, evS_aug, evS_app, ls_s, evS_ext, evS_pop, evS_ex, re_va, re_fr, evS_ret, evS_retv, evS_retn, evS_ite, evS_while, loo_nx, loo_ct, loo_bk, loo_rt, evS_for, fo_nil, fo_cons, evS_brk, evS_cont, lo_s, in_s, evS_setfld, evS_augfld, li_s, nt_s, evS_setix, evS_try, ret_s, rr_rt, rr_nx, rr_exn, ix_lst, ix_tup, li_r, ix_loc, ix_str, ix_byt, add_int, add_str, add_tup, add_lst, sub_int, mul_int, div_int, mod_int, pow_int, ord_int, ord_str, cmp_lt, cmp_le, cmp_gt, cmp_ge, cmp_in, sl_lst, sl_scr, sl_tup, sl_byt, len_lst, len_tup, len_scr, len_str, len_byt, b_int, b_abs, b_tupl, b_lstl, b_lstt, b_lstb, aug_add, aug_sub, mk_l, mk_t, mk_s, is_1, is_2, is_3, is_4, is_5, is_6, is_7, se_va, se_fr, se_tu, ro_nil, ro_cons, bi_n, bi_t, bi_l, bl_n, bl_c, fz_nil, fz_cons, fz1_ow, fz1_va, fz1_un, wi_nil, wi_cons, it_l, it_t, it_c, it_s, it_r, it_zl, it_zt, it_e, non_1, non_2, non_3, non_4, non_5, non_6, atI_0, atI_1, atI_2, atI_3, atI_4, eq_int, ne_int, ne_byt, eq_byt, Kd.t, big_v, g_3, g_4, g_6, g_8, g_10, g_14, mk_t, evIn, T.flat, T.eqf, atI_m1, ok_6, ti_3, eq_str, ok_1, ok_2, ok_3, ok_4, ok_5, r1, nO1, nO2, oP, oQ, oS, oT]
    rw [if_pos (by omega)]
    simp [rb_ok, rb_exn, rt_ok, rt_exn, rq_nx, rq_rt, rq_bk, rq_ct, rq_exn, m_ok, m_fail, okv_s, of_s, of_none, ite_s, ite_r, keep_va, keep_fr, sl_va, sl_ow, bl_r, in_r, ev_v, ev_c, ev_g, ev_bin, ev_neg, ev_cmp, ev_ch2, ev_isn, ev_isb, ev_and, ev_or, ev_not, ev_ife, ev_tup, ev_lst, ev_new, ev_ix, ev_sl, ev_call, ev_bi, ev_isi, ev_mt, lo_r, ce_r, ev_meth, ev_fld, ev_mk, ev_lc, nx_ok, lc_nil, evO_none, evO_some, evA_nil, evA_cons, evRs_nil, evRs_cons, evF_nil, evF_cons, tst_yes, ptst_of, ptst_and, ptst_or, ptst_not, truth_bl, truth_int, truth_lst, truth_non, op_r, evS_pass, evS_seq, evS_asg, evS_par, sls_va, sls_ow, evS_aug, evS_app, ls_s, evS_ext, evS_pop, evS_ex, re_va, re_fr, evS_ret, evS_retv, evS_retn, evS_ite, evS_while, loo_nx, loo_ct, loo_bk, loo_rt, evS_for, fo_nil, fo_cons, evS_brk, evS_cont, lo_s, in_s, evS_setfld, evS_augfld, li_s, nt_s, evS_setix, evS_try, ret_s, rr_rt, rr_nx, rr_exn, ix_lst, ix_tup, li_r, ix_loc, ix_str, ix_byt, add_int, add_str, add_tup, add_lst, sub_int, mul_int, div_int, mod_int, pow_int, ord_int, ord_str, cmp_lt, cmp_le, cmp_gt, cmp_ge, cmp_in, sl_lst, sl_scr, sl_tup, sl_byt, len_lst, len_tup, len_scr, len_str, len_byt, b_int, b_abs, b_tupl, b_lstl, b_lstt, b_lstb, aug_add, aug_sub, mk_l, mk_t, mk_s, is_1, is_2, is_3, is_4, is_5, is_6, is_7, se_va, se_fr, se_tu, ro_nil, ro_cons, bi_n, bi_t, bi_l, bl_n, bl_c, fz_nil, fz_cons, fz1_ow, fz1_va, fz1_un, wi_nil, wi_cons, it_l, it_t, it_c, it_s, it_r, it_zl, it_zt, it_e, non_1, non_2, non_3, non_4, non_5, non_6, atI_0, atI_1, atI_2, atI_3, atI_4, eq_int, ne_int, ne_byt, eq_byt, big_v]
    rw [if_pos (by omega)]
    simp [rb_ok, rb_exn, rt_ok, rt_exn, rq_nx, rq_rt, rq_bk, rq_ct, rq_exn, m_ok, m_fail, okv_s, of_s, of_none, ite_s, ite_r, keep_va, keep_fr, sl_va, sl_ow, bl_r, in_r, ev_v, ev_c, ev_g, ev_bin, ev_neg, ev_cmp, ev_ch2, ev_isn, ev_isb, ev_and, ev_or, ev_not, ev_ife, ev_tup, ev_lst, ev_new, ev_ix, ev_sl, ev_call, ev_bi, ev_isi, ev_mt, lo_r, ce_r, ev_meth, ev_fld, ev_mk, ev_lc, nx_ok, lc_nil, evO_none, evO_some, evA_nil, evA_cons, evRs_nil, evRs_cons, evF_nil, evF_cons, tst_yes, ptst_of, ptst_and, ptst_or, ptst_not, truth_bl, truth_int, truth_lst, truth_non, op_r, evS_pass, evS_seq, evS_asg, evS_par, sls_va, sls_ow, evS_aug, evS_app, ls_s, evS_ext, evS_pop, evS_ex, re_va, re_fr, evS_ret, evS_retv, evS_retn, evS_ite, evS_while, loo_nx, loo_ct, loo_bk, loo_rt, evS_for, fo_nil, fo_cons, evS_brk, evS_cont, lo_s, in_s, evS_setfld, evS_augfld, li_s, nt_s, evS_setix, evS_try, ret_s, rr_rt, rr_nx, rr_exn, ix_lst, ix_tup, li_r, ix_loc, ix_str, ix_byt, add_int, add_str, add_tup, add_lst, sub_int, mul_int, div_int, mod_int, pow_int, ord_int, ord_str, cmp_lt, cmp_le, cmp_gt, cmp_ge, cmp_in, sl_lst, sl_scr, sl_tup, sl_byt, len_lst, len_tup, len_scr, len_str, len_byt, b_int, b_abs, b_tupl, b_lstl, b_lstt, b_lstb, aug_add, aug_sub, mk_l, mk_t, mk_s, is_1, is_2, is_3, is_4, is_5, is_6, is_7, se_va, se_fr, se_tu, ro_nil, ro_cons, bi_n, bi_t, bi_l, bl_n, bl_c, fz_nil, fz_cons, fz1_ow, fz1_va, fz1_un, wi_nil, wi_cons, it_l, it_t, it_c, it_s, it_r, it_zl, it_zt, it_e, non_1, non_2, non_3, non_4, non_5, non_6, atI_0, atI_1, atI_2, atI_3, atI_4, eq_int, ne_int, ne_byt, eq_byt, Kd.enc, tI]
  | .rec2 k l, h, hp, n, st, hn => by
    obtain ⟨m, rfl⟩ : ∃ m, n = m + 2 := ⟨n - 2, by omega⟩
    simp [Kd.deep, Kd.parts] at hn hp
    have r1 := fun st => oct_ok k h.1 (by omega) (m + 1) st (by omega)
    have r2 := fun st => oct_ok l h.2 (by omega) (m + 1) st (by omega)
    have e := enc_len k h.1
    have e2 := enc_len l h.2
    rw [c_raw_kind_octets]
    simp [fd_raw_kind_octets, rb_ok, rb_exn, rt_ok, rt_exn, rq_nx, rq_rt, rq_bk, rq_ct, rq_exn, m_ok, m_fail, okv_s, of_s, of_none, ite_s, ite_r, keep_va, keep_fr, sl_va, sl_ow, bl_r, in_r, ev_v, ev_c, ev_g, ev_bin, ev_neg, ev_cmp, ev_ch2, ev_isn, ev_isb, ev_and, ev_or, ev_not, ev_ife, ev_tup, ev_lst, ev_new, ev_ix, ev_sl, ev_call, ev_bi, ev_isi, ev_mt, lo_r, ce_r, ev_meth, ev_fld, ev_mk, ev_lc, nx_ok, lc_nil, evO_none, evO_some, evA_nil, evA_cons, evRs_nil, evRs_cons, evF_nil, evF_cons, tst_yes, ptst_of, ptst_and, ptst_or, ptst_not, truth_bl, truth_int, truth_lst, truth_non, op_r, evS_pass, evS_seq, evS_asg, evS_par, sls_va, sls_ow, evS_aug, evS_app, ls_s, evS_ext, evS_pop, evS_ex, re_va, re_fr, evS_ret, evS_retv, evS_retn, evS_ite, evS_while, loo_nx, loo_ct, loo_bk, loo_rt, evS_for, fo_nil, fo_cons, evS_brk, evS_cont, lo_s, in_s, evS_setfld, evS_augfld, li_s, nt_s, evS_setix, evS_try, ret_s, rr_rt, rr_nx, rr_exn, ix_lst, ix_tup, li_r, ix_loc, ix_str, ix_byt, add_int, add_str, add_tup, add_lst, sub_int, mul_int, div_int, mod_int, pow_int, ord_int, ord_str, cmp_lt, cmp_le, cmp_gt, cmp_ge, cmp_in, sl_lst, sl_scr, sl_tup, sl_byt, len_lst, len_tup, len_scr, len_str, len_byt, b_int, b_abs, b_tupl, b_lstl, b_lstt, b_lstb, aug_add, aug_sub, mk_l, mk_t, mk_s, is_1, is_2, is_3, is_4, is_5, is_6, is_7, se_va, se_fr, se_tu, ro_nil, ro_cons, bi_n, bi_t, bi_l, bl_n, bl_c, fz_nil, fz_cons, fz1_ow, fz1_va, fz1_un, wi_nil, wi_cons, it_l, it_t, it_c, it_s, it_r, it_zl, it_zt, it_e, non_1, non_2, non_3, non_4, non_5, non_6, atI_0, atI_1, atI_2, atI_3, atI_4, eq_int, ne_int, ne_byt, eq_byt, Kd.t, big_v, g_3, g_4, g_6, g_8, g_10, g_14, mk_t, evIn, T.flat, T.eqf, atI_m1, ok_6, ti_3, eq_str, ok_1, ok_2, ok_3, ok_4, ok_5, r1, r2, nO1, nO2, oP, oQ, oS, oT]
    rw [if_pos (by omega)]
    simp [rb_ok, rb_exn, rt_ok, rt_exn, rq_nx, rq_rt, rq_bk, rq_ct, rq_exn, m_ok, m_fail, okv_s, of_s, of_none, ite_s, ite_r, keep_va, keep_fr, sl_va, sl_ow, bl_r, in_r, ev_v, ev_c, ev_g, ev_bin, ev_neg, ev_cmp, ev_ch2, ev_isn, ev_isb, ev_and, ev_or, ev_not, ev_ife, ev_tup, ev_lst, ev_new, ev_ix, ev_sl, ev_call, ev_bi, ev_isi, ev_mt, lo_r, ce_r, ev_meth, ev_fld, ev_mk, ev_lc, nx_ok, lc_nil, evO_none, evO_some, evA_nil, evA_cons, evRs_nil, evRs_cons, evF_nil, evF_cons, tst_yes, ptst_of, ptst_and, ptst_or, ptst_not, truth_bl, truth_int, truth_lst, truth_non, op_r, evS_pass, evS_seq, evS_asg, evS_par, sls_va, sls_ow, evS_aug, evS_app, ls_s, evS_ext, evS_pop, evS_ex, re_va, re_fr, evS_ret, evS_retv, evS_retn, evS_ite, evS_while, loo_nx, loo_ct, loo_bk, loo_rt, evS_for, fo_nil, fo_cons, evS_brk, evS_cont, lo_s, in_s, evS_setfld, evS_augfld, li_s, nt_s, evS_setix, evS_try, ret_s, rr_rt, rr_nx, rr_exn, ix_lst, ix_tup, li_r, ix_loc, ix_str, ix_byt, add_int, add_str, add_tup, add_lst, sub_int, mul_int, div_int, mod_int, pow_int, ord_int, ord_str, cmp_lt, cmp_le, cmp_gt, cmp_ge, cmp_in, sl_lst, sl_scr, sl_tup, sl_byt, len_lst, len_tup, len_scr, len_str, len_byt, b_int, b_abs, b_tupl, b_lstl, b_lstt, b_lstb, aug_add, aug_sub, mk_l, mk_t, mk_s, is_1, is_2, is_3, is_4, is_5, is_6, is_7, se_va, se_fr, se_tu, ro_nil, ro_cons, bi_n, bi_t, bi_l, bl_n, bl_c, fz_nil, fz_cons, fz1_ow, fz1_va, fz1_un, wi_nil, wi_cons, it_l, it_t, it_c, it_s, it_r, it_zl, it_zt, it_e, non_1, non_2, non_3, non_4, non_5, non_6, atI_0, atI_1, atI_2, atI_3, atI_4, eq_int, ne_int, ne_byt, eq_byt, big_v, r1, r2, oP, oQ, oS, oT]
    rw [if_pos (by omega)]
    simp [rb_ok, rb_exn, rt_ok, rt_exn, rq_nx, rq_rt, rq_bk, rq_ct, rq_exn, m_ok, m_fail, okv_s, of_s, of_none, ite_s, ite_r, keep_va, keep_fr, sl_va, sl_ow, bl_r, in_r, ev_v, ev_c, ev_g, ev_bin, ev_neg, ev_cmp, ev_ch2, ev_isn, ev_isb, ev_and, ev_or, ev_not, ev_ife, ev_tup, ev_lst, ev_new, ev_ix, ev_sl, ev_call, ev_bi, ev_isi, ev_mt, lo_r, ce_r, ev_meth, ev_fld, ev_mk, ev_lc, nx_ok, lc_nil, evO_none, evO_some, evA_nil, evA_cons, evRs_nil, evRs_cons, evF_nil, evF_cons, tst_yes, ptst_of, ptst_and, ptst_or, ptst_not, truth_bl, truth_int, truth_lst, truth_non, op_r, evS_pass, evS_seq, evS_asg, evS_par, sls_va, sls_ow, evS_aug, evS_app, ls_s, evS_ext, evS_pop, evS_ex, re_va, re_fr, evS_ret, evS_retv, evS_retn, evS_ite, evS_while, loo_nx, loo_ct, loo_bk, loo_rt, evS_for, fo_nil, fo_cons, evS_brk, evS_cont, lo_s, in_s, evS_setfld, evS_augfld, li_s, nt_s, evS_setix, evS_try, ret_s, rr_rt, rr_nx, rr_exn, ix_lst, ix_tup, li_r, ix_loc, ix_str, ix_byt, add_int, add_str, add_tup, add_lst, sub_int, mul_int, div_int, mod_int, pow_int, ord_int, ord_str, cmp_lt, cmp_le, cmp_gt, cmp_ge, cmp_in, sl_lst, sl_scr, sl_tup, sl_byt, len_lst, len_tup, len_scr, len_str, len_byt, b_int, b_abs, b_tupl, b_lstl, b_lstt, b_lstb, aug_add, aug_sub, mk_l, mk_t, mk_s, is_1, is_2, is_3, is_4, is_5, is_6, is_7, se_va, se_fr, se_tu, ro_nil, ro_cons, bi_n, bi_t, bi_l, bl_n, bl_c, fz_nil, fz_cons, fz1_ow, fz1_va, fz1_un, wi_nil, wi_cons, it_l, it_t, it_c, it_s, it_r, it_zl, it_zt, it_e, non_1, non_2, non_3, non_4, non_5, non_6, atI_0, atI_1, atI_2, atI_3, atI_4, eq_int, ne_int, ne_byt, eq_byt, big_v, r1, r2, oP, oQ, oS, oT]
    rw [if_pos (by omega)]
    simp [rb_ok, rb_exn, rt_ok, rt_exn, rq_nx, rq_rt, rq_bk, rq_ct, rq_exn, m_ok, m_fail, okv_s, of_s, of_none, ite_s, ite_r, keep_va, keep_fr, sl_va, sl_ow, bl_r, in_r, ev_v, ev_c, ev_g, ev_bin, ev_neg, ev_cmp, ev_ch2, ev_isn, ev_isb, ev_and, ev_or, ev_not, ev_ife, ev_tup, ev_lst, ev_new, ev_ix, ev_sl, ev_call, ev_bi, ev_isi, ev_mt, lo_r, ce_r, ev_meth, ev_fld, ev_mk, ev_lc, nx_ok, lc_nil, evO_none, evO_some, evA_nil, evA_cons, evRs_nil, evRs_cons, evF_nil, evF_cons, tst_yes, ptst_of, ptst_and, ptst_or, ptst_not, truth_bl, truth_int, truth_lst, truth_non, op_r, evS_pass, evS_seq, evS_asg, evS_par, sls_va, sls_ow, evS_aug, evS_app, ls_s, evS_ext, evS_pop, evS_ex, re_va, re_fr, evS_ret, evS_retv, evS_retn, evS_ite, evS_while, loo_nx, loo_ct, loo_bk, loo_rt, evS_for, fo_nil, fo_cons, evS_brk, evS_cont, lo_s, in_s, evS_setfld, evS_augfld, li_s, nt_s, evS_setix, evS_try, ret_s, rr_rt, rr_nx, rr_exn, ix_lst, ix_tup, li_r, ix_loc, ix_str, ix_byt, add_int, add_str, add_tup, add_lst, sub_int, mul_int, div_int, mod_int, pow_int, ord_int, ord_str, cmp_lt, cmp_le, cmp_gt, cmp_ge, cmp_in, sl_lst, sl_scr, sl_tup, sl_byt, len_lst, len_tup, len_scr, len_str, len_byt, b_int, b_abs, b_tupl, b_lstl, b_lstt, b_lstb, aug_add, aug_sub, mk_l, mk_t, mk_s, is_1, is_2, is_3, is_4, is_5, is_6, is_7, se_va, se_fr, se_tu, ro_nil, ro_cons, bi_n, bi_t, bi_l, bl_n, bl_c, fz_nil, fz_cons, fz1_ow, fz1_va, fz1_un, wi_nil, wi_cons, it_l, it_t, it_c, it_s, it_r, it_zl, it_zt, it_e, non_1, non_2, non_3, non_4, non_5, non_6, atI_0, atI_1, atI_2, atI_3, atI_4, eq_int, ne_int, ne_byt, eq_byt, big_v]
    rw [if_pos (by omega)]
    simp [rb_ok, rb_exn, rt_ok, rt_exn, rq_nx, rq_rt, rq_bk, rq_ct, rq_exn, m_ok, m_fail, okv_s, of_s, of_none, ite_s, ite_r, keep_va, keep_fr, sl_va, sl_ow, bl_r, in_r, ev_v, ev_c, ev_g, ev_bin, ev_neg, ev_cmp, ev_ch2, ev_isn, ev_isb, ev_and, ev_or, ev_not, ev_ife, ev_tup, ev_lst, ev_new, ev_ix, ev_sl, ev_call, ev_bi, ev_isi, ev_mt, lo_r, ce_r, ev_meth, ev_fld, ev_mk, ev_lc, nx_ok, lc_nil, evO_none, evO_some, evA_nil, evA_cons, evRs_nil, evRs_cons, evF_nil, evF_cons, tst_yes, ptst_of, ptst_and, ptst_or, ptst_not, truth_bl, truth_int, truth_lst, truth_non, op_r, evS_pass, evS_seq, evS_asg, evS_par, sls_va, sls_ow, evS_aug, evS_app, ls_s, evS_ext, evS_pop, evS_ex, re_va, re_fr, evS_ret, evS_retv, evS_retn, evS_ite, evS_while, loo_nx, loo_ct, loo_bk, loo_rt, evS_for, fo_nil, fo_cons, evS_brk, evS_cont, lo_s, in_s, evS_setfld, evS_augfld, li_s, nt_s, evS_setix, evS_try, ret_s, rr_rt, rr_nx, rr_exn, ix_lst, ix_tup, li_r, ix_loc, ix_str, ix_byt, add_int, add_str, add_tup, add_lst, sub_int, mul_int, div_int, mod_int, pow_int, ord_int, ord_str, cmp_lt, cmp_le, cmp_gt, cmp_ge, cmp_in, sl_lst, sl_scr, sl_tup, sl_byt, len_lst, len_tup, len_scr, len_str, len_byt, b_int, b_abs, b_tupl, b_lstl, b_lstt, b_lstb, aug_add, aug_sub, mk_l, mk_t, mk_s, is_1, is_2, is_3, is_4, is_5, is_6, is_7, se_va, se_fr, se_tu, ro_nil, ro_cons, bi_n, bi_t, bi_l, bl_n, bl_c, fz_nil, fz_cons, fz1_ow, fz1_va, fz1_un, wi_nil, wi_cons, it_l, it_t, it_c, it_s, it_r, it_zl, it_zt, it_e, non_1, non_2, non_3, non_4, non_5, non_6, atI_0, atI_1, atI_2, atI_3, atI_4, eq_int, ne_int, ne_byt, eq_byt, Kd.enc, tI]
  | .cho1 k, h, hp, n, st, hn => by
    obtain ⟨m, rfl⟩ : ∃ m, n = m + 2 := ⟨n - 2, by omega⟩
    simp [Kd.deep, Kd.parts] at hn hp
    have r1 := fun st => oct_ok k h (by omega) (m + 1) st (by omega)
    have e := enc_len k h
    rw [c_raw_kind_octets]
    simp [fd_raw_kind_octets, rb_ok, rb_exn, rt_ok, rt_exn, rq_nx, rq_rt, rq_bk, rq_ct, rq_exn, m_ok, m_fail, okv_s, of_s, of_none, ite_s, ite_r, keep_va, keep_fr, sl_va, sl_ow, bl_r, in_r, ev_v, ev_c, ev_g, ev_bin, ev_neg, ev_cmp, ev_ch2, ev_isn, ev_isb, ev_and, ev_or, ev_not, ev_ife, ev_tup, ev_lst, ev_new, ev_ix, ev_sl, ev_call, ev_bi, ev_isi, ev_mt, lo_r, ce_r, ev_meth, ev_fld, ev_mk, ev_lc, nx_ok, lc_nil, evO_none, evO_some, evA_nil, evA_cons, evRs_nil, evRs_cons, evF_nil, evF_cons, tst_yes, ptst_of, ptst_and, ptst_or, ptst_not, truth_bl, truth_int, truth_lst, truth_non, op_r, evS_pass, evS_seq, evS_asg, evS_par, sls_va, sls_ow, evS_aug, evS_app, ls_s, evS_ext, evS_pop, evS_ex, re_va, re_fr, evS_ret, evS_retv, evS_retn, evS_ite, evS_while, loo_nx, loo_ct, loo_bk, loo_rt, evS_for, fo_nil, fo_cons, evS_brk, evS_cont, lo_s, in_s, evS_setfld, evS_augfld, li_s, nt_s, evS_setix, evS_try, ret_s, rr_rt, rr_nx, rr_exn, ix_lst, ix_tup, li_r, ix_loc, ix_str, ix_byt, add_int, add_str, add_tup, add_lst, sub_int, mul_int, div_int, mod_int, pow_int, ord_int, ord_str, cmp_lt, cmp_le, cmp_gt, cmp_ge, cmp_in, sl_lst, sl_scr, sl_tup, sl_byt, len_lst, len_tup, len_scr, len_str, len_byt, b_int, b_abs, b_tupl, b_lstl, b_lstt, b_lstb, aug_add, aug_sub, mk_l, mk_t, mk_s, is_1, is_2, is_3, is_4, is_5, is_6, is_7, se_va, se_fr, se_tu, ro_nil, ro_cons, bi_n, bi_t, bi_l, bl_n, bl_c, fz_nil, fz_cons, fz1_ow, fz1_va, fz1_un, wi_nil, wi_cons, it_l, it_t, it_c, it_s, it_r, it_zl, it_zt, it_e, non_1, non_2, non_3, non_4, non_5, non_6, atI_0, atI_1, atI_2, atI_3, atI_4, eq_int, ne_int, ne_byt, eq_byt, Kd.t, big_v, g_3, g_4, g_6, g_8, g_10, g_14, mk_t, evIn, T.flat, T.eqf, atI_m1, ok_6, ti_4, eq_str, ok_1, ok_2, ok_3, ok_4, ok_5, r1, nO1, nO2, oP, oQ, oS, oT]
    rw [if_pos (by omega)]
    simp [rb_ok, rb_exn, rt_ok, rt_exn, rq_nx, rq_rt, rq_bk, rq_ct, rq_exn, m_ok, m_fail, okv_s, of_s, of_none, ite_s, ite_r, keep_va, keep_fr, sl_va, sl_ow, bl_r, in_r, ev_v, ev_c, ev_g, ev_bin, ev_neg, ev_cmp, ev_ch2, ev_isn, ev_isb, ev_and, ev_or, ev_not, ev_ife, ev_tup, ev_lst, ev_new, ev_ix, ev_sl, ev_call, ev_bi, ev_isi, ev_mt, lo_r, ce_r, ev_meth, ev_fld, ev_mk, ev_lc, nx_ok, lc_nil, evO_none, evO_some, evA_nil, evA_cons, evRs_nil, evRs_cons, evF_nil, evF_cons, tst_yes, ptst_of, ptst_and, ptst_or, ptst_not, truth_bl, truth_int, truth_lst, truth_non, op_r, evS_pass, evS_seq, evS_asg, evS_par, sls_va, sls_ow, evS_aug, evS_app, ls_s, evS_ext, evS_pop, evS_ex, re_va, re_fr, evS_ret, evS_retv, evS_retn, evS_ite, evS_while, loo_nx, loo_ct, loo_bk, loo_rt, evS_for, fo_nil, fo_cons, evS_brk, evS_cont, lo_s, in_s, evS_setfld, evS_augfld, li_s, nt_s, evS_setix, evS_try, ret_s, rr_rt, rr_nx, rr_exn, ix_lst, ix_tup, li_r, ix_loc, ix_str, ix_byt, add_int, add_str, add_tup, add_lst, sub_int, mul_int, div_int, mod_int, pow_int, ord_int, ord_str, cmp_lt, cmp_le, cmp_gt, cmp_ge, cmp_in, sl_lst, sl_scr, sl_tup, sl_byt, len_lst, len_tup, len_scr, len_str, len_byt, b_int, b_abs, b_tupl, b_lstl, b_lstt, b_lstb, aug_add, aug_sub, mk_l, mk_t, mk_s, is_1, is_2, is_3, is_4, is_5, is_6, is_7, se_va, se_fr, se_tu, ro_nil, ro_cons, bi_n, bi_t, bi_l, bl_n, bl_c, fz_nil, fz_cons, fz1_ow, fz1_va, fz1_un, wi_nil, wi_cons, it_l, it_t, it_c, it_s, it_r, it_zl, it_zt, it_e, non_1, non_2, non_3, non_4, non_5, non_6, atI_0, atI_1, atI_2, atI_3, atI_4, eq_int, ne_int, ne_byt, eq_byt, big_v]
    rw [if_pos (by omega)]
    simp [rb_ok, rb_exn, rt_ok, rt_exn, rq_nx, rq_rt, rq_bk, rq_ct, rq_exn, m_ok, m_fail, okv_s, of_s, of_none, ite_s, ite_r, keep_va, keep_fr, sl_va, sl_ow, bl_r, in_r, ev_v, ev_c, ev_g, ev_bin, ev_neg, ev_cmp, ev_ch2, ev_isn, ev_isb, ev_and, ev_or, ev_not, ev_ife, ev_tup, ev_lst, ev_new, ev_ix, ev_sl, ev_call, ev_bi, ev_isi, ev_mt, lo_r, ce_r, ev_meth, ev_fld, ev_mk, ev_lc, nx_ok, lc_nil, evO_none, evO_some, evA_nil, evA_cons, evRs_nil, evRs_cons, evF_nil, evF_cons, tst_yes, ptst_of, ptst_and, ptst_or, ptst_not, truth_bl, truth_int, truth_lst, truth_non, op_r, evS_pass, evS_seq, evS_asg, evS_par, sls_va, sls_ow, evS_aug, evS_app, ls_s, evS_ext, evS_pop, evS_ex, re_va, re_fr, evS_ret, evS_retv, evS_retn, evS_ite, evS_while, loo_nx, loo_ct, loo_bk, loo_rt, evS_for, fo_nil, fo_cons, evS_brk, evS_cont, lo_s, in_s, evS_setfld, evS_augfld, li_s, nt_s, evS_setix, evS_try, ret_s, rr_rt, rr_nx, rr_exn, ix_lst, ix_tup, li_r, ix_loc, ix_str, ix_byt, add_int, add_str, add_tup, add_lst, sub_int, mul_int, div_int, mod_int, pow_int, ord_int, ord_str, cmp_lt, cmp_le, cmp_gt, cmp_ge, cmp_in, sl_lst, sl_scr, sl_tup, sl_byt, len_lst, len_tup, len_scr, len_str, len_byt, b_int, b_abs, b_tupl, b_lstl, b_lstt, b_lstb, aug_add, aug_sub, mk_l, mk_t, mk_s, is_1, is_2, is_3, is_4, is_5, is_6, is_7, se_va, se_fr, se_tu, ro_nil, ro_cons, bi_n, bi_t, bi_l, bl_n, bl_c, fz_nil, fz_cons, fz1_ow, fz1_va, fz1_un, wi_nil, wi_cons, it_l, it_t, it_c, it_s, it_r, it_zl, it_zt, it_e, non_1, non_2, non_3, non_4, non_5, non_6, atI_0, atI_1, atI_2, atI_3, atI_4, eq_int, ne_int, ne_byt, eq_byt, Kd.enc, tI]
  | .cho2 k l, h, hp, n, st, hn => by
    obtain ⟨m, rfl⟩ : ∃ m, n = m + 2 := ⟨n - 2, by omega⟩
    simp [Kd.deep, Kd.parts] at hn hp
    have r1 := fun st => oct_ok k h.1 (by omega) (m + 1) st (by omega)
    have r2 := fun st => oct_ok l h.2 (by omega) (m + 1) st (by omega)
    have e := enc_len k h.1
    have e2 := enc_len l h.2
    rw [c_raw_kind_octets]
    simp [fd_raw_kind_octets, rb_ok, rb_exn, rt_ok, rt_exn, rq_nx, rq_rt, rq_bk, rq_ct, rq_exn, m_ok, m_fail, okv_s, of_s, of_none, ite_s, ite_r, keep_va, keep_fr, sl_va, sl_ow, bl_r, in_r, ev_v, ev_c, ev_g, ev_bin, ev_neg, ev_cmp, ev_ch2, ev_isn, ev_isb, ev_and, ev_or, ev_not, ev_ife, ev_tup, ev_lst, ev_new, ev_ix, ev_sl, ev_call, ev_bi, ev_isi, ev_mt, lo_r, ce_r, ev_meth, ev_fld, ev_mk, ev_lc, nx_ok, lc_nil, evO_none, evO_some, evA_nil, evA_cons, evRs_nil, evRs_cons, evF_nil, evF_cons, tst_yes, ptst_of, ptst_and, ptst_or, ptst_not, truth_bl, truth_int, truth_lst, truth_non, op_r, evS_pass, evS_seq, evS_asg, evS_par, sls_va, sls_ow, evS_aug, evS_app, ls_s, evS_ext, evS_pop, evS_ex, re_va, re_fr, evS_ret, evS_retv, evS_retn, evS_ite, evS_while, loo_nx, loo_ct, loo_bk, loo_rt, evS_for, fo_nil, fo_cons, evS_brk, evS_cont, lo_s, in_s, evS_setfld, evS_augfld, li_s, nt_s, evS_setix, evS_try, ret_s, rr_rt, rr_nx, rr_exn, ix_lst, ix_tup, li_r, ix_loc, ix_str, ix_byt, add_int, add_str, add_tup, add_lst, sub_int, mul_int, div_int, mod_int, pow_int, ord_int, ord_str, cmp_lt, cmp_le, cmp_gt, cmp_ge, cmp_in, sl_lst, sl_scr, sl_tup, sl_byt, len_lst, len_tup, len_scr, len_str, len_byt, b_int, b_abs, b_tupl, b_lstl, b_lstt, b_lstb, aug_add, aug_sub, mk_l, mk_t, mk_s, is_1, is_2, is_3, is_4, is_5, is_6, is_7, se_va, se_fr, se_tu, ro_nil, ro_cons, bi_n, bi_t, bi_l, bl_n, bl_c, fz_nil, fz_cons, fz1_ow, fz1_va, fz1_un, wi_nil, wi_cons, it_l, it_t, it_c, it_s, it_r, it_zl, it_zt, it_e, non_1, non_2, non_3, non_4, non_5, non_6, atI_0, atI_1, atI_2, atI_3, atI_4, eq_int, ne_int, ne_byt, eq_byt, Kd.t, big_v, g_3, g_4, g_6, g_8, g_10, g_14, mk_t, evIn, T.flat, T.eqf, atI_m1, ok_6, ti_4, eq_str, ok_1, ok_2, ok_3, ok_4, ok_5, r1, r2, nO1, nO2, oP, oQ, oS, oT]
    rw [if_pos (by omega)]
    simp [rb_ok, rb_exn, rt_ok, rt_exn, rq_nx, rq_rt, rq_bk, rq_ct, rq_exn, m_ok, m_fail, okv_s, of_s, of_none, ite_s, ite_r, keep_va, keep_fr, sl_va, sl_ow, bl_r, in_r, ev_v, ev_c, ev_g, ev_bin, ev_neg, ev_cmp, ev_ch2, ev_isn, ev_isb, ev_and, ev_or, ev_not, ev_ife, ev_tup, ev_lst, ev_new, ev_ix, ev_sl, ev_call, ev_bi, ev_isi, ev_mt, lo_r, ce_r, ev_meth, ev_fld, ev_mk, ev_lc, nx_ok, lc_nil, evO_none, evO_some, evA_nil, evA_cons, evRs_nil, evRs_cons, evF_nil, evF_cons, tst_yes, ptst_of, ptst_and, ptst_or, ptst_not, truth_bl, truth_int, truth_lst, truth_non, op_r, evS_pass, evS_seq, evS_asg, evS_par, sls_va, sls_ow, evS_aug, evS_app, ls_s, evS_ext, evS_pop, evS_ex, re_va, re_fr, evS_ret, evS_retv, evS_retn, evS_ite, evS_while, loo_nx, loo_ct, loo_bk, loo_rt, evS_for, fo_nil, fo_cons, evS_brk, evS_cont, lo_s, in_s, evS_setfld, evS_augfld, li_s, nt_s, evS_setix, evS_try, ret_s, rr_rt, rr_nx, rr_exn, ix_lst, ix_tup, li_r, ix_loc, ix_str, ix_byt, add_int, add_str, add_tup, add_lst, sub_int, mul_int, div_int, mod_int, pow_int, ord_int, ord_str, cmp_lt, cmp_le, cmp_gt, cmp_ge, cmp_in, sl_lst, sl_scr, sl_tup, sl_byt, len_lst, len_tup, len_scr, len_str, len_byt, b_int, b_abs, b_tupl, b_lstl, b_lstt, b_lstb, aug_add, aug_sub, mk_l, mk_t, mk_s, is_1, is_2, is_3, is_4, is_5, is_6, is_7, se_va, se_fr, se_tu, ro_nil, ro_cons, bi_n, bi_t, bi_l, bl_n, bl_c, fz_nil, fz_cons, fz1_ow, fz1_va, fz1_un, wi_nil, wi_cons, it_l, it_t, it_c, it_s, it_r, it_zl, it_zt, it_e, non_1, non_2, non_3, non_4, non_5, non_6, atI_0, atI_1, atI_2, atI_3, atI_4, eq_int, ne_int, ne_byt, eq_byt, big_v, r1, r2, oP, oQ, oS, oT]
    rw [if_pos (by omega)]
    simp [rb_ok, rb_exn, rt_ok, rt_exn, rq_nx, rq_rt, rq_bk, rq_ct, rq_exn, m_ok, m_fail, okv_s, of_s, of_none, ite_s, ite_r, keep_va, keep_fr, sl_va, sl_ow, bl_r, in_r, ev_v, ev_c, ev_g, ev_bin, ev_neg, ev_cmp, ev_ch2, ev_isn, ev_isb, ev_and, ev_or, ev_not, ev_ife, ev_tup, ev_lst, ev_new, ev_ix, ev_sl, ev_call, ev_bi, ev_isi, ev_mt, lo_r, ce_r, ev_meth, ev_fld, ev_mk, ev_lc, nx_ok, lc_nil, evO_none, evO_some, evA_nil, evA_cons, evRs_nil, evRs_cons, evF_nil, evF_cons, tst_yes, ptst_of, ptst_and, ptst_or, ptst_not, truth_bl, truth_int, truth_lst, truth_non, op_r, evS_pass, evS_seq, evS_asg, evS_par, sls_va, sls_ow, evS_aug, evS_app, ls_s, evS_ext, evS_pop, evS_ex, re_va, re_fr, evS_ret, evS_retv, evS_retn, evS_ite, evS_while, loo_nx, loo_ct, loo_bk, loo_rt, evS_for, fo_nil, fo_cons, evS_brk, evS_cont, lo_s, in_s, evS_setfld, evS_augfld, li_s, nt_s, evS_setix, evS_try, ret_s, rr_rt, rr_nx, rr_exn, ix_lst, ix_tup, li_r, ix_loc, ix_str, ix_byt, add_int, add_str, add_tup, add_lst, sub_int, mul_int, div_int, mod_int, pow_int, ord_int, ord_str, cmp_lt, cmp_le, cmp_gt, cmp_ge, cmp_in, sl_lst, sl_scr, sl_tup, sl_byt, len_lst, len_tup, len_scr, len_str, len_byt, b_int, b_abs, b_tupl, b_lstl, b_lstt, b_lstb, aug_add, aug_sub, mk_l, mk_t, mk_s, is_1, is_2, is_3, is_4, is_5, is_6, is_7, se_va, se_fr, se_tu, ro_nil, ro_cons, bi_n, bi_t, bi_l, bl_n, bl_c, fz_nil, fz_cons, fz1_ow, fz1_va, fz1_un, wi_nil, wi_cons, it_l, it_t, it_c, it_s, it_r, it_zl, it_zt, it_e, non_1, non_2, non_3, non_4, non_5, non_6, atI_0, atI_1, atI_2, atI_3, atI_4, eq_int, ne_int, ne_byt, eq_byt, big_v, r1, r2, oP, oQ, oS, oT]
    rw [if_pos (by omega)]
    simp [rb_ok, rb_exn, rt_ok, rt_exn, rq_nx, rq_rt, rq_bk, rq_ct, rq_exn, m_ok, m_fail, okv_s, of_s, of_none, ite_s, ite_r, keep_va, keep_fr, sl_va, sl_ow, bl_r, in_r, ev_v, ev_c, ev_g, ev_bin, ev_neg, ev_cmp, ev_ch2, ev_isn, ev_isb, ev_and, ev_or, ev_not, ev_ife, ev_tup, ev_lst, ev_new, ev_ix, ev_sl, ev_call, ev_bi, ev_isi, ev_mt, lo_r, ce_r, ev_meth, ev_fld, ev_mk, ev_lc, nx_ok, lc_nil, evO_none, evO_some, evA_nil, evA_cons, evRs_nil, evRs_cons, evF_nil, evF_cons, tst_yes, ptst_of, ptst_and, ptst_or, ptst_not, truth_bl, truth_int, truth_lst, truth_non, op_r, evS_pass, evS_seq, evS_asg, evS_par, sls_va, sls_ow, evS_aug, evS_app, ls_s, evS_ext, evS_pop, evS_ex, re_va, re_fr, evS_ret, evS_retv, evS_retn, evS_ite, evS_while, loo_nx, loo_ct, loo_bk, loo_rt, evS_for, fo_nil, fo_cons, evS_brk, evS_cont, lo_s, in_s, evS_setfld, evS_augfld, li_s, nt_s, evS_setix, evS_try, ret_s, rr_rt, rr_nx, rr_exn, ix_lst, ix_tup, li_r, ix_loc, ix_str, ix_byt, add_int, add_str, add_tup, add_lst, sub_int, mul_int, div_int, mod_int, pow_int, ord_int, ord_str, cmp_lt, cmp_le, cmp_gt, cmp_ge, cmp_in, sl_lst, sl_scr, sl_tup, sl_byt, len_lst, len_tup, len_scr, len_str, len_byt, b_int, b_abs, b_tupl, b_lstl, b_lstt, b_lstb, aug_add, aug_sub, mk_l, mk_t, mk_s, is_1, is_2, is_3, is_4, is_5, is_6, is_7, se_va, se_fr, se_tu, ro_nil, ro_cons, bi_n, bi_t, bi_l, bl_n, bl_c, fz_nil, fz_cons, fz1_ow, fz1_va, fz1_un, wi_nil, wi_cons, it_l, it_t, it_c, it_s, it_r, it_zl, it_zt, it_e, non_1, non_2, non_3, non_4, non_5, non_6, atI_0, atI_1, atI_2, atI_3, atI_4, eq_int, ne_int, ne_byt, eq_byt, big_v]
    rw [if_pos (by omega)]
    simp [rb_ok, rb_exn, rt_ok, rt_exn, rq_nx, rq_rt, rq_bk, rq_ct, rq_exn, m_ok, m_fail, okv_s, of_s, of_none, ite_s, ite_r, keep_va, keep_fr, sl_va, sl_ow, bl_r, in_r, ev_v, ev_c, ev_g, ev_bin, ev_neg, ev_cmp, ev_ch2, ev_isn, ev_isb, ev_and, ev_or, ev_not, ev_ife, ev_tup, ev_lst, ev_new, ev_ix, ev_sl, ev_call, ev_bi, ev_isi, ev_mt, lo_r, ce_r, ev_meth, ev_fld, ev_mk, ev_lc, nx_ok, lc_nil, evO_none, evO_some, evA_nil, evA_cons, evRs_nil, evRs_cons, evF_nil, evF_cons, tst_yes, ptst_of, ptst_and, ptst_or, ptst_not, truth_bl, truth_int, truth_lst, truth_non, op_r, evS_pass, evS_seq, evS_asg, evS_par, sls_va, sls_ow, evS_aug, evS_app, ls_s, evS_ext, evS_pop, evS_ex, re_va, re_fr, evS_ret, evS_retv, evS_retn, evS_ite, evS_while, loo_nx, loo_ct, loo_bk, loo_rt, evS_for, fo_nil, fo_cons, evS_brk, evS_cont, lo_s, in_s, evS_setfld, evS_augfld, li_s, nt_s, evS_setix, evS_try, ret_s, rr_rt, rr_nx, rr_exn, ix_lst, ix_tup, li_r, ix_loc, ix_str, ix_byt, add_int, add_str, add_tup, add_lst, sub_int, mul_int, div_int, mod_int, pow_int, ord_int, ord_str, cmp_lt, cmp_le, cmp_gt, cmp_ge, cmp_in, sl_lst, sl_scr, sl_tup, sl_byt, len_lst, len_tup, len_scr, len_str, len_byt, b_int, b_abs, b_tupl, b_lstl, b_lstt, b_lstb, aug_add, aug_sub, mk_l, mk_t, mk_s, is_1, is_2, is_3, is_4, is_5, is_6, is_7, se_va, se_fr, se_tu, ro_nil, ro_cons, bi_n, bi_t, bi_l, bl_n, bl_c, fz_nil, fz_cons, fz1_ow, fz1_va, fz1_un, wi_nil, wi_cons, it_l, it_t, it_c, it_s, it_r, it_zl, it_zt, it_e, non_1, non_2, non_3, non_4, non_5, non_6, atI_0, atI_1, atI_2, atI_3, atI_4, eq_int, ne_int, ne_byt, eq_byt, Kd.enc, tI]
end D


set_option Elab.async false
set_option linter.all false
set_option maxRecDepth 100000
set_option maxHeartbeats 0
namespace D
open PySem G
theorem is_integer_int (n : Nat) (i : Int) (st : Store) : callF Γ (n + 1) F_is_integer [.int i] st = .ok (.bl true, .va) st := by
  rw [callF_succ]; rfl
theorem is_short (n : Nat) (i : Int) (h : i.natAbs < 10 ^ 18) (st : Store) : callF Γ (n + 2) F_is_short_integer [.int i] st = .ok (.bl true, .va) st := by
  have e : (if i < 0 then -i else i) < 1000000000000000000 := by split <;> omega
  rw [c_is_short_integer]
  simp [fd_is_short_integer, rb_ok, rb_exn, rt_ok, rt_exn, rq_nx, rq_rt, rq_bk, rq_ct, rq_exn, m_ok, m_fail, okv_s, of_s, of_none, ite_s, ite_r, keep_va, keep_fr, sl_va, sl_ow, bl_r, in_r, ev_v, ev_c, ev_g, ev_bin, ev_neg, ev_cmp, ev_ch2, ev_isn, ev_isb, ev_and, ev_or, ev_not, ev_ife, ev_tup, ev_lst, ev_new, ev_ix, ev_sl, ev_call, ev_bi, ev_isi, ev_mt, lo_r, ce_r, ev_meth, ev_fld, ev_mk, ev_lc, nx_ok, lc_nil, evO_none, evO_some, evA_nil, evA_cons, evRs_nil, evRs_cons, evF_nil, evF_cons, tst_yes, ptst_of, ptst_and, ptst_or, ptst_not, truth_bl, truth_int, truth_lst, truth_non, op_r, evS_pass, evS_seq, evS_asg, evS_par, sls_va, sls_ow, evS_aug, evS_app, ls_s, evS_ext, evS_pop, evS_ex, re_va, re_fr, evS_ret, evS_retv, evS_retn, evS_ite, evS_while, loo_nx, loo_ct, loo_bk, loo_rt, evS_for, fo_nil, fo_cons, evS_brk, evS_cont, lo_s, in_s, evS_setfld, evS_augfld, li_s, nt_s, evS_setix, evS_try, ret_s, rr_rt, rr_nx, rr_exn, ix_lst, ix_tup, li_r, ix_loc, ix_str, ix_byt, add_int, add_str, add_tup, add_lst, sub_int, mul_int, div_int, mod_int, pow_int, ord_int, ord_str, cmp_lt, cmp_le, cmp_gt, cmp_ge, cmp_in, sl_lst, sl_scr, sl_tup, sl_byt, len_lst, len_tup, len_scr, len_str, len_byt, b_int, b_abs, b_tupl, b_lstl, b_lstt, b_lstb, aug_add, aug_sub, mk_l, mk_t, mk_s, is_1, is_2, is_3, is_4, is_5, is_6, is_7, se_va, se_fr, se_tu, ro_nil, ro_cons, bi_n, bi_t, bi_l, bl_n, bl_c, fz_nil, fz_cons, fz1_ow, fz1_va, fz1_un, wi_nil, wi_cons, it_l, it_t, it_c, it_s, it_r, it_zl, it_zt, it_e, non_1, non_2, non_3, non_4, non_5, non_6, atI_0, atI_1, atI_2, atI_3, atI_4, eq_int, ne_int, ne_byt, eq_byt, is_integer_int, g_0, e]
theorem told_int (m : Nat) (a b : Int) (st : Store) : callF Γ (m + 1) F_is_told [.tup [.str [105, 110, 116], .int a, .int b], .str [105, 110, 116], .int 2] st = .ok (.bl true, .va) st := by
  rw [c_is_told]
  simp [fd_is_told, rb_ok, rb_exn, rt_ok, rt_exn, rq_nx, rq_rt, rq_bk, rq_ct, rq_exn, m_ok, m_fail, okv_s, of_s, of_none, ite_s, ite_r, keep_va, keep_fr, sl_va, sl_ow, bl_r, in_r, ev_v, ev_c, ev_g, ev_bin, ev_neg, ev_cmp, ev_ch2, ev_isn, ev_isb, ev_and, ev_or, ev_not, ev_ife, ev_tup, ev_lst, ev_new, ev_ix, ev_sl, ev_call, ev_bi, ev_isi, ev_mt, lo_r, ce_r, ev_meth, ev_fld, ev_mk, ev_lc, nx_ok, lc_nil, evO_none, evO_some, evA_nil, evA_cons, evRs_nil, evRs_cons, evF_nil, evF_cons, tst_yes, ptst_of, ptst_and, ptst_or, ptst_not, truth_bl, truth_int, truth_lst, truth_non, op_r, evS_pass, evS_seq, evS_asg, evS_par, sls_va, sls_ow, evS_aug, evS_app, ls_s, evS_ext, evS_pop, evS_ex, re_va, re_fr, evS_ret, evS_retv, evS_retn, evS_ite, evS_while, loo_nx, loo_ct, loo_bk, loo_rt, evS_for, fo_nil, fo_cons, evS_brk, evS_cont, lo_s, in_s, evS_setfld, evS_augfld, li_s, nt_s, evS_setix, evS_try, ret_s, rr_rt, rr_nx, rr_exn, ix_lst, ix_tup, li_r, ix_loc, ix_str, ix_byt, add_int, add_str, add_tup, add_lst, sub_int, mul_int, div_int, mod_int, pow_int, ord_int, ord_str, cmp_lt, cmp_le, cmp_gt, cmp_ge, cmp_in, sl_lst, sl_scr, sl_tup, sl_byt, len_lst, len_tup, len_scr, len_str, len_byt, b_int, b_abs, b_tupl, b_lstl, b_lstt, b_lstb, aug_add, aug_sub, mk_l, mk_t, mk_s, is_1, is_2, is_3, is_4, is_5, is_6, is_7, se_va, se_fr, se_tu, ro_nil, ro_cons, bi_n, bi_t, bi_l, bl_n, bl_c, fz_nil, fz_cons, fz1_ow, fz1_va, fz1_un, wi_nil, wi_cons, it_l, it_t, it_c, it_s, it_r, it_zl, it_zt, it_e, non_1, non_2, non_3, non_4, non_5, non_6, atI_0, atI_1, atI_2, atI_3, atI_4, eq_int, ne_int, ne_byt, eq_byt, eq_str, ok_1]
def Kd.kids (k : Kd) : List T := k.subs.map Kd.t
theorem kids_ok : ∀ (k : Kd), k.ok → ∀ (n : Nat) (st : Store), 8 ≤ n → callF Γ n F_kinds_right_within [k.t] st = .ok (.lst k.kids, .fr) st
  | .int a b, h, n, st, hn => by
    obtain ⟨m, rfl⟩ : ∃ m, n = m + 3 := ⟨n - 3, by omega⟩
    obtain ⟨h1, h2, h3⟩ := h
    have r1 := fun st => is_short m a h1 st
    have r2 := fun st => is_short m b h2 st
    have r3 := fun st => told_int (m + 1) a b st
    have ec : cut [T.str [105, 110, 116], .int a, .int b] (some 1) none = [.int a, .int b] := rfl
    rw [c_kinds_right_within]
    have ea : ∀ st, evBi .all [.lst [.bl true, .bl true]] st = .ok (.bl true, .va) st := fun _ => rfl
    simp [fd_kinds_right_within, rb_ok, rb_exn, rt_ok, rt_exn, rq_nx, rq_rt, rq_bk, rq_ct, rq_exn, m_ok, m_fail, okv_s, of_s, of_none, ite_s, ite_r, keep_va, keep_fr, sl_va, sl_ow, bl_r, in_r, ev_v, ev_c, ev_g, ev_bin, ev_neg, ev_cmp, ev_ch2, ev_isn, ev_isb, ev_and, ev_or, ev_not, ev_ife, ev_tup, ev_lst, ev_new, ev_ix, ev_sl, ev_call, ev_bi, ev_isi, ev_mt, lo_r, ce_r, ev_meth, ev_fld, ev_mk, ev_lc, nx_ok, lc_nil, evO_none, evO_some, evA_nil, evA_cons, evRs_nil, evRs_cons, evF_nil, evF_cons, tst_yes, ptst_of, ptst_and, ptst_or, ptst_not, truth_bl, truth_int, truth_lst, truth_non, op_r, evS_pass, evS_seq, evS_asg, evS_par, sls_va, sls_ow, evS_aug, evS_app, ls_s, evS_ext, evS_pop, evS_ex, re_va, re_fr, evS_ret, evS_retv, evS_retn, evS_ite, evS_while, loo_nx, loo_ct, loo_bk, loo_rt, evS_for, fo_nil, fo_cons, evS_brk, evS_cont, lo_s, in_s, evS_setfld, evS_augfld, li_s, nt_s, evS_setix, evS_try, ret_s, rr_rt, rr_nx, rr_exn, ix_lst, ix_tup, li_r, ix_loc, ix_str, ix_byt, add_int, add_str, add_tup, add_lst, sub_int, mul_int, div_int, mod_int, pow_int, ord_int, ord_str, cmp_lt, cmp_le, cmp_gt, cmp_ge, cmp_in, sl_lst, sl_scr, sl_tup, sl_byt, len_lst, len_tup, len_scr, len_str, len_byt, b_int, b_abs, b_tupl, b_lstl, b_lstt, b_lstb, aug_add, aug_sub, mk_l, mk_t, mk_s, is_1, is_2, is_3, is_4, is_5, is_6, is_7, se_va, se_fr, se_tu, ro_nil, ro_cons, bi_n, bi_t, bi_l, bl_n, bl_c, fz_nil, fz_cons, fz1_ow, fz1_va, fz1_un, wi_nil, wi_cons, it_l, it_t, it_c, it_s, it_r, it_zl, it_zt, it_e, non_1, non_2, non_3, non_4, non_5, non_6, atI_0, atI_1, atI_2, atI_3, atI_4, eq_int, ne_int, ne_byt, eq_byt, Kd.t, big_v, g_3, r1, r2, r3, ec, lc_cons, ea, h3, Kd.kids, Kd.subs]
  | .word w, h, n, st, hn => by
    obtain ⟨m, rfl⟩ : ∃ m, n = m + 8 := ⟨n - 8, by omega⟩
    rw [c_kinds_right_within]
    unfold Kd.t wds
    split <;> kernel_rfl
  | .list k, h, n, st, hn => by
    obtain ⟨m, rfl⟩ : ∃ m, n = m + 8 := ⟨n - 8, by omega⟩
    rw [c_kinds_right_within]
    kernel_rfl
  | .rec1 k, h, n, st, hn => by
    obtain ⟨m, rfl⟩ : ∃ m, n = m + 8 := ⟨n - 8, by omega⟩
    rw [c_kinds_right_within]
    kernel_rfl
  | .rec2 k l, h, n, st, hn => by
    obtain ⟨m, rfl⟩ : ∃ m, n = m + 8 := ⟨n - 8, by omega⟩
    rw [c_kinds_right_within]
    kernel_rfl
  | .cho1 k, h, n, st, hn => by
    obtain ⟨m, rfl⟩ : ∃ m, n = m + 8 := ⟨n - 8, by omega⟩
    rw [c_kinds_right_within]
    kernel_rfl
  | .cho2 k l, h, n, st, hn => by
    obtain ⟨m, rfl⟩ : ∃ m, n = m + 8 := ⟨n - 8, by omega⟩
    rw [c_kinds_right_within]
    kernel_rfl
/-! ### is_kind -/
def wcond : S → B
  | .seq _ (.seq (.while c _) _) => c
  | _ => .yes
def wbody : S → S
  | .seq _ (.seq (.while _ b) _) => b
  | _ => .pass
def stT (r : List (Kd × Nat)) : List T := r.map fun p => .tup [p.1.t, .int (p.2 : Int)]
def total (r : List (Kd × Nat)) : Nat := (r.map fun p => p.1.parts).sum
theorem parts_subs (k : Kd) : k.parts = 1 + (k.subs.map Kd.parts).sum := by
  cases k <;> simp [Kd.parts, Kd.subs]
theorem subs_ok {k : Kd} (h : k.ok) : ∀ s ∈ k.subs, s.ok ∧ s.deep + 1 ≤ k.deep := by
  cases k <;> simp [Kd.subs, Kd.deep, Kd.ok] at * <;> first | exact ⟨h, by omega⟩ | (obtain ⟨h1, h2⟩ := h; exact ⟨⟨h1, by omega⟩, h2, by omega⟩)
theorem subs_len (k : Kd) : k.subs.length ≤ 2 := by cases k <;> simp [Kd.subs]
theorem head_t (k : Kd) : ∃ w r, k.t = .tup (.str w :: r) ∧ okS w = true ∧ (w == [107, 101, 121, 101, 100]) = false := by
  cases k <;> first | exact ⟨_, _, rfl, ok_1, rfl⟩ | exact ⟨_, _, rfl, ok_2, rfl⟩ | exact ⟨_, _, rfl, ok_3, rfl⟩ | exact ⟨_, _, rfl, ok_4, rfl⟩ | exact ⟨_, _, rfl, ok_5, rfl⟩
theorem lc_kids (O : Or) (st : Store) (d : Nat) (a0 a1 a2 a3 a4 a6 : Sl) (xs : List T) (h : xs.length ≤ 2) :
    lcE Γ O (.tup (.cons (.v 7) (.cons (.bin .add (.v 5) (.c (.int 1))) .nil))) (.n 7) .yes [a0, a1, a2, a3, a4, .va (.int (d : Int)), a6, .un] [] xs st = .ok (xs.map fun x => .tup [x, .int (d + 1 : Int)]) st := by
  match xs, h with
  | [], _ => rfl
  | [x], _ => simp [lc_cons, rb_ok, rb_exn, rt_ok, rt_exn, rq_nx, rq_rt, rq_bk, rq_ct, rq_exn, m_ok, m_fail, okv_s, of_s, of_none, ite_s, ite_r, keep_va, keep_fr, sl_va, sl_ow, bl_r, in_r, ev_v, ev_c, ev_g, ev_bin, ev_neg, ev_cmp, ev_ch2, ev_isn, ev_isb, ev_and, ev_or, ev_not, ev_ife, ev_tup, ev_lst, ev_new, ev_ix, ev_sl, ev_call, ev_bi, ev_isi, ev_mt, lo_r, ce_r, ev_meth, ev_fld, ev_mk, ev_lc, nx_ok, lc_nil, evO_none, evO_some, evA_nil, evA_cons, evRs_nil, evRs_cons, evF_nil, evF_cons, tst_yes, ptst_of, ptst_and, ptst_or, ptst_not, truth_bl, truth_int, truth_lst, truth_non, op_r, evS_pass, evS_seq, evS_asg, evS_par, sls_va, sls_ow, evS_aug, evS_app, ls_s, evS_ext, evS_pop, evS_ex, re_va, re_fr, evS_ret, evS_retv, evS_retn, evS_ite, evS_while, loo_nx, loo_ct, loo_bk, loo_rt, evS_for, fo_nil, fo_cons, evS_brk, evS_cont, lo_s, in_s, evS_setfld, evS_augfld, li_s, nt_s, evS_setix, evS_try, ret_s, rr_rt, rr_nx, rr_exn, ix_lst, ix_tup, li_r, ix_loc, ix_str, ix_byt, add_int, add_str, add_tup, add_lst, sub_int, mul_int, div_int, mod_int, pow_int, ord_int, ord_str, cmp_lt, cmp_le, cmp_gt, cmp_ge, cmp_in, sl_lst, sl_scr, sl_tup, sl_byt, len_lst, len_tup, len_scr, len_str, len_byt, b_int, b_abs, b_tupl, b_lstl, b_lstt, b_lstb, aug_add, aug_sub, mk_l, mk_t, mk_s, is_1, is_2, is_3, is_4, is_5, is_6, is_7, se_va, se_fr, se_tu, ro_nil, ro_cons, bi_n, bi_t, bi_l, bl_n, bl_c, fz_nil, fz_cons, fz1_ow, fz1_va, fz1_un, wi_nil, wi_cons, it_l, it_t, it_c, it_s, it_r, it_zl, it_zt, it_e, non_1, non_2, non_3, non_4, non_5, non_6, atI_0, atI_1, atI_2, atI_3, atI_4, eq_int, ne_int, ne_byt, eq_byt, big_v]
  | [x, y], _ => simp [lc_cons, rb_ok, rb_exn, rt_ok, rt_exn, rq_nx, rq_rt, rq_bk, rq_ct, rq_exn, m_ok, m_fail, okv_s, of_s, of_none, ite_s, ite_r, keep_va, keep_fr, sl_va, sl_ow, bl_r, in_r, ev_v, ev_c, ev_g, ev_bin, ev_neg, ev_cmp, ev_ch2, ev_isn, ev_isb, ev_and, ev_or, ev_not, ev_ife, ev_tup, ev_lst, ev_new, ev_ix, ev_sl, ev_call, ev_bi, ev_isi, ev_mt, lo_r, ce_r, ev_meth, ev_fld, ev_mk, ev_lc, nx_ok, lc_nil, evO_none, evO_some, evA_nil, evA_cons, evRs_nil, evRs_cons, evF_nil, evF_cons, tst_yes, ptst_of, ptst_and, ptst_or, ptst_not, truth_bl, truth_int, truth_lst, truth_non, op_r, evS_pass, evS_seq, evS_asg, evS_par, sls_va, sls_ow, evS_aug, evS_app, ls_s, evS_ext, evS_pop, evS_ex, re_va, re_fr, evS_ret, evS_retv, evS_retn, evS_ite, evS_while, loo_nx, loo_ct, loo_bk, loo_rt, evS_for, fo_nil, fo_cons, evS_brk, evS_cont, lo_s, in_s, evS_setfld, evS_augfld, li_s, nt_s, evS_setix, evS_try, ret_s, rr_rt, rr_nx, rr_exn, ix_lst, ix_tup, li_r, ix_loc, ix_str, ix_byt, add_int, add_str, add_tup, add_lst, sub_int, mul_int, div_int, mod_int, pow_int, ord_int, ord_str, cmp_lt, cmp_le, cmp_gt, cmp_ge, cmp_in, sl_lst, sl_scr, sl_tup, sl_byt, len_lst, len_tup, len_scr, len_str, len_byt, b_int, b_abs, b_tupl, b_lstl, b_lstt, b_lstb, aug_add, aug_sub, mk_l, mk_t, mk_s, is_1, is_2, is_3, is_4, is_5, is_6, is_7, se_va, se_fr, se_tu, ro_nil, ro_cons, bi_n, bi_t, bi_l, bl_n, bl_c, fz_nil, fz_cons, fz1_ow, fz1_va, fz1_un, wi_nil, wi_cons, it_l, it_t, it_c, it_s, it_r, it_zl, it_zt, it_e, non_1, non_2, non_3, non_4, non_5, non_6, atI_0, atI_1, atI_2, atI_3, atI_4, eq_int, ne_int, ne_byt, eq_byt, big_v]
theorem isk_loop (n : Nat) (hn : 8 ≤ n) (O : Or) (hO : O.c1 = callF Γ n) (st : Store) (x0 : Sl) : ∀ (f : Nat) (r : List (Kd × Nat)) (many : Nat) (y4 y5 y6 y7 : Sl), total r ≤ f → (∀ p ∈ r, p.1.ok ∧ p.2 + p.1.deep ≤ 13) → many + total r ≤ 60 → r.length ≤ 10 + many →
    ∃ z4 z5 z6 z7, ∀ k, whE Γ O (wcond fd_is_kind.body) (wbody fd_is_kind.body) (f + k + 1) [x0, .va (.int (many : Int)), .ow (stT r.reverse), .ow [], y4, y5, y6, y7] st = .ok .nx [x0, .va (.int ((many + total r : Nat) : Int)), .ow [], .ow [], z4, z5, z6, z7] st := by
  intro f
  induction f with
  | zero =>
    intro r many y4 y5 y6 y7 ht hr hm hl
    match r, ht with
    | [], _ =>
      refine ⟨y4, y5, y6, y7, fun k => ?_⟩
      simp [wh_succ, wcond, wbody, fd_is_kind, rb_ok, rb_exn, rt_ok, rt_exn, rq_nx, rq_rt, rq_bk, rq_ct, rq_exn, m_ok, m_fail, okv_s, of_s, of_none, ite_s, ite_r, keep_va, keep_fr, sl_va, sl_ow, bl_r, in_r, ev_v, ev_c, ev_g, ev_bin, ev_neg, ev_cmp, ev_ch2, ev_isn, ev_isb, ev_and, ev_or, ev_not, ev_ife, ev_tup, ev_lst, ev_new, ev_ix, ev_sl, ev_call, ev_bi, ev_isi, ev_mt, lo_r, ce_r, ev_meth, ev_fld, ev_mk, ev_lc, nx_ok, lc_nil, evO_none, evO_some, evA_nil, evA_cons, evRs_nil, evRs_cons, evF_nil, evF_cons, tst_yes, ptst_of, ptst_and, ptst_or, ptst_not, truth_bl, truth_int, truth_lst, truth_non, op_r, evS_pass, evS_seq, evS_asg, evS_par, sls_va, sls_ow, evS_aug, evS_app, ls_s, evS_ext, evS_pop, evS_ex, re_va, re_fr, evS_ret, evS_retv, evS_retn, evS_ite, evS_while, loo_nx, loo_ct, loo_bk, loo_rt, evS_for, fo_nil, fo_cons, evS_brk, evS_cont, lo_s, in_s, evS_setfld, evS_augfld, li_s, nt_s, evS_setix, evS_try, ret_s, rr_rt, rr_nx, rr_exn, ix_lst, ix_tup, li_r, ix_loc, ix_str, ix_byt, add_int, add_str, add_tup, add_lst, sub_int, mul_int, div_int, mod_int, pow_int, ord_int, ord_str, cmp_lt, cmp_le, cmp_gt, cmp_ge, cmp_in, sl_lst, sl_scr, sl_tup, sl_byt, len_lst, len_tup, len_scr, len_str, len_byt, b_int, b_abs, b_tupl, b_lstl, b_lstt, b_lstb, aug_add, aug_sub, mk_l, mk_t, mk_s, is_1, is_2, is_3, is_4, is_5, is_6, is_7, se_va, se_fr, se_tu, ro_nil, ro_cons, bi_n, bi_t, bi_l, bl_n, bl_c, fz_nil, fz_cons, fz1_ow, fz1_va, fz1_un, wi_nil, wi_cons, it_l, it_t, it_c, it_s, it_r, it_zl, it_zt, it_e, non_1, non_2, non_3, non_4, non_5, non_6, atI_0, atI_1, atI_2, atI_3, atI_4, eq_int, ne_int, ne_byt, eq_byt, stT, total]
    | (k, d) :: r, ht =>
      have := parts_subs k
      simp [total] at ht
      omega
  | succ f ih =>
    intro r many y4 y5 y6 y7 ht hr hm hl
    match r with
    | [] =>
      refine ⟨y4, y5, y6, y7, fun k => ?_⟩
      have ek : f + 1 + k + 1 = (f + 1 + k) + 1 := rfl
      simp [wh_succ, wcond, wbody, fd_is_kind, rb_ok, rb_exn, rt_ok, rt_exn, rq_nx, rq_rt, rq_bk, rq_ct, rq_exn, m_ok, m_fail, okv_s, of_s, of_none, ite_s, ite_r, keep_va, keep_fr, sl_va, sl_ow, bl_r, in_r, ev_v, ev_c, ev_g, ev_bin, ev_neg, ev_cmp, ev_ch2, ev_isn, ev_isb, ev_and, ev_or, ev_not, ev_ife, ev_tup, ev_lst, ev_new, ev_ix, ev_sl, ev_call, ev_bi, ev_isi, ev_mt, lo_r, ce_r, ev_meth, ev_fld, ev_mk, ev_lc, nx_ok, lc_nil, evO_none, evO_some, evA_nil, evA_cons, evRs_nil, evRs_cons, evF_nil, evF_cons, tst_yes, ptst_of, ptst_and, ptst_or, ptst_not, truth_bl, truth_int, truth_lst, truth_non, op_r, evS_pass, evS_seq, evS_asg, evS_par, sls_va, sls_ow, evS_aug, evS_app, ls_s, evS_ext, evS_pop, evS_ex, re_va, re_fr, evS_ret, evS_retv, evS_retn, evS_ite, evS_while, loo_nx, loo_ct, loo_bk, loo_rt, evS_for, fo_nil, fo_cons, evS_brk, evS_cont, lo_s, in_s, evS_setfld, evS_augfld, li_s, nt_s, evS_setix, evS_try, ret_s, rr_rt, rr_nx, rr_exn, ix_lst, ix_tup, li_r, ix_loc, ix_str, ix_byt, add_int, add_str, add_tup, add_lst, sub_int, mul_int, div_int, mod_int, pow_int, ord_int, ord_str, cmp_lt, cmp_le, cmp_gt, cmp_ge, cmp_in, sl_lst, sl_scr, sl_tup, sl_byt, len_lst, len_tup, len_scr, len_str, len_byt, b_int, b_abs, b_tupl, b_lstl, b_lstt, b_lstb, aug_add, aug_sub, mk_l, mk_t, mk_s, is_1, is_2, is_3, is_4, is_5, is_6, is_7, se_va, se_fr, se_tu, ro_nil, ro_cons, bi_n, bi_t, bi_l, bl_n, bl_c, fz_nil, fz_cons, fz1_ow, fz1_va, fz1_un, wi_nil, wi_cons, it_l, it_t, it_c, it_s, it_r, it_zl, it_zt, it_e, non_1, non_2, non_3, non_4, non_5, non_6, atI_0, atI_1, atI_2, atI_3, atI_4, eq_int, ne_int, ne_byt, eq_byt, stT, total]
    | (k, d) :: r =>
      obtain ⟨hk, hd⟩ := hr (k, d) List.mem_cons_self
      have hk : k.ok := hk
      have hd : d + k.deep ≤ 13 := hd
      have hp := parts_subs k
      have hs := subs_ok hk
      have hl2 := subs_len k
      have e1 : total ((k.subs.map fun s => (s, d + 1)).reverse ++ r) = (k.subs.map Kd.parts).sum + total r := by
        unfold total
        simp [Function.comp_def]
      have e2 : total ((k, d) :: r) = k.parts + total r := by simp [total]
      rw [e2] at ht hm
      obtain ⟨z4, z5, z6, z7, hz⟩ := ih ((k.subs.map fun s => (s, d + 1)).reverse ++ r) (many + 1) (.va k.t) (.va (.int (d : Int))) (.ow k.kids) y7 (by rw [e1]; omega) (fun p hp => by
        rcases List.mem_append.mp hp with hp | hp
        · rw [List.mem_reverse, List.mem_map] at hp
          obtain ⟨s, h1, h2⟩ := hp
          subst h2
          have := hs s h1
          exact ⟨this.1, by show d + 1 + s.deep ≤ 13; omega⟩
        · exact hr p (List.mem_cons_of_mem _ hp)) (by rw [e1]; omega) (by simp at hl ⊢; omega)
      refine ⟨z4, z5, z6, z7, fun kk => ?_⟩
      have ek : f + 1 + kk + 1 = (f + kk + 1) + 1 := by omega
      have hz := hz kk
      obtain ⟨w, rest, et, ow, ew⟩ := head_t k
      have r1 := fun st => kids_ok k hk n st hn
      rw [et] at r1
      have h60 : ¬ ((60 : Int) < (many : Int) + 1) := by omega
      have h12 : ¬ ((12 : Int) < (d : Int)) := by
        have : 1 ≤ k.deep := by cases k <;> simp [Kd.deep]
        omega
      have hlen : (0 : Int) < ((stT r.reverse).length : Int) + 1 := by omega
      have est : stT ((k, d) :: r).reverse = stT r.reverse ++ [.tup [.tup (.str w :: rest), .int (d : Int)]] := by
        simp [stT, et]
      have est2 : stT ((k.subs.map fun s => (s, d + 1)).reverse ++ r).reverse = stT r.reverse ++ k.kids.map fun x => .tup [x, .int ((d : Int) + 1)] := by
        simp [stT, Kd.kids, Function.comp_def]
      rw [est2] at hz
      rw [et] at hz
      have hk2 : k.kids.length ≤ 2 := by simp [Kd.kids]; exact hl2
      have hlc := fun st a0 a1 a2 a3 a4 a6 => lc_kids O st d a0 a1 a2 a3 a4 a6 k.kids hk2
      have hb : (stT r.reverse).length + k.kids.length ≤ 16777216 := by
        have : (stT r.reverse).length = r.length := by simp [stT]
        simp at hl
        omega
      have em : (((many + 1 + total ((k.subs.map fun s => (s, d + 1)).reverse ++ r)) : Nat) : Int) = ((many + total ((k, d) :: r) : Nat) : Int) := by
        rw [e1, e2]; omega
      rw [em] at hz
      rw [ek, wh_succ, est]
      simp [wcond, wbody, fd_is_kind] at hz
      simp [wcond, wbody, fd_is_kind, rb_ok, rb_exn, rt_ok, rt_exn, rq_nx, rq_rt, rq_bk, rq_ct, rq_exn, m_ok, m_fail, okv_s, of_s, of_none, ite_s, ite_r, keep_va, keep_fr, sl_va, sl_ow, bl_r, in_r, ev_v, ev_c, ev_g, ev_bin, ev_neg, ev_cmp, ev_ch2, ev_isn, ev_isb, ev_and, ev_or, ev_not, ev_ife, ev_tup, ev_lst, ev_new, ev_ix, ev_sl, ev_call, ev_bi, ev_isi, ev_mt, lo_r, ce_r, ev_meth, ev_fld, ev_mk, ev_lc, nx_ok, lc_nil, evO_none, evO_some, evA_nil, evA_cons, evRs_nil, evRs_cons, evF_nil, evF_cons, tst_yes, ptst_of, ptst_and, ptst_or, ptst_not, truth_bl, truth_int, truth_lst, truth_non, op_r, evS_pass, evS_seq, evS_asg, evS_par, sls_va, sls_ow, evS_aug, evS_app, ls_s, evS_ext, evS_pop, evS_ex, re_va, re_fr, evS_ret, evS_retv, evS_retn, evS_ite, evS_while, loo_nx, loo_ct, loo_bk, loo_rt, evS_for, fo_nil, fo_cons, evS_brk, evS_cont, lo_s, in_s, evS_setfld, evS_augfld, li_s, nt_s, evS_setix, evS_try, ret_s, rr_rt, rr_nx, rr_exn, ix_lst, ix_tup, li_r, ix_loc, ix_str, ix_byt, add_int, add_str, add_tup, add_lst, sub_int, mul_int, div_int, mod_int, pow_int, ord_int, ord_str, cmp_lt, cmp_le, cmp_gt, cmp_ge, cmp_in, sl_lst, sl_scr, sl_tup, sl_byt, len_lst, len_tup, len_scr, len_str, len_byt, b_int, b_abs, b_tupl, b_lstl, b_lstt, b_lstb, aug_add, aug_sub, mk_l, mk_t, mk_s, is_1, is_2, is_3, is_4, is_5, is_6, is_7, se_va, se_fr, se_tu, ro_nil, ro_cons, bi_n, bi_t, bi_l, bl_n, bl_c, fz_nil, fz_cons, fz1_ow, fz1_va, fz1_un, wi_nil, wi_cons, it_l, it_t, it_c, it_s, it_r, it_zl, it_zt, it_e, non_1, non_2, non_3, non_4, non_5, non_6, atI_0, atI_1, atI_2, atI_3, atI_4, eq_int, ne_int, ne_byt, eq_byt, hlen, hO, r1, g_10, g_11, g_12, h60, h12, eq_str, ow, ok_6, ew, hlc, big_v, hb]
      rw [hz]
theorem is_kind_ok (k : Kd) (hk : k.ok) (hp : k.parts ≤ 60) (hd : k.deep ≤ 12) (n : Nat) (st : Store) (hn : 9 ≤ n) : callF Γ n F_is_kind [k.t] st = .ok (.bl true, .va) st := by
  obtain ⟨m, rfl⟩ : ∃ m, n = m + 1 := ⟨n - 1, by omega⟩
  obtain ⟨z4, z5, z6, z7, hz⟩ := isk_loop m (by omega) ⟨callF Γ m, callF Γ (m - 1)⟩ rfl st (.va k.t) 60 [(k, 1)] 0 .un .un .un .un (by simp [total]; exact hp) (by simp; exact ⟨hk, by omega⟩) (by simp [total]; exact hp) (by simp)
  have h3 := hz 999939
  have ew : Γ.wf = 60 + 999939 + 1 := rfl
  rw [c_is_kind]
  simp [wcond, wbody, fd_is_kind, stT] at h3
  have ea : ∀ st, evBi .all [.lst []] st = .ok (.bl true, .va) st := fun _ => rfl
  simp [fd_is_kind, rb_ok, rb_exn, rt_ok, rt_exn, rq_nx, rq_rt, rq_bk, rq_ct, rq_exn, m_ok, m_fail, okv_s, of_s, of_none, ite_s, ite_r, keep_va, keep_fr, sl_va, sl_ow, bl_r, in_r, ev_v, ev_c, ev_g, ev_bin, ev_neg, ev_cmp, ev_ch2, ev_isn, ev_isb, ev_and, ev_or, ev_not, ev_ife, ev_tup, ev_lst, ev_new, ev_ix, ev_sl, ev_call, ev_bi, ev_isi, ev_mt, lo_r, ce_r, ev_meth, ev_fld, ev_mk, ev_lc, nx_ok, lc_nil, evO_none, evO_some, evA_nil, evA_cons, evRs_nil, evRs_cons, evF_nil, evF_cons, tst_yes, ptst_of, ptst_and, ptst_or, ptst_not, truth_bl, truth_int, truth_lst, truth_non, op_r, evS_pass, evS_seq, evS_asg, evS_par, sls_va, sls_ow, evS_aug, evS_app, ls_s, evS_ext, evS_pop, evS_ex, re_va, re_fr, evS_ret, evS_retv, evS_retn, evS_ite, evS_while, loo_nx, loo_ct, loo_bk, loo_rt, evS_for, fo_nil, fo_cons, evS_brk, evS_cont, lo_s, in_s, evS_setfld, evS_augfld, li_s, nt_s, evS_setix, evS_try, ret_s, rr_rt, rr_nx, rr_exn, ix_lst, ix_tup, li_r, ix_loc, ix_str, ix_byt, add_int, add_str, add_tup, add_lst, sub_int, mul_int, div_int, mod_int, pow_int, ord_int, ord_str, cmp_lt, cmp_le, cmp_gt, cmp_ge, cmp_in, sl_lst, sl_scr, sl_tup, sl_byt, len_lst, len_tup, len_scr, len_str, len_byt, b_int, b_abs, b_tupl, b_lstl, b_lstt, b_lstb, aug_add, aug_sub, mk_l, mk_t, mk_s, is_1, is_2, is_3, is_4, is_5, is_6, is_7, se_va, se_fr, se_tu, ro_nil, ro_cons, bi_n, bi_t, bi_l, bl_n, bl_c, fz_nil, fz_cons, fz1_ow, fz1_va, fz1_un, wi_nil, wi_cons, it_l, it_t, it_c, it_s, it_r, it_zl, it_zt, it_e, non_1, non_2, non_3, non_4, non_5, non_6, atI_0, atI_1, atI_2, atI_3, atI_4, eq_int, ne_int, ne_byt, eq_byt, ew, -Nat.reduceAdd, big_v]
  simp [h3, rb_ok, rb_exn, rt_ok, rt_exn, rq_nx, rq_rt, rq_bk, rq_ct, rq_exn, m_ok, m_fail, okv_s, of_s, of_none, ite_s, ite_r, keep_va, keep_fr, sl_va, sl_ow, bl_r, in_r, ev_v, ev_c, ev_g, ev_bin, ev_neg, ev_cmp, ev_ch2, ev_isn, ev_isb, ev_and, ev_or, ev_not, ev_ife, ev_tup, ev_lst, ev_new, ev_ix, ev_sl, ev_call, ev_bi, ev_isi, ev_mt, lo_r, ce_r, ev_meth, ev_fld, ev_mk, ev_lc, nx_ok, lc_nil, evO_none, evO_some, evA_nil, evA_cons, evRs_nil, evRs_cons, evF_nil, evF_cons, tst_yes, ptst_of, ptst_and, ptst_or, ptst_not, truth_bl, truth_int, truth_lst, truth_non, op_r, evS_pass, evS_seq, evS_asg, evS_par, sls_va, sls_ow, evS_aug, evS_app, ls_s, evS_ext, evS_pop, evS_ex, re_va, re_fr, evS_ret, evS_retv, evS_retn, evS_ite, evS_while, loo_nx, loo_ct, loo_bk, loo_rt, evS_for, fo_nil, fo_cons, evS_brk, evS_cont, lo_s, in_s, evS_setfld, evS_augfld, li_s, nt_s, evS_setix, evS_try, ret_s, rr_rt, rr_nx, rr_exn, ix_lst, ix_tup, li_r, ix_loc, ix_str, ix_byt, add_int, add_str, add_tup, add_lst, sub_int, mul_int, div_int, mod_int, pow_int, ord_int, ord_str, cmp_lt, cmp_le, cmp_gt, cmp_ge, cmp_in, sl_lst, sl_scr, sl_tup, sl_byt, len_lst, len_tup, len_scr, len_str, len_byt, b_int, b_abs, b_tupl, b_lstl, b_lstt, b_lstb, aug_add, aug_sub, mk_l, mk_t, mk_s, is_1, is_2, is_3, is_4, is_5, is_6, is_7, se_va, se_fr, se_tu, ro_nil, ro_cons, bi_n, bi_t, bi_l, bl_n, bl_c, fz_nil, fz_cons, fz1_ow, fz1_va, fz1_un, wi_nil, wi_cons, it_l, it_t, it_c, it_s, it_r, it_zl, it_zt, it_e, non_1, non_2, non_3, non_4, non_5, non_6, atI_0, atI_1, atI_2, atI_3, atI_4, eq_int, ne_int, ne_byt, eq_byt, ea]
theorem check_ok (k : Kd) (hk : k.ok) (hp : k.parts ≤ 60) (hd : k.deep ≤ 12) (n : Nat) (st : Store) (hn : 10 ≤ n) : callF Γ n F_check_kind [k.t] st = .ok (.non, .va) st := by
  obtain ⟨m, rfl⟩ : ∃ m, n = m + 1 := ⟨n - 1, by omega⟩
  have h := fun st => is_kind_ok k hk hp hd m st (by omega)
  rw [c_check_kind]
  simp [fd_check_kind, rb_ok, rb_exn, rt_ok, rt_exn, rq_nx, rq_rt, rq_bk, rq_ct, rq_exn, m_ok, m_fail, okv_s, of_s, of_none, ite_s, ite_r, keep_va, keep_fr, sl_va, sl_ow, bl_r, in_r, ev_v, ev_c, ev_g, ev_bin, ev_neg, ev_cmp, ev_ch2, ev_isn, ev_isb, ev_and, ev_or, ev_not, ev_ife, ev_tup, ev_lst, ev_new, ev_ix, ev_sl, ev_call, ev_bi, ev_isi, ev_mt, lo_r, ce_r, ev_meth, ev_fld, ev_mk, ev_lc, nx_ok, lc_nil, evO_none, evO_some, evA_nil, evA_cons, evRs_nil, evRs_cons, evF_nil, evF_cons, tst_yes, ptst_of, ptst_and, ptst_or, ptst_not, truth_bl, truth_int, truth_lst, truth_non, op_r, evS_pass, evS_seq, evS_asg, evS_par, sls_va, sls_ow, evS_aug, evS_app, ls_s, evS_ext, evS_pop, evS_ex, re_va, re_fr, evS_ret, evS_retv, evS_retn, evS_ite, evS_while, loo_nx, loo_ct, loo_bk, loo_rt, evS_for, fo_nil, fo_cons, evS_brk, evS_cont, lo_s, in_s, evS_setfld, evS_augfld, li_s, nt_s, evS_setix, evS_try, ret_s, rr_rt, rr_nx, rr_exn, ix_lst, ix_tup, li_r, ix_loc, ix_str, ix_byt, add_int, add_str, add_tup, add_lst, sub_int, mul_int, div_int, mod_int, pow_int, ord_int, ord_str, cmp_lt, cmp_le, cmp_gt, cmp_ge, cmp_in, sl_lst, sl_scr, sl_tup, sl_byt, len_lst, len_tup, len_scr, len_str, len_byt, b_int, b_abs, b_tupl, b_lstl, b_lstt, b_lstb, aug_add, aug_sub, mk_l, mk_t, mk_s, is_1, is_2, is_3, is_4, is_5, is_6, is_7, se_va, se_fr, se_tu, ro_nil, ro_cons, bi_n, bi_t, bi_l, bl_n, bl_c, fz_nil, fz_cons, fz1_ow, fz1_va, fz1_un, wi_nil, wi_cons, it_l, it_t, it_c, it_s, it_r, it_zl, it_zt, it_e, non_1, non_2, non_3, non_4, non_5, non_6, atI_0, atI_1, atI_2, atI_3, atI_4, eq_int, ne_int, ne_byt, eq_byt, h]
theorem parts_ok : ∀ (k : Kd), k.ok → ∀ (n : Nat) (st : Store), k.deep + 8 ≤ n → callF Γ n F_raw_kind_parts [k.t] st = .ok (.int (k.parts : Nat), .va) st := by
  intro k
  induction k with
  | int a b =>
    intro hk n st hn
    obtain ⟨m, rfl⟩ : ∃ m, n = m + 1 := ⟨n - 1, by omega⟩
    have h := fun st => kids_ok _ hk m st (by simp [Kd.deep] at hn; omega)
    have es : ∀ st, evBi .sum [.lst []] st = .ok (.int 0, .va) st := fun _ => rfl
    rw [c_raw_kind_parts]
    simp [fd_raw_kind_parts, rb_ok, rb_exn, rt_ok, rt_exn, rq_nx, rq_rt, rq_bk, rq_ct, rq_exn, m_ok, m_fail, okv_s, of_s, of_none, ite_s, ite_r, keep_va, keep_fr, sl_va, sl_ow, bl_r, in_r, ev_v, ev_c, ev_g, ev_bin, ev_neg, ev_cmp, ev_ch2, ev_isn, ev_isb, ev_and, ev_or, ev_not, ev_ife, ev_tup, ev_lst, ev_new, ev_ix, ev_sl, ev_call, ev_bi, ev_isi, ev_mt, lo_r, ce_r, ev_meth, ev_fld, ev_mk, ev_lc, nx_ok, lc_nil, evO_none, evO_some, evA_nil, evA_cons, evRs_nil, evRs_cons, evF_nil, evF_cons, tst_yes, ptst_of, ptst_and, ptst_or, ptst_not, truth_bl, truth_int, truth_lst, truth_non, op_r, evS_pass, evS_seq, evS_asg, evS_par, sls_va, sls_ow, evS_aug, evS_app, ls_s, evS_ext, evS_pop, evS_ex, re_va, re_fr, evS_ret, evS_retv, evS_retn, evS_ite, evS_while, loo_nx, loo_ct, loo_bk, loo_rt, evS_for, fo_nil, fo_cons, evS_brk, evS_cont, lo_s, in_s, evS_setfld, evS_augfld, li_s, nt_s, evS_setix, evS_try, ret_s, rr_rt, rr_nx, rr_exn, ix_lst, ix_tup, li_r, ix_loc, ix_str, ix_byt, add_int, add_str, add_tup, add_lst, sub_int, mul_int, div_int, mod_int, pow_int, ord_int, ord_str, cmp_lt, cmp_le, cmp_gt, cmp_ge, cmp_in, sl_lst, sl_scr, sl_tup, sl_byt, len_lst, len_tup, len_scr, len_str, len_byt, b_int, b_abs, b_tupl, b_lstl, b_lstt, b_lstb, aug_add, aug_sub, mk_l, mk_t, mk_s, is_1, is_2, is_3, is_4, is_5, is_6, is_7, se_va, se_fr, se_tu, ro_nil, ro_cons, bi_n, bi_t, bi_l, bl_n, bl_c, fz_nil, fz_cons, fz1_ow, fz1_va, fz1_un, wi_nil, wi_cons, it_l, it_t, it_c, it_s, it_r, it_zl, it_zt, it_e, non_1, non_2, non_3, non_4, non_5, non_6, atI_0, atI_1, atI_2, atI_3, atI_4, eq_int, ne_int, ne_byt, eq_byt, h, Kd.kids, Kd.subs, es, Kd.parts]
  | word w =>
    intro hk n st hn
    obtain ⟨m, rfl⟩ : ∃ m, n = m + 1 := ⟨n - 1, by omega⟩
    have h := fun st => kids_ok _ hk m st (by simp [Kd.deep] at hn; omega)
    have es : ∀ st, evBi .sum [.lst []] st = .ok (.int 0, .va) st := fun _ => rfl
    rw [c_raw_kind_parts]
    simp [fd_raw_kind_parts, rb_ok, rb_exn, rt_ok, rt_exn, rq_nx, rq_rt, rq_bk, rq_ct, rq_exn, m_ok, m_fail, okv_s, of_s, of_none, ite_s, ite_r, keep_va, keep_fr, sl_va, sl_ow, bl_r, in_r, ev_v, ev_c, ev_g, ev_bin, ev_neg, ev_cmp, ev_ch2, ev_isn, ev_isb, ev_and, ev_or, ev_not, ev_ife, ev_tup, ev_lst, ev_new, ev_ix, ev_sl, ev_call, ev_bi, ev_isi, ev_mt, lo_r, ce_r, ev_meth, ev_fld, ev_mk, ev_lc, nx_ok, lc_nil, evO_none, evO_some, evA_nil, evA_cons, evRs_nil, evRs_cons, evF_nil, evF_cons, tst_yes, ptst_of, ptst_and, ptst_or, ptst_not, truth_bl, truth_int, truth_lst, truth_non, op_r, evS_pass, evS_seq, evS_asg, evS_par, sls_va, sls_ow, evS_aug, evS_app, ls_s, evS_ext, evS_pop, evS_ex, re_va, re_fr, evS_ret, evS_retv, evS_retn, evS_ite, evS_while, loo_nx, loo_ct, loo_bk, loo_rt, evS_for, fo_nil, fo_cons, evS_brk, evS_cont, lo_s, in_s, evS_setfld, evS_augfld, li_s, nt_s, evS_setix, evS_try, ret_s, rr_rt, rr_nx, rr_exn, ix_lst, ix_tup, li_r, ix_loc, ix_str, ix_byt, add_int, add_str, add_tup, add_lst, sub_int, mul_int, div_int, mod_int, pow_int, ord_int, ord_str, cmp_lt, cmp_le, cmp_gt, cmp_ge, cmp_in, sl_lst, sl_scr, sl_tup, sl_byt, len_lst, len_tup, len_scr, len_str, len_byt, b_int, b_abs, b_tupl, b_lstl, b_lstt, b_lstb, aug_add, aug_sub, mk_l, mk_t, mk_s, is_1, is_2, is_3, is_4, is_5, is_6, is_7, se_va, se_fr, se_tu, ro_nil, ro_cons, bi_n, bi_t, bi_l, bl_n, bl_c, fz_nil, fz_cons, fz1_ow, fz1_va, fz1_un, wi_nil, wi_cons, it_l, it_t, it_c, it_s, it_r, it_zl, it_zt, it_e, non_1, non_2, non_3, non_4, non_5, non_6, atI_0, atI_1, atI_2, atI_3, atI_4, eq_int, ne_int, ne_byt, eq_byt, h, Kd.kids, Kd.subs, es, Kd.parts]
  | list k ih =>
    intro hk n st hn
    obtain ⟨m, rfl⟩ : ∃ m, n = m + 1 := ⟨n - 1, by omega⟩
    have h := fun st => kids_ok _ hk m st (by simp [Kd.deep] at hn; omega)
    have h1 := fun st => ih hk m st (by simp [Kd.deep] at hn; omega)
    have es : ∀ (a : Int) st, evBi .sum [.lst [.int a]] st = .ok (.int ([a].sum), .va) st := fun a st => b_sum st [a]
    rw [c_raw_kind_parts]
    simp [fd_raw_kind_parts, rb_ok, rb_exn, rt_ok, rt_exn, rq_nx, rq_rt, rq_bk, rq_ct, rq_exn, m_ok, m_fail, okv_s, of_s, of_none, ite_s, ite_r, keep_va, keep_fr, sl_va, sl_ow, bl_r, in_r, ev_v, ev_c, ev_g, ev_bin, ev_neg, ev_cmp, ev_ch2, ev_isn, ev_isb, ev_and, ev_or, ev_not, ev_ife, ev_tup, ev_lst, ev_new, ev_ix, ev_sl, ev_call, ev_bi, ev_isi, ev_mt, lo_r, ce_r, ev_meth, ev_fld, ev_mk, ev_lc, nx_ok, lc_nil, evO_none, evO_some, evA_nil, evA_cons, evRs_nil, evRs_cons, evF_nil, evF_cons, tst_yes, ptst_of, ptst_and, ptst_or, ptst_not, truth_bl, truth_int, truth_lst, truth_non, op_r, evS_pass, evS_seq, evS_asg, evS_par, sls_va, sls_ow, evS_aug, evS_app, ls_s, evS_ext, evS_pop, evS_ex, re_va, re_fr, evS_ret, evS_retv, evS_retn, evS_ite, evS_while, loo_nx, loo_ct, loo_bk, loo_rt, evS_for, fo_nil, fo_cons, evS_brk, evS_cont, lo_s, in_s, evS_setfld, evS_augfld, li_s, nt_s, evS_setix, evS_try, ret_s, rr_rt, rr_nx, rr_exn, ix_lst, ix_tup, li_r, ix_loc, ix_str, ix_byt, add_int, add_str, add_tup, add_lst, sub_int, mul_int, div_int, mod_int, pow_int, ord_int, ord_str, cmp_lt, cmp_le, cmp_gt, cmp_ge, cmp_in, sl_lst, sl_scr, sl_tup, sl_byt, len_lst, len_tup, len_scr, len_str, len_byt, b_int, b_abs, b_tupl, b_lstl, b_lstt, b_lstb, aug_add, aug_sub, mk_l, mk_t, mk_s, is_1, is_2, is_3, is_4, is_5, is_6, is_7, se_va, se_fr, se_tu, ro_nil, ro_cons, bi_n, bi_t, bi_l, bl_n, bl_c, fz_nil, fz_cons, fz1_ow, fz1_va, fz1_un, wi_nil, wi_cons, it_l, it_t, it_c, it_s, it_r, it_zl, it_zt, it_e, non_1, non_2, non_3, non_4, non_5, non_6, atI_0, atI_1, atI_2, atI_3, atI_4, eq_int, ne_int, ne_byt, eq_byt, h, Kd.kids, Kd.subs, es, Kd.parts, lc_cons, h1, big_v]
  | rec1 k ih =>
    intro hk n st hn
    obtain ⟨m, rfl⟩ : ∃ m, n = m + 1 := ⟨n - 1, by omega⟩
    have h := fun st => kids_ok _ hk m st (by simp [Kd.deep] at hn; omega)
    have h1 := fun st => ih hk m st (by simp [Kd.deep] at hn; omega)
    have es : ∀ (a : Int) st, evBi .sum [.lst [.int a]] st = .ok (.int ([a].sum), .va) st := fun a st => b_sum st [a]
    rw [c_raw_kind_parts]
    simp [fd_raw_kind_parts, rb_ok, rb_exn, rt_ok, rt_exn, rq_nx, rq_rt, rq_bk, rq_ct, rq_exn, m_ok, m_fail, okv_s, of_s, of_none, ite_s, ite_r, keep_va, keep_fr, sl_va, sl_ow, bl_r, in_r, ev_v, ev_c, ev_g, ev_bin, ev_neg, ev_cmp, ev_ch2, ev_isn, ev_isb, ev_and, ev_or, ev_not, ev_ife, ev_tup, ev_lst, ev_new, ev_ix, ev_sl, ev_call, ev_bi, ev_isi, ev_mt, lo_r, ce_r, ev_meth, ev_fld, ev_mk, ev_lc, nx_ok, lc_nil, evO_none, evO_some, evA_nil, evA_cons, evRs_nil, evRs_cons, evF_nil, evF_cons, tst_yes, ptst_of, ptst_and, ptst_or, ptst_not, truth_bl, truth_int, truth_lst, truth_non, op_r, evS_pass, evS_seq, evS_asg, evS_par, sls_va, sls_ow, evS_aug, evS_app, ls_s, evS_ext, evS_pop, evS_ex, re_va, re_fr, evS_ret, evS_retv, evS_retn, evS_ite, evS_while, loo_nx, loo_ct, loo_bk, loo_rt, evS_for, fo_nil, fo_cons, evS_brk, evS_cont, lo_s, in_s, evS_setfld, evS_augfld, li_s, nt_s, evS_setix, evS_try, ret_s, rr_rt, rr_nx, rr_exn, ix_lst, ix_tup, li_r, ix_loc, ix_str, ix_byt, add_int, add_str, add_tup, add_lst, sub_int, mul_int, div_int, mod_int, pow_int, ord_int, ord_str, cmp_lt, cmp_le, cmp_gt, cmp_ge, cmp_in, sl_lst, sl_scr, sl_tup, sl_byt, len_lst, len_tup, len_scr, len_str, len_byt, b_int, b_abs, b_tupl, b_lstl, b_lstt, b_lstb, aug_add, aug_sub, mk_l, mk_t, mk_s, is_1, is_2, is_3, is_4, is_5, is_6, is_7, se_va, se_fr, se_tu, ro_nil, ro_cons, bi_n, bi_t, bi_l, bl_n, bl_c, fz_nil, fz_cons, fz1_ow, fz1_va, fz1_un, wi_nil, wi_cons, it_l, it_t, it_c, it_s, it_r, it_zl, it_zt, it_e, non_1, non_2, non_3, non_4, non_5, non_6, atI_0, atI_1, atI_2, atI_3, atI_4, eq_int, ne_int, ne_byt, eq_byt, h, Kd.kids, Kd.subs, es, Kd.parts, lc_cons, h1, big_v]
  | rec2 k l ih ih2 =>
    intro hk n st hn
    obtain ⟨m, rfl⟩ : ∃ m, n = m + 1 := ⟨n - 1, by omega⟩
    have h := fun st => kids_ok _ hk m st (by simp [Kd.deep] at hn; omega)
    have h1 := fun st => ih hk.1 m st (by simp [Kd.deep] at hn; omega)
    have h2 := fun st => ih2 hk.2 m st (by simp [Kd.deep] at hn; omega)
    have es : ∀ (a b : Int) st, evBi .sum [.lst [.int a, .int b]] st = .ok (.int ([a, b].sum), .va) st := fun a b st => b_sum st [a, b]
    rw [c_raw_kind_parts]
    simp [fd_raw_kind_parts, rb_ok, rb_exn, rt_ok, rt_exn, rq_nx, rq_rt, rq_bk, rq_ct, rq_exn, m_ok, m_fail, okv_s, of_s, of_none, ite_s, ite_r, keep_va, keep_fr, sl_va, sl_ow, bl_r, in_r, ev_v, ev_c, ev_g, ev_bin, ev_neg, ev_cmp, ev_ch2, ev_isn, ev_isb, ev_and, ev_or, ev_not, ev_ife, ev_tup, ev_lst, ev_new, ev_ix, ev_sl, ev_call, ev_bi, ev_isi, ev_mt, lo_r, ce_r, ev_meth, ev_fld, ev_mk, ev_lc, nx_ok, lc_nil, evO_none, evO_some, evA_nil, evA_cons, evRs_nil, evRs_cons, evF_nil, evF_cons, tst_yes, ptst_of, ptst_and, ptst_or, ptst_not, truth_bl, truth_int, truth_lst, truth_non, op_r, evS_pass, evS_seq, evS_asg, evS_par, sls_va, sls_ow, evS_aug, evS_app, ls_s, evS_ext, evS_pop, evS_ex, re_va, re_fr, evS_ret, evS_retv, evS_retn, evS_ite, evS_while, loo_nx, loo_ct, loo_bk, loo_rt, evS_for, fo_nil, fo_cons, evS_brk, evS_cont, lo_s, in_s, evS_setfld, evS_augfld, li_s, nt_s, evS_setix, evS_try, ret_s, rr_rt, rr_nx, rr_exn, ix_lst, ix_tup, li_r, ix_loc, ix_str, ix_byt, add_int, add_str, add_tup, add_lst, sub_int, mul_int, div_int, mod_int, pow_int, ord_int, ord_str, cmp_lt, cmp_le, cmp_gt, cmp_ge, cmp_in, sl_lst, sl_scr, sl_tup, sl_byt, len_lst, len_tup, len_scr, len_str, len_byt, b_int, b_abs, b_tupl, b_lstl, b_lstt, b_lstb, aug_add, aug_sub, mk_l, mk_t, mk_s, is_1, is_2, is_3, is_4, is_5, is_6, is_7, se_va, se_fr, se_tu, ro_nil, ro_cons, bi_n, bi_t, bi_l, bl_n, bl_c, fz_nil, fz_cons, fz1_ow, fz1_va, fz1_un, wi_nil, wi_cons, it_l, it_t, it_c, it_s, it_r, it_zl, it_zt, it_e, non_1, non_2, non_3, non_4, non_5, non_6, atI_0, atI_1, atI_2, atI_3, atI_4, eq_int, ne_int, ne_byt, eq_byt, h, Kd.kids, Kd.subs, es, Kd.parts, lc_cons, h1, h2, big_v]
  | cho1 k ih =>
    intro hk n st hn
    obtain ⟨m, rfl⟩ : ∃ m, n = m + 1 := ⟨n - 1, by omega⟩
    have h := fun st => kids_ok _ hk m st (by simp [Kd.deep] at hn; omega)
    have h1 := fun st => ih hk m st (by simp [Kd.deep] at hn; omega)
    have es : ∀ (a : Int) st, evBi .sum [.lst [.int a]] st = .ok (.int ([a].sum), .va) st := fun a st => b_sum st [a]
    rw [c_raw_kind_parts]
    simp [fd_raw_kind_parts, rb_ok, rb_exn, rt_ok, rt_exn, rq_nx, rq_rt, rq_bk, rq_ct, rq_exn, m_ok, m_fail, okv_s, of_s, of_none, ite_s, ite_r, keep_va, keep_fr, sl_va, sl_ow, bl_r, in_r, ev_v, ev_c, ev_g, ev_bin, ev_neg, ev_cmp, ev_ch2, ev_isn, ev_isb, ev_and, ev_or, ev_not, ev_ife, ev_tup, ev_lst, ev_new, ev_ix, ev_sl, ev_call, ev_bi, ev_isi, ev_mt, lo_r, ce_r, ev_meth, ev_fld, ev_mk, ev_lc, nx_ok, lc_nil, evO_none, evO_some, evA_nil, evA_cons, evRs_nil, evRs_cons, evF_nil, evF_cons, tst_yes, ptst_of, ptst_and, ptst_or, ptst_not, truth_bl, truth_int, truth_lst, truth_non, op_r, evS_pass, evS_seq, evS_asg, evS_par, sls_va, sls_ow, evS_aug, evS_app, ls_s, evS_ext, evS_pop, evS_ex, re_va, re_fr, evS_ret, evS_retv, evS_retn, evS_ite, evS_while, loo_nx, loo_ct, loo_bk, loo_rt, evS_for, fo_nil, fo_cons, evS_brk, evS_cont, lo_s, in_s, evS_setfld, evS_augfld, li_s, nt_s, evS_setix, evS_try, ret_s, rr_rt, rr_nx, rr_exn, ix_lst, ix_tup, li_r, ix_loc, ix_str, ix_byt, add_int, add_str, add_tup, add_lst, sub_int, mul_int, div_int, mod_int, pow_int, ord_int, ord_str, cmp_lt, cmp_le, cmp_gt, cmp_ge, cmp_in, sl_lst, sl_scr, sl_tup, sl_byt, len_lst, len_tup, len_scr, len_str, len_byt, b_int, b_abs, b_tupl, b_lstl, b_lstt, b_lstb, aug_add, aug_sub, mk_l, mk_t, mk_s, is_1, is_2, is_3, is_4, is_5, is_6, is_7, se_va, se_fr, se_tu, ro_nil, ro_cons, bi_n, bi_t, bi_l, bl_n, bl_c, fz_nil, fz_cons, fz1_ow, fz1_va, fz1_un, wi_nil, wi_cons, it_l, it_t, it_c, it_s, it_r, it_zl, it_zt, it_e, non_1, non_2, non_3, non_4, non_5, non_6, atI_0, atI_1, atI_2, atI_3, atI_4, eq_int, ne_int, ne_byt, eq_byt, h, Kd.kids, Kd.subs, es, Kd.parts, lc_cons, h1, big_v]
  | cho2 k l ih ih2 =>
    intro hk n st hn
    obtain ⟨m, rfl⟩ : ∃ m, n = m + 1 := ⟨n - 1, by omega⟩
    have h := fun st => kids_ok _ hk m st (by simp [Kd.deep] at hn; omega)
    have h1 := fun st => ih hk.1 m st (by simp [Kd.deep] at hn; omega)
    have h2 := fun st => ih2 hk.2 m st (by simp [Kd.deep] at hn; omega)
    have es : ∀ (a b : Int) st, evBi .sum [.lst [.int a, .int b]] st = .ok (.int ([a, b].sum), .va) st := fun a b st => b_sum st [a, b]
    rw [c_raw_kind_parts]
    simp [fd_raw_kind_parts, rb_ok, rb_exn, rt_ok, rt_exn, rq_nx, rq_rt, rq_bk, rq_ct, rq_exn, m_ok, m_fail, okv_s, of_s, of_none, ite_s, ite_r, keep_va, keep_fr, sl_va, sl_ow, bl_r, in_r, ev_v, ev_c, ev_g, ev_bin, ev_neg, ev_cmp, ev_ch2, ev_isn, ev_isb, ev_and, ev_or, ev_not, ev_ife, ev_tup, ev_lst, ev_new, ev_ix, ev_sl, ev_call, ev_bi, ev_isi, ev_mt, lo_r, ce_r, ev_meth, ev_fld, ev_mk, ev_lc, nx_ok, lc_nil, evO_none, evO_some, evA_nil, evA_cons, evRs_nil, evRs_cons, evF_nil, evF_cons, tst_yes, ptst_of, ptst_and, ptst_or, ptst_not, truth_bl, truth_int, truth_lst, truth_non, op_r, evS_pass, evS_seq, evS_asg, evS_par, sls_va, sls_ow, evS_aug, evS_app, ls_s, evS_ext, evS_pop, evS_ex, re_va, re_fr, evS_ret, evS_retv, evS_retn, evS_ite, evS_while, loo_nx, loo_ct, loo_bk, loo_rt, evS_for, fo_nil, fo_cons, evS_brk, evS_cont, lo_s, in_s, evS_setfld, evS_augfld, li_s, nt_s, evS_setix, evS_try, ret_s, rr_rt, rr_nx, rr_exn, ix_lst, ix_tup, li_r, ix_loc, ix_str, ix_byt, add_int, add_str, add_tup, add_lst, sub_int, mul_int, div_int, mod_int, pow_int, ord_int, ord_str, cmp_lt, cmp_le, cmp_gt, cmp_ge, cmp_in, sl_lst, sl_scr, sl_tup, sl_byt, len_lst, len_tup, len_scr, len_str, len_byt, b_int, b_abs, b_tupl, b_lstl, b_lstt, b_lstb, aug_add, aug_sub, mk_l, mk_t, mk_s, is_1, is_2, is_3, is_4, is_5, is_6, is_7, se_va, se_fr, se_tu, ro_nil, ro_cons, bi_n, bi_t, bi_l, bl_n, bl_c, fz_nil, fz_cons, fz1_ow, fz1_va, fz1_un, wi_nil, wi_cons, it_l, it_t, it_c, it_s, it_r, it_zl, it_zt, it_e, non_1, non_2, non_3, non_4, non_5, non_6, atI_0, atI_1, atI_2, atI_3, atI_4, eq_int, ne_int, ne_byt, eq_byt, h, Kd.kids, Kd.subs, es, Kd.parts, lc_cons, h1, h2, big_v]
theorem kind_parts_ok (k : Kd) (hk : k.ok) (hp : k.parts ≤ 60) (hd : k.deep ≤ 12) (n : Nat) (st : Store) (hn : 21 ≤ n) : callF Γ n F_kind_parts [k.t] st = .ok (.int (k.parts : Nat), .va) st := by
  obtain ⟨m, rfl⟩ : ∃ m, n = m + 1 := ⟨n - 1, by omega⟩
  have h := fun st => check_ok k hk hp hd m st (by omega)
  have h1 := fun st => parts_ok k hk m st (by omega)
  rw [c_kind_parts]
  simp [fd_kind_parts, rb_ok, rb_exn, rt_ok, rt_exn, rq_nx, rq_rt, rq_bk, rq_ct, rq_exn, m_ok, m_fail, okv_s, of_s, of_none, ite_s, ite_r, keep_va, keep_fr, sl_va, sl_ow, bl_r, in_r, ev_v, ev_c, ev_g, ev_bin, ev_neg, ev_cmp, ev_ch2, ev_isn, ev_isb, ev_and, ev_or, ev_not, ev_ife, ev_tup, ev_lst, ev_new, ev_ix, ev_sl, ev_call, ev_bi, ev_isi, ev_mt, lo_r, ce_r, ev_meth, ev_fld, ev_mk, ev_lc, nx_ok, lc_nil, evO_none, evO_some, evA_nil, evA_cons, evRs_nil, evRs_cons, evF_nil, evF_cons, tst_yes, ptst_of, ptst_and, ptst_or, ptst_not, truth_bl, truth_int, truth_lst, truth_non, op_r, evS_pass, evS_seq, evS_asg, evS_par, sls_va, sls_ow, evS_aug, evS_app, ls_s, evS_ext, evS_pop, evS_ex, re_va, re_fr, evS_ret, evS_retv, evS_retn, evS_ite, evS_while, loo_nx, loo_ct, loo_bk, loo_rt, evS_for, fo_nil, fo_cons, evS_brk, evS_cont, lo_s, in_s, evS_setfld, evS_augfld, li_s, nt_s, evS_setix, evS_try, ret_s, rr_rt, rr_nx, rr_exn, ix_lst, ix_tup, li_r, ix_loc, ix_str, ix_byt, add_int, add_str, add_tup, add_lst, sub_int, mul_int, div_int, mod_int, pow_int, ord_int, ord_str, cmp_lt, cmp_le, cmp_gt, cmp_ge, cmp_in, sl_lst, sl_scr, sl_tup, sl_byt, len_lst, len_tup, len_scr, len_str, len_byt, b_int, b_abs, b_tupl, b_lstl, b_lstt, b_lstb, aug_add, aug_sub, mk_l, mk_t, mk_s, is_1, is_2, is_3, is_4, is_5, is_6, is_7, se_va, se_fr, se_tu, ro_nil, ro_cons, bi_n, bi_t, bi_l, bl_n, bl_c, fz_nil, fz_cons, fz1_ow, fz1_va, fz1_un, wi_nil, wi_cons, it_l, it_t, it_c, it_s, it_r, it_zl, it_zt, it_e, non_1, non_2, non_3, non_4, non_5, non_6, atI_0, atI_1, atI_2, atI_3, atI_4, eq_int, ne_int, ne_byt, eq_byt, h, h1]
theorem numO_lt : ∀ (n : Nat), ∀ x ∈ numO n, x < 256 := by
  intro n
  induction n using Nat.strongRecOn with
  | _ n ih =>
    intro x hx
    rw [numO] at hx
    split at hx
    · simp at hx; omega
    · rcases List.mem_cons.mp hx with h | h
      · omega
      · exact ih (n / 128) (by omega) x h
theorem enc_lt : ∀ (k : Kd), ∀ x ∈ k.enc, x < 256
  | .int a b, x, h => by
    simp [Kd.enc] at h
    rcases h with h | h | h
    · omega
    · exact numO_lt _ x h
    · exact numO_lt _ x h
  | .word w, x, h => by
    unfold Kd.enc wenc at h
    split at h <;> simp at h <;> omega
  | .list k, x, h => by
    simp [Kd.enc] at h
    rcases h with h | h
    · omega
    · exact enc_lt k x h
  | .rec1 k, x, h => by
    simp [Kd.enc] at h
    rcases h with h | h | h | h
    · omega
    · omega
    · omega
    · exact enc_lt k x h
  | .cho1 k, x, h => by
    simp [Kd.enc] at h
    rcases h with h | h | h | h
    · omega
    · omega
    · omega
    · exact enc_lt k x h
  | .rec2 k l, x, h => by
    simp [Kd.enc] at h
    rcases h with h | h | h | h | h | h | h
    · omega
    · omega
    · omega
    · exact enc_lt k x h
    · omega
    · omega
    · exact enc_lt l x h
  | .cho2 k l, x, h => by
    simp [Kd.enc] at h
    rcases h with h | h | h | h | h | h | h | h
    · omega
    · omega
    · omega
    · omega
    · exact enc_lt k x h
    · omega
    · omega
    · exact enc_lt l x h
/-- the octets -/
def Kd.by (k : Kd) : List UInt8 := k.enc.map Nat.toUInt8
theorem kind_octets_ok (k : Kd) (hk : k.ok) (hp : k.parts ≤ 60) (hd : k.deep ≤ 12) (n : Nat) (st : Store) (hn : 21 ≤ n) : callF Γ n F_kind_octets [k.t] st = .ok (.byt k.by, .va) st := by
  obtain ⟨m, rfl⟩ : ∃ m, n = m + 1 := ⟨n - 1, by omega⟩
  have h := fun st => check_ok k hk hp hd m st (by omega)
  have h1 := fun st => oct_ok k hk (by omega) m st (by omega)
  have e : k.enc.map tI = (k.enc.map fun n : Nat => (n : Int)).map T.int := by simp [tI, Function.comp_def]
  have hb : (k.enc.map fun n : Nat => (n : Int)).all (fun n => decide (0 ≤ n ∧ n < 256)) = true := by
    simp
    intro x hx
    have := enc_lt k x hx
    omega
  have hB : ∀ st, evBi .bytes [.lst (k.enc.map tI)] st = .ok (.byt k.by, .va) st := fun st => by
    rw [e, b_byts, if_pos hb]
    simp [Kd.by, Function.comp_def]
  rw [c_kind_octets]
  simp [fd_kind_octets, rb_ok, rb_exn, rt_ok, rt_exn, rq_nx, rq_rt, rq_bk, rq_ct, rq_exn, m_ok, m_fail, okv_s, of_s, of_none, ite_s, ite_r, keep_va, keep_fr, sl_va, sl_ow, bl_r, in_r, ev_v, ev_c, ev_g, ev_bin, ev_neg, ev_cmp, ev_ch2, ev_isn, ev_isb, ev_and, ev_or, ev_not, ev_ife, ev_tup, ev_lst, ev_new, ev_ix, ev_sl, ev_call, ev_bi, ev_isi, ev_mt, lo_r, ce_r, ev_meth, ev_fld, ev_mk, ev_lc, nx_ok, lc_nil, evO_none, evO_some, evA_nil, evA_cons, evRs_nil, evRs_cons, evF_nil, evF_cons, tst_yes, ptst_of, ptst_and, ptst_or, ptst_not, truth_bl, truth_int, truth_lst, truth_non, op_r, evS_pass, evS_seq, evS_asg, evS_par, sls_va, sls_ow, evS_aug, evS_app, ls_s, evS_ext, evS_pop, evS_ex, re_va, re_fr, evS_ret, evS_retv, evS_retn, evS_ite, evS_while, loo_nx, loo_ct, loo_bk, loo_rt, evS_for, fo_nil, fo_cons, evS_brk, evS_cont, lo_s, in_s, evS_setfld, evS_augfld, li_s, nt_s, evS_setix, evS_try, ret_s, rr_rt, rr_nx, rr_exn, ix_lst, ix_tup, li_r, ix_loc, ix_str, ix_byt, add_int, add_str, add_tup, add_lst, sub_int, mul_int, div_int, mod_int, pow_int, ord_int, ord_str, cmp_lt, cmp_le, cmp_gt, cmp_ge, cmp_in, sl_lst, sl_scr, sl_tup, sl_byt, len_lst, len_tup, len_scr, len_str, len_byt, b_int, b_abs, b_tupl, b_lstl, b_lstt, b_lstb, aug_add, aug_sub, mk_l, mk_t, mk_s, is_1, is_2, is_3, is_4, is_5, is_6, is_7, se_va, se_fr, se_tu, ro_nil, ro_cons, bi_n, bi_t, bi_l, bl_n, bl_c, fz_nil, fz_cons, fz1_ow, fz1_va, fz1_un, wi_nil, wi_cons, it_l, it_t, it_c, it_s, it_r, it_zl, it_zt, it_e, non_1, non_2, non_3, non_4, non_5, non_6, atI_0, atI_1, atI_2, atI_3, atI_4, eq_int, ne_int, ne_byt, eq_byt, h, h1, hB]
end D


set_option Elab.async false
set_option linter.all false
set_option maxRecDepth 100000
set_option maxHeartbeats 0
namespace D
open PySem G
/-! ### the reader -/
def R (st : Store) (L : Nat) (bs : List UInt8) (p d : Int) : Store := st.set L (.ins 0 [(0, .byt bs), (1, .int p), (2, .int d)])
theorem R_get {st : Store} {L : Nat} (h : L < st.length) (bs : List UInt8) (p d : Int) : (R st L bs p d)[L]? = some (.ins 0 [(0, .byt bs), (1, .int p), (2, .int d)]) := List.getElem?_set_self h
theorem R_set (st : Store) (L : Nat) (bs bs' : List UInt8) (p d p' d' : Int) : (R st L bs p d).set L (.ins 0 [(0, .byt bs'), (1, .int p'), (2, .int d')]) = R st L bs' p' d' := by
  unfold R
  rw [List.set_set]
theorem cls0 : Γ.cls[0]? = some ⟨"OctetReader", 19, [(0, 20), (1, 21), (6, 22), (2, 23), (8, 24), (3, 25), (4, 26), (9, 27), (5, 28), (7, 29), (10, 30), (11, 31)]⟩ := rfl
theorem u8 (x : Nat) (h : x < 256) : (x.toUInt8).toNat = x := by
  show (UInt8.ofNat x).toNat = x
  rw [UInt8.toNat_ofNat']
  omega
theorem drop_cons {bs : List UInt8} {i : Nat} {x : UInt8} {r : List UInt8} (h : bs.drop i = x :: r) : bs[i]? = some x ∧ bs.drop (i + 1) = r := by
  have h1 : (bs.drop i)[0]? = some x := by rw [h]; rfl
  rw [List.getElem?_drop] at h1
  refine ⟨by simpa using h1, ?_⟩
  have h2 : (bs.drop i).drop 1 = r := by rw [h]; rfl
  rw [List.drop_drop] at h2
  exact h2
def fbody : S → S
  | .seq _ (.seq (.for _ _ _ _ b) _) => b
  | _ => .pass
section
variable {st : Store} {L : Nat} (hL : L < st.length) {bs : List UInt8} (hb : bs.length ≤ 16777216)
include hL hb
theorem take_octet (m i : Nat) (d : Int) (b : UInt8) (h : bs[i]? = some b) : callF Γ (m + 1) F_OctetReader_take_octet [.loc L] (R st L bs i d) = .ok (.int (b.toNat : Nat), .va) (R st L bs (i + 1) d) := by
  have hi : i < bs.length := (List.getElem?_eq_some_iff.mp h).1
  have h1 : ¬ ((bs.length : Int) ≤ (i : Int)) := by omega
  have h2 : (i : Int) < (bs.length : Int) := by omega
  have h3 : (0 : Int) ≤ (i : Int) := by omega
  rw [c_OctetReader_take_octet]
  simp [fd_OctetReader_take_octet, rb_ok, rb_exn, rt_ok, rt_exn, rq_nx, rq_rt, rq_bk, rq_ct, rq_exn, m_ok, m_fail, okv_s, of_s, of_none, ite_s, ite_r, keep_va, keep_fr, sl_va, sl_ow, bl_r, in_r, ev_v, ev_c, ev_g, ev_bin, ev_neg, ev_cmp, ev_ch2, ev_isn, ev_isb, ev_and, ev_or, ev_not, ev_ife, ev_tup, ev_lst, ev_new, ev_ix, ev_sl, ev_call, ev_bi, ev_isi, ev_mt, lo_r, ce_r, ev_meth, ev_fld, ev_mk, ev_lc, nx_ok, lc_nil, evO_none, evO_some, evA_nil, evA_cons, evRs_nil, evRs_cons, evF_nil, evF_cons, tst_yes, ptst_of, ptst_and, ptst_or, ptst_not, truth_bl, truth_int, truth_lst, truth_non, op_r, evS_pass, evS_seq, evS_asg, evS_par, sls_va, sls_ow, evS_aug, evS_app, ls_s, evS_ext, evS_pop, evS_ex, re_va, re_fr, evS_ret, evS_retv, evS_retn, evS_ite, evS_while, loo_nx, loo_ct, loo_bk, loo_rt, evS_for, fo_nil, fo_cons, evS_brk, evS_cont, lo_s, in_s, evS_setfld, evS_augfld, li_s, nt_s, evS_setix, evS_try, ret_s, rr_rt, rr_nx, rr_exn, ix_lst, ix_tup, li_r, ix_loc, ix_str, ix_byt, add_int, add_str, add_tup, add_lst, sub_int, mul_int, div_int, mod_int, pow_int, ord_int, ord_str, cmp_lt, cmp_le, cmp_gt, cmp_ge, cmp_in, sl_lst, sl_scr, sl_tup, sl_byt, len_lst, len_tup, len_scr, len_str, len_byt, b_int, b_abs, b_tupl, b_lstl, b_lstt, b_lstb, aug_add, aug_sub, mk_l, mk_t, mk_s, is_1, is_2, is_3, is_4, is_5, is_6, is_7, se_va, se_fr, se_tu, ro_nil, ro_cons, bi_n, bi_t, bi_l, bl_n, bl_c, fz_nil, fz_cons, fz1_ow, fz1_va, fz1_un, wi_nil, wi_cons, it_l, it_t, it_c, it_s, it_r, it_zl, it_zt, it_e, non_1, non_2, non_3, non_4, non_5, non_6, atI_0, atI_1, atI_2, atI_3, atI_4, eq_int, ne_int, ne_byt, eq_byt, R_get hL, R_set, List.lookup, putN, h1, h2, h3, big_v, hb, h]
theorem take_word (m i : Nat) (d : Int) (b : UInt8) (h : bs[i]? = some b) (ws : List T) (w : T) (hw : ws[b.toNat]? = some w) : callF Γ (m + 2) F_OctetReader_take_word [.loc L, .tup ws] (R st L bs i d) = .ok (w, .va) (R st L bs (i + 1) d) := by
  have ht := take_octet hL hb m i d b h
  have hi : b.toNat < ws.length := (List.getElem?_eq_some_iff.mp hw).1
  have h1 : ¬ ((ws.length : Int) ≤ ((b.toNat : Nat) : Int)) := by omega
  have h2 : L2.atI ws ((b.toNat : Nat) : Int) = some w := by rw [atI_nat ws _ hi, hw]
  rw [c_OctetReader_take_word]
  simp [fd_OctetReader_take_word, rb_ok, rb_exn, rt_ok, rt_exn, rq_nx, rq_rt, rq_bk, rq_ct, rq_exn, m_ok, m_fail, okv_s, of_s, of_none, ite_s, ite_r, keep_va, keep_fr, sl_va, sl_ow, bl_r, in_r, ev_v, ev_c, ev_g, ev_bin, ev_neg, ev_cmp, ev_ch2, ev_isn, ev_isb, ev_and, ev_or, ev_not, ev_ife, ev_tup, ev_lst, ev_new, ev_ix, ev_sl, ev_call, ev_bi, ev_isi, ev_mt, lo_r, ce_r, ev_meth, ev_fld, ev_mk, ev_lc, nx_ok, lc_nil, evO_none, evO_some, evA_nil, evA_cons, evRs_nil, evRs_cons, evF_nil, evF_cons, tst_yes, ptst_of, ptst_and, ptst_or, ptst_not, truth_bl, truth_int, truth_lst, truth_non, op_r, evS_pass, evS_seq, evS_asg, evS_par, sls_va, sls_ow, evS_aug, evS_app, ls_s, evS_ext, evS_pop, evS_ex, re_va, re_fr, evS_ret, evS_retv, evS_retn, evS_ite, evS_while, loo_nx, loo_ct, loo_bk, loo_rt, evS_for, fo_nil, fo_cons, evS_brk, evS_cont, lo_s, in_s, evS_setfld, evS_augfld, li_s, nt_s, evS_setix, evS_try, ret_s, rr_rt, rr_nx, rr_exn, ix_lst, ix_tup, li_r, ix_loc, ix_str, ix_byt, add_int, add_str, add_tup, add_lst, sub_int, mul_int, div_int, mod_int, pow_int, ord_int, ord_str, cmp_lt, cmp_le, cmp_gt, cmp_ge, cmp_in, sl_lst, sl_scr, sl_tup, sl_byt, len_lst, len_tup, len_scr, len_str, len_byt, b_int, b_abs, b_tupl, b_lstl, b_lstt, b_lstb, aug_add, aug_sub, mk_l, mk_t, mk_s, is_1, is_2, is_3, is_4, is_5, is_6, is_7, se_va, se_fr, se_tu, ro_nil, ro_cons, bi_n, bi_t, bi_l, bl_n, bl_c, fz_nil, fz_cons, fz1_ow, fz1_va, fz1_un, wi_nil, wi_cons, it_l, it_t, it_c, it_s, it_r, it_zl, it_zt, it_e, non_1, non_2, non_3, non_4, non_5, non_6, atI_0, atI_1, atI_2, atI_3, atI_4, eq_int, ne_int, ne_byt, eq_byt, R_get hL, R_set, List.lookup, putN, cls0, ht, h1, h2]
theorem num_loop (m : Nat) (O : Or) (hO : O.c1 = callF Γ (m + 1)) (d : Int) (begin : Sl) : ∀ (j n t i e : Nat) (acc p : Int) (x4 x5 : Sl) (rest : List UInt8), n < 128 ^ (j + 1) → (0 < t → 0 < n) → bs.drop i = (numO n).map Nat.toUInt8 ++ rest →
    ∃ ρ, foE Γ O (.n 4) (fbody fd_OctetReader_take_number.body) ((List.range' t (j + 1 + e)).map fun k : Nat => T.int (k : Int)) [.va (.loc L), begin, .va (.int acc), .va (.int p), x4, x5] (R st L bs i d) = .ok (.rt (.int (acc + p * (n : Int)), .va)) ρ (R st L bs (i + (numO n).length : Nat) d) := by
  intro j
  induction j with
  | zero =>
    intro n t i e acc p x4 x5 rest hn ht hd
    have hn : n < 128 := by simpa using hn
    have e0 : numO n = [n] := by rw [numO, if_pos hn]
    rw [e0] at hd
    obtain ⟨h1, h2⟩ := drop_cons hd
    have ho := take_octet hL hb m i d _ h1
    rw [u8 n (by omega)] at ho
    have er : List.range' t (0 + 1 + e) = t :: List.range' (t + 1) e := by
      have : 0 + 1 + e = e + 1 := by omega
      rw [this]; rfl
    rw [er, e0]
    have c1 : (n : Int) < 128 := by omega
    have c2 : (n : Int) % 128 = (n : Int) := by omega
    refine ⟨[.va (.loc L), begin, .va (.int (acc + p * (n : Int))), .va (.int p), .va (.int (t : Int)), .va (.int (n : Int))], ?_⟩
    by_cases hz : n = 0
    · have ht0 : t = 0 := by omega
      subst hz ht0
      simp at ho
      simp [fbody, fd_OctetReader_take_number, rb_ok, rb_exn, rt_ok, rt_exn, rq_nx, rq_rt, rq_bk, rq_ct, rq_exn, m_ok, m_fail, okv_s, of_s, of_none, ite_s, ite_r, keep_va, keep_fr, sl_va, sl_ow, bl_r, in_r, ev_v, ev_c, ev_g, ev_bin, ev_neg, ev_cmp, ev_ch2, ev_isn, ev_isb, ev_and, ev_or, ev_not, ev_ife, ev_tup, ev_lst, ev_new, ev_ix, ev_sl, ev_call, ev_bi, ev_isi, ev_mt, lo_r, ce_r, ev_meth, ev_fld, ev_mk, ev_lc, nx_ok, lc_nil, evO_none, evO_some, evA_nil, evA_cons, evRs_nil, evRs_cons, evF_nil, evF_cons, tst_yes, ptst_of, ptst_and, ptst_or, ptst_not, truth_bl, truth_int, truth_lst, truth_non, op_r, evS_pass, evS_seq, evS_asg, evS_par, sls_va, sls_ow, evS_aug, evS_app, ls_s, evS_ext, evS_pop, evS_ex, re_va, re_fr, evS_ret, evS_retv, evS_retn, evS_ite, evS_while, loo_nx, loo_ct, loo_bk, loo_rt, evS_for, fo_nil, fo_cons, evS_brk, evS_cont, lo_s, in_s, evS_setfld, evS_augfld, li_s, nt_s, evS_setix, evS_try, ret_s, rr_rt, rr_nx, rr_exn, ix_lst, ix_tup, li_r, ix_loc, ix_str, ix_byt, add_int, add_str, add_tup, add_lst, sub_int, mul_int, div_int, mod_int, pow_int, ord_int, ord_str, cmp_lt, cmp_le, cmp_gt, cmp_ge, cmp_in, sl_lst, sl_scr, sl_tup, sl_byt, len_lst, len_tup, len_scr, len_str, len_byt, b_int, b_abs, b_tupl, b_lstl, b_lstt, b_lstb, aug_add, aug_sub, mk_l, mk_t, mk_s, is_1, is_2, is_3, is_4, is_5, is_6, is_7, se_va, se_fr, se_tu, ro_nil, ro_cons, bi_n, bi_t, bi_l, bl_n, bl_c, fz_nil, fz_cons, fz1_ow, fz1_va, fz1_un, wi_nil, wi_cons, it_l, it_t, it_c, it_s, it_r, it_zl, it_zt, it_e, non_1, non_2, non_3, non_4, non_5, non_6, atI_0, atI_1, atI_2, atI_3, atI_4, eq_int, ne_int, ne_byt, eq_byt, R_get hL, R_set, List.lookup, cls0, hO, ho, g_13]
    · have c3 : ¬ ((n : Int) = 0) := by omega
      have m1 : -18446744073709551616 < (n : Int) := by omega
      have m2 : (n : Int) < 18446744073709551616 := by omega
      simp [fbody, fd_OctetReader_take_number, rb_ok, rb_exn, rt_ok, rt_exn, rq_nx, rq_rt, rq_bk, rq_ct, rq_exn, m_ok, m_fail, okv_s, of_s, of_none, ite_s, ite_r, keep_va, keep_fr, sl_va, sl_ow, bl_r, in_r, ev_v, ev_c, ev_g, ev_bin, ev_neg, ev_cmp, ev_ch2, ev_isn, ev_isb, ev_and, ev_or, ev_not, ev_ife, ev_tup, ev_lst, ev_new, ev_ix, ev_sl, ev_call, ev_bi, ev_isi, ev_mt, lo_r, ce_r, ev_meth, ev_fld, ev_mk, ev_lc, nx_ok, lc_nil, evO_none, evO_some, evA_nil, evA_cons, evRs_nil, evRs_cons, evF_nil, evF_cons, tst_yes, ptst_of, ptst_and, ptst_or, ptst_not, truth_bl, truth_int, truth_lst, truth_non, op_r, evS_pass, evS_seq, evS_asg, evS_par, sls_va, sls_ow, evS_aug, evS_app, ls_s, evS_ext, evS_pop, evS_ex, re_va, re_fr, evS_ret, evS_retv, evS_retn, evS_ite, evS_while, loo_nx, loo_ct, loo_bk, loo_rt, evS_for, fo_nil, fo_cons, evS_brk, evS_cont, lo_s, in_s, evS_setfld, evS_augfld, li_s, nt_s, evS_setix, evS_try, ret_s, rr_rt, rr_nx, rr_exn, ix_lst, ix_tup, li_r, ix_loc, ix_str, ix_byt, add_int, add_str, add_tup, add_lst, sub_int, mul_int, div_int, mod_int, pow_int, ord_int, ord_str, cmp_lt, cmp_le, cmp_gt, cmp_ge, cmp_in, sl_lst, sl_scr, sl_tup, sl_byt, len_lst, len_tup, len_scr, len_str, len_byt, b_int, b_abs, b_tupl, b_lstl, b_lstt, b_lstb, aug_add, aug_sub, mk_l, mk_t, mk_s, is_1, is_2, is_3, is_4, is_5, is_6, is_7, se_va, se_fr, se_tu, ro_nil, ro_cons, bi_n, bi_t, bi_l, bl_n, bl_c, fz_nil, fz_cons, fz1_ow, fz1_va, fz1_un, wi_nil, wi_cons, it_l, it_t, it_c, it_s, it_r, it_zl, it_zt, it_e, non_1, non_2, non_3, non_4, non_5, non_6, atI_0, atI_1, atI_2, atI_3, atI_4, eq_int, ne_int, ne_byt, eq_byt, R_get hL, R_set, List.lookup, cls0, hO, ho, g_13, c1, c2, c3, hz, m1, m2]
  | succ j ih =>
    intro n t i e acc p x4 x5 rest hn ht hd
    by_cases hs : n < 128
    · have e0 : numO n = [n] := by rw [numO, if_pos hs]
      rw [e0] at hd
      obtain ⟨h1, h2⟩ := drop_cons hd
      have ho := take_octet hL hb m i d _ h1
      rw [u8 n (by omega)] at ho
      have er : List.range' t (j + 1 + 1 + e) = t :: List.range' (t + 1) (j + 1 + e) := by
        have : j + 1 + 1 + e = (j + 1 + e) + 1 := by omega
        rw [this]; rfl
      rw [er, e0]
      have c1 : (n : Int) < 128 := by omega
      have c2 : (n : Int) % 128 = (n : Int) := by omega
      refine ⟨[.va (.loc L), begin, .va (.int (acc + p * (n : Int))), .va (.int p), .va (.int (t : Int)), .va (.int (n : Int))], ?_⟩
      by_cases hz : n = 0
      · have ht0 : t = 0 := by omega
        subst hz ht0
        simp at ho
        simp [fbody, fd_OctetReader_take_number, rb_ok, rb_exn, rt_ok, rt_exn, rq_nx, rq_rt, rq_bk, rq_ct, rq_exn, m_ok, m_fail, okv_s, of_s, of_none, ite_s, ite_r, keep_va, keep_fr, sl_va, sl_ow, bl_r, in_r, ev_v, ev_c, ev_g, ev_bin, ev_neg, ev_cmp, ev_ch2, ev_isn, ev_isb, ev_and, ev_or, ev_not, ev_ife, ev_tup, ev_lst, ev_new, ev_ix, ev_sl, ev_call, ev_bi, ev_isi, ev_mt, lo_r, ce_r, ev_meth, ev_fld, ev_mk, ev_lc, nx_ok, lc_nil, evO_none, evO_some, evA_nil, evA_cons, evRs_nil, evRs_cons, evF_nil, evF_cons, tst_yes, ptst_of, ptst_and, ptst_or, ptst_not, truth_bl, truth_int, truth_lst, truth_non, op_r, evS_pass, evS_seq, evS_asg, evS_par, sls_va, sls_ow, evS_aug, evS_app, ls_s, evS_ext, evS_pop, evS_ex, re_va, re_fr, evS_ret, evS_retv, evS_retn, evS_ite, evS_while, loo_nx, loo_ct, loo_bk, loo_rt, evS_for, fo_nil, fo_cons, evS_brk, evS_cont, lo_s, in_s, evS_setfld, evS_augfld, li_s, nt_s, evS_setix, evS_try, ret_s, rr_rt, rr_nx, rr_exn, ix_lst, ix_tup, li_r, ix_loc, ix_str, ix_byt, add_int, add_str, add_tup, add_lst, sub_int, mul_int, div_int, mod_int, pow_int, ord_int, ord_str, cmp_lt, cmp_le, cmp_gt, cmp_ge, cmp_in, sl_lst, sl_scr, sl_tup, sl_byt, len_lst, len_tup, len_scr, len_str, len_byt, b_int, b_abs, b_tupl, b_lstl, b_lstt, b_lstb, aug_add, aug_sub, mk_l, mk_t, mk_s, is_1, is_2, is_3, is_4, is_5, is_6, is_7, se_va, se_fr, se_tu, ro_nil, ro_cons, bi_n, bi_t, bi_l, bl_n, bl_c, fz_nil, fz_cons, fz1_ow, fz1_va, fz1_un, wi_nil, wi_cons, it_l, it_t, it_c, it_s, it_r, it_zl, it_zt, it_e, non_1, non_2, non_3, non_4, non_5, non_6, atI_0, atI_1, atI_2, atI_3, atI_4, eq_int, ne_int, ne_byt, eq_byt, R_get hL, R_set, List.lookup, cls0, hO, ho, g_13]
      · have c3 : ¬ ((n : Int) = 0) := by omega
        have m1 : -18446744073709551616 < (n : Int) := by omega
        have m2 : (n : Int) < 18446744073709551616 := by omega
        simp [fbody, fd_OctetReader_take_number, rb_ok, rb_exn, rt_ok, rt_exn, rq_nx, rq_rt, rq_bk, rq_ct, rq_exn, m_ok, m_fail, okv_s, of_s, of_none, ite_s, ite_r, keep_va, keep_fr, sl_va, sl_ow, bl_r, in_r, ev_v, ev_c, ev_g, ev_bin, ev_neg, ev_cmp, ev_ch2, ev_isn, ev_isb, ev_and, ev_or, ev_not, ev_ife, ev_tup, ev_lst, ev_new, ev_ix, ev_sl, ev_call, ev_bi, ev_isi, ev_mt, lo_r, ce_r, ev_meth, ev_fld, ev_mk, ev_lc, nx_ok, lc_nil, evO_none, evO_some, evA_nil, evA_cons, evRs_nil, evRs_cons, evF_nil, evF_cons, tst_yes, ptst_of, ptst_and, ptst_or, ptst_not, truth_bl, truth_int, truth_lst, truth_non, op_r, evS_pass, evS_seq, evS_asg, evS_par, sls_va, sls_ow, evS_aug, evS_app, ls_s, evS_ext, evS_pop, evS_ex, re_va, re_fr, evS_ret, evS_retv, evS_retn, evS_ite, evS_while, loo_nx, loo_ct, loo_bk, loo_rt, evS_for, fo_nil, fo_cons, evS_brk, evS_cont, lo_s, in_s, evS_setfld, evS_augfld, li_s, nt_s, evS_setix, evS_try, ret_s, rr_rt, rr_nx, rr_exn, ix_lst, ix_tup, li_r, ix_loc, ix_str, ix_byt, add_int, add_str, add_tup, add_lst, sub_int, mul_int, div_int, mod_int, pow_int, ord_int, ord_str, cmp_lt, cmp_le, cmp_gt, cmp_ge, cmp_in, sl_lst, sl_scr, sl_tup, sl_byt, len_lst, len_tup, len_scr, len_str, len_byt, b_int, b_abs, b_tupl, b_lstl, b_lstt, b_lstb, aug_add, aug_sub, mk_l, mk_t, mk_s, is_1, is_2, is_3, is_4, is_5, is_6, is_7, se_va, se_fr, se_tu, ro_nil, ro_cons, bi_n, bi_t, bi_l, bl_n, bl_c, fz_nil, fz_cons, fz1_ow, fz1_va, fz1_un, wi_nil, wi_cons, it_l, it_t, it_c, it_s, it_r, it_zl, it_zt, it_e, non_1, non_2, non_3, non_4, non_5, non_6, atI_0, atI_1, atI_2, atI_3, atI_4, eq_int, ne_int, ne_byt, eq_byt, R_get hL, R_set, List.lookup, cls0, hO, ho, g_13, c1, c2, c3, hz, m1, m2]
    · have e0 : numO n = (128 + n % 128) :: numO (n / 128) := by rw [numO, if_neg hs]
      rw [e0] at hd
      obtain ⟨h1, h2⟩ := drop_cons hd
      have ho := take_octet hL hb m i d _ h1
      rw [u8 (128 + n % 128) (by omega)] at ho
      have er : List.range' t (j + 1 + 1 + e) = t :: List.range' (t + 1) (j + 1 + e) := by
        have : j + 1 + 1 + e = (j + 1 + e) + 1 := by omega
        rw [this]; rfl
      have hq : n / 128 < 128 ^ (j + 1) := by
        rw [Nat.div_lt_iff_lt_mul (by omega)]
        rw [Nat.pow_succ] at hn
        exact hn
      obtain ⟨ρ, hi⟩ := ih (n / 128) (t + 1) (i + 1) e (acc + p * ((n : Int) % 128)) (p * 128) (.va (.int (t : Int))) (.va (.int (128 + (n : Int) % 128))) rest hq (fun _ => by omega) h2
      refine ⟨ρ, ?_⟩
      rw [er, e0]
      have c1 : ¬ (128 + (n : Int) % 128 < 128) := by omega
      have c2 : (128 + (n : Int) % 128) % 128 = (n : Int) % 128 := by omega
      have c4 : acc + p * ((n : Int) % 128) + p * 128 * ((n : Int) / 128) = acc + p * (n : Int) := by
        have : (n : Int) = (n : Int) % 128 + 128 * ((n : Int) / 128) := by omega
        conv => rhs; rw [this]
        rw [Int.mul_add, Int.mul_assoc, Int.add_assoc]
      have c5 : (i : Int) + 1 + ((numO (n / 128)).length : Int) = (i : Int) + (((numO (n / 128)).length : Int) + 1) := by omega
      have m1 : -18446744073709551616 < (n : Int) % 128 := by omega
      have m2 : (n : Int) % 128 < 18446744073709551616 := by omega
      simp at ho
      simp [c4, c5] at hi
      simp [fbody, fd_OctetReader_take_number] at hi
      simp [fbody, fd_OctetReader_take_number, rb_ok, rb_exn, rt_ok, rt_exn, rq_nx, rq_rt, rq_bk, rq_ct, rq_exn, m_ok, m_fail, okv_s, of_s, of_none, ite_s, ite_r, keep_va, keep_fr, sl_va, sl_ow, bl_r, in_r, ev_v, ev_c, ev_g, ev_bin, ev_neg, ev_cmp, ev_ch2, ev_isn, ev_isb, ev_and, ev_or, ev_not, ev_ife, ev_tup, ev_lst, ev_new, ev_ix, ev_sl, ev_call, ev_bi, ev_isi, ev_mt, lo_r, ce_r, ev_meth, ev_fld, ev_mk, ev_lc, nx_ok, lc_nil, evO_none, evO_some, evA_nil, evA_cons, evRs_nil, evRs_cons, evF_nil, evF_cons, tst_yes, ptst_of, ptst_and, ptst_or, ptst_not, truth_bl, truth_int, truth_lst, truth_non, op_r, evS_pass, evS_seq, evS_asg, evS_par, sls_va, sls_ow, evS_aug, evS_app, ls_s, evS_ext, evS_pop, evS_ex, re_va, re_fr, evS_ret, evS_retv, evS_retn, evS_ite, evS_while, loo_nx, loo_ct, loo_bk, loo_rt, evS_for, fo_nil, fo_cons, evS_brk, evS_cont, lo_s, in_s, evS_setfld, evS_augfld, li_s, nt_s, evS_setix, evS_try, ret_s, rr_rt, rr_nx, rr_exn, ix_lst, ix_tup, li_r, ix_loc, ix_str, ix_byt, add_int, add_str, add_tup, add_lst, sub_int, mul_int, div_int, mod_int, pow_int, ord_int, ord_str, cmp_lt, cmp_le, cmp_gt, cmp_ge, cmp_in, sl_lst, sl_scr, sl_tup, sl_byt, len_lst, len_tup, len_scr, len_str, len_byt, b_int, b_abs, b_tupl, b_lstl, b_lstt, b_lstb, aug_add, aug_sub, mk_l, mk_t, mk_s, is_1, is_2, is_3, is_4, is_5, is_6, is_7, se_va, se_fr, se_tu, ro_nil, ro_cons, bi_n, bi_t, bi_l, bl_n, bl_c, fz_nil, fz_cons, fz1_ow, fz1_va, fz1_un, wi_nil, wi_cons, it_l, it_t, it_c, it_s, it_r, it_zl, it_zt, it_e, non_1, non_2, non_3, non_4, non_5, non_6, atI_0, atI_1, atI_2, atI_3, atI_4, eq_int, ne_int, ne_byt, eq_byt, R_get hL, R_set, List.lookup, cls0, hO, ho, g_13, c1, c2, hi, m1, m2]
theorem take_number (m n i : Nat) (d : Int) (rest : List UInt8) (hn : n < 128 ^ 9) (hd : bs.drop i = (numO n).map Nat.toUInt8 ++ rest) : callF Γ (m + 2) F_OctetReader_take_number [.loc L] (R st L bs i d) = .ok (.int (n : Int), .va) (R st L bs (i + (numO n).length : Nat) d) := by
  obtain ⟨ρ, h⟩ := num_loop hL hb m ⟨callF Γ (m + 1), callF Γ m⟩ rfl d (.va (.int (i : Int))) 8 n 0 i 1 0 1 .un .un rest hn (fun h => absurd h (by omega)) hd
  rw [c_OctetReader_take_number]
  have e1 : ((List.range' 0 (8 + 1 + 1)).map fun k : Nat => T.int (k : Int)) = (List.range (10 : Int).toNat).map fun k : Nat => T.int (k : Int) := by
    rw [List.range_eq_range']; rfl
  rw [e1] at h
  simp [fbody, fd_OctetReader_take_number] at h
  simp [fd_OctetReader_take_number, rb_ok, rb_exn, rt_ok, rt_exn, rq_nx, rq_rt, rq_bk, rq_ct, rq_exn, m_ok, m_fail, okv_s, of_s, of_none, ite_s, ite_r, keep_va, keep_fr, sl_va, sl_ow, bl_r, in_r, ev_v, ev_c, ev_g, ev_bin, ev_neg, ev_cmp, ev_ch2, ev_isn, ev_isb, ev_and, ev_or, ev_not, ev_ife, ev_tup, ev_lst, ev_new, ev_ix, ev_sl, ev_call, ev_bi, ev_isi, ev_mt, lo_r, ce_r, ev_meth, ev_fld, ev_mk, ev_lc, nx_ok, lc_nil, evO_none, evO_some, evA_nil, evA_cons, evRs_nil, evRs_cons, evF_nil, evF_cons, tst_yes, ptst_of, ptst_and, ptst_or, ptst_not, truth_bl, truth_int, truth_lst, truth_non, op_r, evS_pass, evS_seq, evS_asg, evS_par, sls_va, sls_ow, evS_aug, evS_app, ls_s, evS_ext, evS_pop, evS_ex, re_va, re_fr, evS_ret, evS_retv, evS_retn, evS_ite, evS_while, loo_nx, loo_ct, loo_bk, loo_rt, evS_for, fo_nil, fo_cons, evS_brk, evS_cont, lo_s, in_s, evS_setfld, evS_augfld, li_s, nt_s, evS_setix, evS_try, ret_s, rr_rt, rr_nx, rr_exn, ix_lst, ix_tup, li_r, ix_loc, ix_str, ix_byt, add_int, add_str, add_tup, add_lst, sub_int, mul_int, div_int, mod_int, pow_int, ord_int, ord_str, cmp_lt, cmp_le, cmp_gt, cmp_ge, cmp_in, sl_lst, sl_scr, sl_tup, sl_byt, len_lst, len_tup, len_scr, len_str, len_byt, b_int, b_abs, b_tupl, b_lstl, b_lstt, b_lstb, aug_add, aug_sub, mk_l, mk_t, mk_s, is_1, is_2, is_3, is_4, is_5, is_6, is_7, se_va, se_fr, se_tu, ro_nil, ro_cons, bi_n, bi_t, bi_l, bl_n, bl_c, fz_nil, fz_cons, fz1_ow, fz1_va, fz1_un, wi_nil, wi_cons, it_l, it_t, it_c, it_s, it_r, it_zl, it_zt, it_e, non_1, non_2, non_3, non_4, non_5, non_6, atI_0, atI_1, atI_2, atI_3, atI_4, eq_int, ne_int, ne_byt, eq_byt, R_get hL, R_set, List.lookup, cls0, g_15, h]
theorem zig_int (a : Int) : (if ((zig a : Nat) : Int) % 2 = 0 then ((zig a : Nat) : Int) / 2 else -(((zig a : Nat) : Int) / 2) - 1) = a := by
  unfold zig
  split <;> split <;> omega
theorem take_integer (m i : Nat) (a : Int) (d : Int) (rest : List UInt8) (hn : a.natAbs ≤ 10 ^ 18) (hd : bs.drop i = (numO (zig a)).map Nat.toUInt8 ++ rest) : callF Γ (m + 3) F_OctetReader_take_integer [.loc L] (R st L bs i d) = .ok (.int a, .va) (R st L bs (i + (numO (zig a)).length : Nat) d) := by
  have h := take_number hL hb m (zig a) i d rest (zig_lt hn) hd
  have hz := zig_int hL hb a
  rw [c_OctetReader_take_integer]
  by_cases he : ((zig a : Nat) : Int) % 2 = 0
  · rw [if_pos he] at hz
    simp at h
    simp [fd_OctetReader_take_integer, rb_ok, rb_exn, rt_ok, rt_exn, rq_nx, rq_rt, rq_bk, rq_ct, rq_exn, m_ok, m_fail, okv_s, of_s, of_none, ite_s, ite_r, keep_va, keep_fr, sl_va, sl_ow, bl_r, in_r, ev_v, ev_c, ev_g, ev_bin, ev_neg, ev_cmp, ev_ch2, ev_isn, ev_isb, ev_and, ev_or, ev_not, ev_ife, ev_tup, ev_lst, ev_new, ev_ix, ev_sl, ev_call, ev_bi, ev_isi, ev_mt, lo_r, ce_r, ev_meth, ev_fld, ev_mk, ev_lc, nx_ok, lc_nil, evO_none, evO_some, evA_nil, evA_cons, evRs_nil, evRs_cons, evF_nil, evF_cons, tst_yes, ptst_of, ptst_and, ptst_or, ptst_not, truth_bl, truth_int, truth_lst, truth_non, op_r, evS_pass, evS_seq, evS_asg, evS_par, sls_va, sls_ow, evS_aug, evS_app, ls_s, evS_ext, evS_pop, evS_ex, re_va, re_fr, evS_ret, evS_retv, evS_retn, evS_ite, evS_while, loo_nx, loo_ct, loo_bk, loo_rt, evS_for, fo_nil, fo_cons, evS_brk, evS_cont, lo_s, in_s, evS_setfld, evS_augfld, li_s, nt_s, evS_setix, evS_try, ret_s, rr_rt, rr_nx, rr_exn, ix_lst, ix_tup, li_r, ix_loc, ix_str, ix_byt, add_int, add_str, add_tup, add_lst, sub_int, mul_int, div_int, mod_int, pow_int, ord_int, ord_str, cmp_lt, cmp_le, cmp_gt, cmp_ge, cmp_in, sl_lst, sl_scr, sl_tup, sl_byt, len_lst, len_tup, len_scr, len_str, len_byt, b_int, b_abs, b_tupl, b_lstl, b_lstt, b_lstb, aug_add, aug_sub, mk_l, mk_t, mk_s, is_1, is_2, is_3, is_4, is_5, is_6, is_7, se_va, se_fr, se_tu, ro_nil, ro_cons, bi_n, bi_t, bi_l, bl_n, bl_c, fz_nil, fz_cons, fz1_ow, fz1_va, fz1_un, wi_nil, wi_cons, it_l, it_t, it_c, it_s, it_r, it_zl, it_zt, it_e, non_1, non_2, non_3, non_4, non_5, non_6, atI_0, atI_1, atI_2, atI_3, atI_4, eq_int, ne_int, ne_byt, eq_byt, R_get hL, R_set, List.lookup, cls0, h, he, hz]
  · rw [if_neg he] at hz
    simp at h
    simp [fd_OctetReader_take_integer, rb_ok, rb_exn, rt_ok, rt_exn, rq_nx, rq_rt, rq_bk, rq_ct, rq_exn, m_ok, m_fail, okv_s, of_s, of_none, ite_s, ite_r, keep_va, keep_fr, sl_va, sl_ow, bl_r, in_r, ev_v, ev_c, ev_g, ev_bin, ev_neg, ev_cmp, ev_ch2, ev_isn, ev_isb, ev_and, ev_or, ev_not, ev_ife, ev_tup, ev_lst, ev_new, ev_ix, ev_sl, ev_call, ev_bi, ev_isi, ev_mt, lo_r, ce_r, ev_meth, ev_fld, ev_mk, ev_lc, nx_ok, lc_nil, evO_none, evO_some, evA_nil, evA_cons, evRs_nil, evRs_cons, evF_nil, evF_cons, tst_yes, ptst_of, ptst_and, ptst_or, ptst_not, truth_bl, truth_int, truth_lst, truth_non, op_r, evS_pass, evS_seq, evS_asg, evS_par, sls_va, sls_ow, evS_aug, evS_app, ls_s, evS_ext, evS_pop, evS_ex, re_va, re_fr, evS_ret, evS_retv, evS_retn, evS_ite, evS_while, loo_nx, loo_ct, loo_bk, loo_rt, evS_for, fo_nil, fo_cons, evS_brk, evS_cont, lo_s, in_s, evS_setfld, evS_augfld, li_s, nt_s, evS_setix, evS_try, ret_s, rr_rt, rr_nx, rr_exn, ix_lst, ix_tup, li_r, ix_loc, ix_str, ix_byt, add_int, add_str, add_tup, add_lst, sub_int, mul_int, div_int, mod_int, pow_int, ord_int, ord_str, cmp_lt, cmp_le, cmp_gt, cmp_ge, cmp_in, sl_lst, sl_scr, sl_tup, sl_byt, len_lst, len_tup, len_scr, len_str, len_byt, b_int, b_abs, b_tupl, b_lstl, b_lstt, b_lstb, aug_add, aug_sub, mk_l, mk_t, mk_s, is_1, is_2, is_3, is_4, is_5, is_6, is_7, se_va, se_fr, se_tu, ro_nil, ro_cons, bi_n, bi_t, bi_l, bl_n, bl_c, fz_nil, fz_cons, fz1_ow, fz1_va, fz1_un, wi_nil, wi_cons, it_l, it_t, it_c, it_s, it_r, it_zl, it_zt, it_e, non_1, non_2, non_3, non_4, non_5, non_6, atI_0, atI_1, atI_2, atI_3, atI_4, eq_int, ne_int, ne_byt, eq_byt, R_get hL, R_set, List.lookup, cls0, h, he, hz]
def L7 (x : Nat) : Prop := x = 97 ∨ x = 98 ∨ x = 99 ∨ x = 112 ∨ x = 113 ∨ x = 115 ∨ x = 116
theorem let_at (x : Nat) (h : L7 x) : L2.atI [97, 98, 99, 100, 101, 102, 103, 104, 105, 106, 107, 108, 109, 110, 111, 112, 113, 114, 115, 116, 117, 118, 119, 120, 121, 122] ((x : Int) - 97) = some x ∧ 0 ≤ (x : Int) - 97 ∧ (x : Int) - 97 < 26 ∧ x < 256 := by
  rcases h with rfl | rfl | rfl | rfl | rfl | rfl | rfl <;> exact ⟨rfl, by decide, by decide, by decide⟩
theorem take_name (m i : Nat) (d : Int) (x : Nat) (hx : L7 x) (rest : List UInt8) (hd : bs.drop i = (1 : Nat).toUInt8 :: x.toUInt8 :: rest) : callF Γ (m + 2) F_OctetReader_take_name [.loc L] (R st L bs i d) = .ok (.str [x], .va) (R st L bs (i + 2) d) := by
  obtain ⟨h1, h2⟩ := drop_cons hd
  obtain ⟨h3, h4⟩ := drop_cons h2
  obtain ⟨a1, a2, a3, a4⟩ := let_at hL hb x hx
  have o1 := take_octet hL hb m i d _ h1
  have o2 := take_octet hL hb m (i + 1) d _ h3
  rw [u8 1 (by omega)] at o1
  rw [u8 x a4] at o2
  simp at o1 o2
  have e1 : (i : Int) + 1 + 1 = (i : Int) + 2 := by omega
  have e2 : (97 : Int) ≤ (x : Int) := by omega
  have er : List.range 1 = [0] := rfl
  rw [c_OctetReader_take_name]
  simp [fd_OctetReader_take_name, rb_ok, rb_exn, rt_ok, rt_exn, rq_nx, rq_rt, rq_bk, rq_ct, rq_exn, m_ok, m_fail, okv_s, of_s, of_none, ite_s, ite_r, keep_va, keep_fr, sl_va, sl_ow, bl_r, in_r, ev_v, ev_c, ev_g, ev_bin, ev_neg, ev_cmp, ev_ch2, ev_isn, ev_isb, ev_and, ev_or, ev_not, ev_ife, ev_tup, ev_lst, ev_new, ev_ix, ev_sl, ev_call, ev_bi, ev_isi, ev_mt, lo_r, ce_r, ev_meth, ev_fld, ev_mk, ev_lc, nx_ok, lc_nil, evO_none, evO_some, evA_nil, evA_cons, evRs_nil, evRs_cons, evF_nil, evF_cons, tst_yes, ptst_of, ptst_and, ptst_or, ptst_not, truth_bl, truth_int, truth_lst, truth_non, op_r, evS_pass, evS_seq, evS_asg, evS_par, sls_va, sls_ow, evS_aug, evS_app, ls_s, evS_ext, evS_pop, evS_ex, re_va, re_fr, evS_ret, evS_retv, evS_retn, evS_ite, evS_while, loo_nx, loo_ct, loo_bk, loo_rt, evS_for, fo_nil, fo_cons, evS_brk, evS_cont, lo_s, in_s, evS_setfld, evS_augfld, li_s, nt_s, evS_setix, evS_try, ret_s, rr_rt, rr_nx, rr_exn, ix_lst, ix_tup, li_r, ix_loc, ix_str, ix_byt, add_int, add_str, add_tup, add_lst, sub_int, mul_int, div_int, mod_int, pow_int, ord_int, ord_str, cmp_lt, cmp_le, cmp_gt, cmp_ge, cmp_in, sl_lst, sl_scr, sl_tup, sl_byt, len_lst, len_tup, len_scr, len_str, len_byt, b_int, b_abs, b_tupl, b_lstl, b_lstt, b_lstb, aug_add, aug_sub, mk_l, mk_t, mk_s, is_1, is_2, is_3, is_4, is_5, is_6, is_7, se_va, se_fr, se_tu, ro_nil, ro_cons, bi_n, bi_t, bi_l, bl_n, bl_c, fz_nil, fz_cons, fz1_ow, fz1_va, fz1_un, wi_nil, wi_cons, it_l, it_t, it_c, it_s, it_r, it_zl, it_zt, it_e, non_1, non_2, non_3, non_4, non_5, non_6, atI_0, atI_1, atI_2, atI_3, atI_4, eq_int, ne_int, ne_byt, eq_byt, R_get hL, R_set, List.lookup, cls0, o1, o2, g_1, g_16, big_v, a1, a2, a3, er, e1, e2]
theorem take_many (m i n : Nat) (d : Int) (rest : List UInt8) (hn : n < 128) (hd : bs.drop i = n.toUInt8 :: rest) (hr : n ≤ rest.length) : callF Γ (m + 3) F_OctetReader_take_many [.loc L] (R st L bs i d) = .ok (.int (n : Int), .va) (R st L bs (i + 1) d) := by
  have e0 : numO n = [n] := by rw [numO, if_pos hn]
  have h := take_number hL hb m n i d rest (Nat.lt_of_lt_of_le hn (by decide)) (by rw [e0]; exact hd)
  rw [e0] at h
  simp at h
  obtain ⟨h1, h2⟩ := drop_cons hd
  have hlen : bs.length = i + 1 + rest.length := by
    have e := congrArg List.length hd
    have hi : i < bs.length := (List.getElem?_eq_some_iff.mp h1).1
    simp at e
    omega
  have c1 : ¬ ((bs.length : Int) - ((i : Int) + 1) < (n : Int)) := by omega
  rw [c_OctetReader_take_many]
  simp [fd_OctetReader_take_many, rb_ok, rb_exn, rt_ok, rt_exn, rq_nx, rq_rt, rq_bk, rq_ct, rq_exn, m_ok, m_fail, okv_s, of_s, of_none, ite_s, ite_r, keep_va, keep_fr, sl_va, sl_ow, bl_r, in_r, ev_v, ev_c, ev_g, ev_bin, ev_neg, ev_cmp, ev_ch2, ev_isn, ev_isb, ev_and, ev_or, ev_not, ev_ife, ev_tup, ev_lst, ev_new, ev_ix, ev_sl, ev_call, ev_bi, ev_isi, ev_mt, lo_r, ce_r, ev_meth, ev_fld, ev_mk, ev_lc, nx_ok, lc_nil, evO_none, evO_some, evA_nil, evA_cons, evRs_nil, evRs_cons, evF_nil, evF_cons, tst_yes, ptst_of, ptst_and, ptst_or, ptst_not, truth_bl, truth_int, truth_lst, truth_non, op_r, evS_pass, evS_seq, evS_asg, evS_par, sls_va, sls_ow, evS_aug, evS_app, ls_s, evS_ext, evS_pop, evS_ex, re_va, re_fr, evS_ret, evS_retv, evS_retn, evS_ite, evS_while, loo_nx, loo_ct, loo_bk, loo_rt, evS_for, fo_nil, fo_cons, evS_brk, evS_cont, lo_s, in_s, evS_setfld, evS_augfld, li_s, nt_s, evS_setix, evS_try, ret_s, rr_rt, rr_nx, rr_exn, ix_lst, ix_tup, li_r, ix_loc, ix_str, ix_byt, add_int, add_str, add_tup, add_lst, sub_int, mul_int, div_int, mod_int, pow_int, ord_int, ord_str, cmp_lt, cmp_le, cmp_gt, cmp_ge, cmp_in, sl_lst, sl_scr, sl_tup, sl_byt, len_lst, len_tup, len_scr, len_str, len_byt, b_int, b_abs, b_tupl, b_lstl, b_lstt, b_lstb, aug_add, aug_sub, mk_l, mk_t, mk_s, is_1, is_2, is_3, is_4, is_5, is_6, is_7, se_va, se_fr, se_tu, ro_nil, ro_cons, bi_n, bi_t, bi_l, bl_n, bl_c, fz_nil, fz_cons, fz1_ow, fz1_va, fz1_un, wi_nil, wi_cons, it_l, it_t, it_c, it_s, it_r, it_zl, it_zt, it_e, non_1, non_2, non_3, non_4, non_5, non_6, atI_0, atI_1, atI_2, atI_3, atI_4, eq_int, ne_int, ne_byt, eq_byt, R_get hL, R_set, List.lookup, cls0, h, big_v, hb, c1]
theorem go_deep (m : Nat) (i d : Int) (hd : d + 1 ≤ 24) : callF Γ (m + 1) F_OctetReader_go_deep [.loc L] (R st L bs i d) = .ok (.non, .va) (R st L bs i (d + 1)) := by
  have c1 : ¬ (24 < d + 1) := by omega
  rw [c_OctetReader_go_deep]
  simp [fd_OctetReader_go_deep, rb_ok, rb_exn, rt_ok, rt_exn, rq_nx, rq_rt, rq_bk, rq_ct, rq_exn, m_ok, m_fail, okv_s, of_s, of_none, ite_s, ite_r, keep_va, keep_fr, sl_va, sl_ow, bl_r, in_r, ev_v, ev_c, ev_g, ev_bin, ev_neg, ev_cmp, ev_ch2, ev_isn, ev_isb, ev_and, ev_or, ev_not, ev_ife, ev_tup, ev_lst, ev_new, ev_ix, ev_sl, ev_call, ev_bi, ev_isi, ev_mt, lo_r, ce_r, ev_meth, ev_fld, ev_mk, ev_lc, nx_ok, lc_nil, evO_none, evO_some, evA_nil, evA_cons, evRs_nil, evRs_cons, evF_nil, evF_cons, tst_yes, ptst_of, ptst_and, ptst_or, ptst_not, truth_bl, truth_int, truth_lst, truth_non, op_r, evS_pass, evS_seq, evS_asg, evS_par, sls_va, sls_ow, evS_aug, evS_app, ls_s, evS_ext, evS_pop, evS_ex, re_va, re_fr, evS_ret, evS_retv, evS_retn, evS_ite, evS_while, loo_nx, loo_ct, loo_bk, loo_rt, evS_for, fo_nil, fo_cons, evS_brk, evS_cont, lo_s, in_s, evS_setfld, evS_augfld, li_s, nt_s, evS_setix, evS_try, ret_s, rr_rt, rr_nx, rr_exn, ix_lst, ix_tup, li_r, ix_loc, ix_str, ix_byt, add_int, add_str, add_tup, add_lst, sub_int, mul_int, div_int, mod_int, pow_int, ord_int, ord_str, cmp_lt, cmp_le, cmp_gt, cmp_ge, cmp_in, sl_lst, sl_scr, sl_tup, sl_byt, len_lst, len_tup, len_scr, len_str, len_byt, b_int, b_abs, b_tupl, b_lstl, b_lstt, b_lstb, aug_add, aug_sub, mk_l, mk_t, mk_s, is_1, is_2, is_3, is_4, is_5, is_6, is_7, se_va, se_fr, se_tu, ro_nil, ro_cons, bi_n, bi_t, bi_l, bl_n, bl_c, fz_nil, fz_cons, fz1_ow, fz1_va, fz1_un, wi_nil, wi_cons, it_l, it_t, it_c, it_s, it_r, it_zl, it_zt, it_e, non_1, non_2, non_3, non_4, non_5, non_6, atI_0, atI_1, atI_2, atI_3, atI_4, eq_int, ne_int, ne_byt, eq_byt, R_get hL, R_set, List.lookup, cls0, putN, g_17, c1]
theorem go_up (m : Nat) (i d : Int) (t : T) : callF Γ (m + 1) F_OctetReader_go_up [.loc L, t] (R st L bs i d) = .ok (t, .va) (R st L bs i (d - 1)) := by
  rw [c_OctetReader_go_up]
  simp [fd_OctetReader_go_up, rb_ok, rb_exn, rt_ok, rt_exn, rq_nx, rq_rt, rq_bk, rq_ct, rq_exn, m_ok, m_fail, okv_s, of_s, of_none, ite_s, ite_r, keep_va, keep_fr, sl_va, sl_ow, bl_r, in_r, ev_v, ev_c, ev_g, ev_bin, ev_neg, ev_cmp, ev_ch2, ev_isn, ev_isb, ev_and, ev_or, ev_not, ev_ife, ev_tup, ev_lst, ev_new, ev_ix, ev_sl, ev_call, ev_bi, ev_isi, ev_mt, lo_r, ce_r, ev_meth, ev_fld, ev_mk, ev_lc, nx_ok, lc_nil, evO_none, evO_some, evA_nil, evA_cons, evRs_nil, evRs_cons, evF_nil, evF_cons, tst_yes, ptst_of, ptst_and, ptst_or, ptst_not, truth_bl, truth_int, truth_lst, truth_non, op_r, evS_pass, evS_seq, evS_asg, evS_par, sls_va, sls_ow, evS_aug, evS_app, ls_s, evS_ext, evS_pop, evS_ex, re_va, re_fr, evS_ret, evS_retv, evS_retn, evS_ite, evS_while, loo_nx, loo_ct, loo_bk, loo_rt, evS_for, fo_nil, fo_cons, evS_brk, evS_cont, lo_s, in_s, evS_setfld, evS_augfld, li_s, nt_s, evS_setix, evS_try, ret_s, rr_rt, rr_nx, rr_exn, ix_lst, ix_tup, li_r, ix_loc, ix_str, ix_byt, add_int, add_str, add_tup, add_lst, sub_int, mul_int, div_int, mod_int, pow_int, ord_int, ord_str, cmp_lt, cmp_le, cmp_gt, cmp_ge, cmp_in, sl_lst, sl_scr, sl_tup, sl_byt, len_lst, len_tup, len_scr, len_str, len_byt, b_int, b_abs, b_tupl, b_lstl, b_lstt, b_lstb, aug_add, aug_sub, mk_l, mk_t, mk_s, is_1, is_2, is_3, is_4, is_5, is_6, is_7, se_va, se_fr, se_tu, ro_nil, ro_cons, bi_n, bi_t, bi_l, bl_n, bl_c, fz_nil, fz_cons, fz1_ow, fz1_va, fz1_un, wi_nil, wi_cons, it_l, it_t, it_c, it_s, it_r, it_zl, it_zt, it_e, non_1, non_2, non_3, non_4, non_5, non_6, atI_0, atI_1, atI_2, atI_3, atI_4, eq_int, ne_int, ne_byt, eq_byt, R_get hL, R_set, List.lookup, cls0, putN]
theorem take_names (m i w : Nat) (d : Int) (rest : List UInt8) (hd : bs.drop i = (wenc w).map Nat.toUInt8 ++ rest) : callF Γ (m + 4) F_OctetReader_take_names [.loc L] (R st L bs i d) = .ok (.tup (wds w), .va) (R st L bs (i + (wenc w).length : Nat) d) := by
  rw [c_OctetReader_take_names]
  rcases w with _ | _ | w
  · have h0 := take_many hL hb m i 1 d _ (by omega) hd (by simp)
    obtain ⟨_, h2⟩ := drop_cons hd
    have o1 := take_name hL hb (m + 1) (i + 1) d 97 (by simp [L7]) _ h2
    simp at h0 o1
    have er : List.range 1 = [0] := rfl
    have e1 : (i : Int) + 1 + 2 = (i : Int) + 3 := by omega
    simp [fd_OctetReader_take_names, rb_ok, rb_exn, rt_ok, rt_exn, rq_nx, rq_rt, rq_bk, rq_ct, rq_exn, m_ok, m_fail, okv_s, of_s, of_none, ite_s, ite_r, keep_va, keep_fr, sl_va, sl_ow, bl_r, in_r, ev_v, ev_c, ev_g, ev_bin, ev_neg, ev_cmp, ev_ch2, ev_isn, ev_isb, ev_and, ev_or, ev_not, ev_ife, ev_tup, ev_lst, ev_new, ev_ix, ev_sl, ev_call, ev_bi, ev_isi, ev_mt, lo_r, ce_r, ev_meth, ev_fld, ev_mk, ev_lc, nx_ok, lc_nil, evO_none, evO_some, evA_nil, evA_cons, evRs_nil, evRs_cons, evF_nil, evF_cons, tst_yes, ptst_of, ptst_and, ptst_or, ptst_not, truth_bl, truth_int, truth_lst, truth_non, op_r, evS_pass, evS_seq, evS_asg, evS_par, sls_va, sls_ow, evS_aug, evS_app, ls_s, evS_ext, evS_pop, evS_ex, re_va, re_fr, evS_ret, evS_retv, evS_retn, evS_ite, evS_while, loo_nx, loo_ct, loo_bk, loo_rt, evS_for, fo_nil, fo_cons, evS_brk, evS_cont, lo_s, in_s, evS_setfld, evS_augfld, li_s, nt_s, evS_setix, evS_try, ret_s, rr_rt, rr_nx, rr_exn, ix_lst, ix_tup, li_r, ix_loc, ix_str, ix_byt, add_int, add_str, add_tup, add_lst, sub_int, mul_int, div_int, mod_int, pow_int, ord_int, ord_str, cmp_lt, cmp_le, cmp_gt, cmp_ge, cmp_in, sl_lst, sl_scr, sl_tup, sl_byt, len_lst, len_tup, len_scr, len_str, len_byt, b_int, b_abs, b_tupl, b_lstl, b_lstt, b_lstb, aug_add, aug_sub, mk_l, mk_t, mk_s, is_1, is_2, is_3, is_4, is_5, is_6, is_7, se_va, se_fr, se_tu, ro_nil, ro_cons, bi_n, bi_t, bi_l, bl_n, bl_c, fz_nil, fz_cons, fz1_ow, fz1_va, fz1_un, wi_nil, wi_cons, it_l, it_t, it_c, it_s, it_r, it_zl, it_zt, it_e, non_1, non_2, non_3, non_4, non_5, non_6, atI_0, atI_1, atI_2, atI_3, atI_4, eq_int, ne_int, ne_byt, eq_byt, R_get hL, R_set, List.lookup, cls0, h0, o1, er, lc_cons, big_v, wds, wenc, e1]
  · have h0 := take_many hL hb m i 2 d _ (by omega) hd (by simp)
    obtain ⟨_, h2⟩ := drop_cons hd
    have o1 := take_name hL hb (m + 1) (i + 1) d 97 (by simp [L7]) _ h2
    obtain ⟨_, h3⟩ := drop_cons h2
    obtain ⟨_, h4⟩ := drop_cons h3
    have o2 := take_name hL hb (m + 1) (i + 1 + 1 + 1) d 98 (by simp [L7]) _ h4
    simp at h0 o1 o2
    have er : List.range 2 = [0, 1] := rfl
    have e1 : (i : Int) + 1 + 2 = (i : Int) + 1 + 1 + 1 := by omega
    have e2 : (i : Int) + 1 + 1 + 1 + 2 = (i : Int) + 5 := by omega
    simp [fd_OctetReader_take_names, rb_ok, rb_exn, rt_ok, rt_exn, rq_nx, rq_rt, rq_bk, rq_ct, rq_exn, m_ok, m_fail, okv_s, of_s, of_none, ite_s, ite_r, keep_va, keep_fr, sl_va, sl_ow, bl_r, in_r, ev_v, ev_c, ev_g, ev_bin, ev_neg, ev_cmp, ev_ch2, ev_isn, ev_isb, ev_and, ev_or, ev_not, ev_ife, ev_tup, ev_lst, ev_new, ev_ix, ev_sl, ev_call, ev_bi, ev_isi, ev_mt, lo_r, ce_r, ev_meth, ev_fld, ev_mk, ev_lc, nx_ok, lc_nil, evO_none, evO_some, evA_nil, evA_cons, evRs_nil, evRs_cons, evF_nil, evF_cons, tst_yes, ptst_of, ptst_and, ptst_or, ptst_not, truth_bl, truth_int, truth_lst, truth_non, op_r, evS_pass, evS_seq, evS_asg, evS_par, sls_va, sls_ow, evS_aug, evS_app, ls_s, evS_ext, evS_pop, evS_ex, re_va, re_fr, evS_ret, evS_retv, evS_retn, evS_ite, evS_while, loo_nx, loo_ct, loo_bk, loo_rt, evS_for, fo_nil, fo_cons, evS_brk, evS_cont, lo_s, in_s, evS_setfld, evS_augfld, li_s, nt_s, evS_setix, evS_try, ret_s, rr_rt, rr_nx, rr_exn, ix_lst, ix_tup, li_r, ix_loc, ix_str, ix_byt, add_int, add_str, add_tup, add_lst, sub_int, mul_int, div_int, mod_int, pow_int, ord_int, ord_str, cmp_lt, cmp_le, cmp_gt, cmp_ge, cmp_in, sl_lst, sl_scr, sl_tup, sl_byt, len_lst, len_tup, len_scr, len_str, len_byt, b_int, b_abs, b_tupl, b_lstl, b_lstt, b_lstb, aug_add, aug_sub, mk_l, mk_t, mk_s, is_1, is_2, is_3, is_4, is_5, is_6, is_7, se_va, se_fr, se_tu, ro_nil, ro_cons, bi_n, bi_t, bi_l, bl_n, bl_c, fz_nil, fz_cons, fz1_ow, fz1_va, fz1_un, wi_nil, wi_cons, it_l, it_t, it_c, it_s, it_r, it_zl, it_zt, it_e, non_1, non_2, non_3, non_4, non_5, non_6, atI_0, atI_1, atI_2, atI_3, atI_4, eq_int, ne_int, ne_byt, eq_byt, R_get hL, R_set, List.lookup, cls0, h0, o1, o2, er, lc_cons, big_v, wds, wenc, e1, e2]
  · have h0 := take_many hL hb m i 3 d _ (by omega) hd (by simp)
    obtain ⟨_, h2⟩ := drop_cons hd
    have o1 := take_name hL hb (m + 1) (i + 1) d 97 (by simp [L7]) _ h2
    obtain ⟨_, h3⟩ := drop_cons h2
    obtain ⟨_, h4⟩ := drop_cons h3
    have o2 := take_name hL hb (m + 1) (i + 1 + 1 + 1) d 98 (by simp [L7]) _ h4
    obtain ⟨_, h5⟩ := drop_cons h4
    obtain ⟨_, h6⟩ := drop_cons h5
    have o3 := take_name hL hb (m + 1) (i + 1 + 1 + 1 + 1 + 1) d 99 (by simp [L7]) _ h6
    simp at h0 o1 o2 o3
    have er : List.range 3 = [0, 1, 2] := rfl
    have e1 : (i : Int) + 1 + 2 = (i : Int) + 1 + 1 + 1 := by omega
    have e2 : (i : Int) + 1 + 1 + 1 + 2 = (i : Int) + 1 + 1 + 1 + 1 + 1 := by omega
    have e3 : (i : Int) + 1 + 1 + 1 + 1 + 1 + 2 = (i : Int) + 7 := by omega
    simp [fd_OctetReader_take_names, rb_ok, rb_exn, rt_ok, rt_exn, rq_nx, rq_rt, rq_bk, rq_ct, rq_exn, m_ok, m_fail, okv_s, of_s, of_none, ite_s, ite_r, keep_va, keep_fr, sl_va, sl_ow, bl_r, in_r, ev_v, ev_c, ev_g, ev_bin, ev_neg, ev_cmp, ev_ch2, ev_isn, ev_isb, ev_and, ev_or, ev_not, ev_ife, ev_tup, ev_lst, ev_new, ev_ix, ev_sl, ev_call, ev_bi, ev_isi, ev_mt, lo_r, ce_r, ev_meth, ev_fld, ev_mk, ev_lc, nx_ok, lc_nil, evO_none, evO_some, evA_nil, evA_cons, evRs_nil, evRs_cons, evF_nil, evF_cons, tst_yes, ptst_of, ptst_and, ptst_or, ptst_not, truth_bl, truth_int, truth_lst, truth_non, op_r, evS_pass, evS_seq, evS_asg, evS_par, sls_va, sls_ow, evS_aug, evS_app, ls_s, evS_ext, evS_pop, evS_ex, re_va, re_fr, evS_ret, evS_retv, evS_retn, evS_ite, evS_while, loo_nx, loo_ct, loo_bk, loo_rt, evS_for, fo_nil, fo_cons, evS_brk, evS_cont, lo_s, in_s, evS_setfld, evS_augfld, li_s, nt_s, evS_setix, evS_try, ret_s, rr_rt, rr_nx, rr_exn, ix_lst, ix_tup, li_r, ix_loc, ix_str, ix_byt, add_int, add_str, add_tup, add_lst, sub_int, mul_int, div_int, mod_int, pow_int, ord_int, ord_str, cmp_lt, cmp_le, cmp_gt, cmp_ge, cmp_in, sl_lst, sl_scr, sl_tup, sl_byt, len_lst, len_tup, len_scr, len_str, len_byt, b_int, b_abs, b_tupl, b_lstl, b_lstt, b_lstb, aug_add, aug_sub, mk_l, mk_t, mk_s, is_1, is_2, is_3, is_4, is_5, is_6, is_7, se_va, se_fr, se_tu, ro_nil, ro_cons, bi_n, bi_t, bi_l, bl_n, bl_c, fz_nil, fz_cons, fz1_ow, fz1_va, fz1_un, wi_nil, wi_cons, it_l, it_t, it_c, it_s, it_r, it_zl, it_zt, it_e, non_1, non_2, non_3, non_4, non_5, non_6, atI_0, atI_1, atI_2, atI_3, atI_4, eq_int, ne_int, ne_byt, eq_byt, R_get hL, R_set, List.lookup, cls0, h0, o1, o2, o3, er, lc_cons, big_v, wds, wenc, e1, e2, e3]
end
end D


set_option Elab.async false
set_option linter.all false
set_option maxRecDepth 100000
set_option maxHeartbeats 0
namespace D
open PySem G
theorem deep_pos (k : Kd) : 1 ≤ k.deep := by cases k <;> simp [Kd.deep]
section
variable {st : Store} {L : Nat} (hL : L < st.length) {bs : List UInt8} (hb : bs.length ≤ 16777216)
include hL hb
theorem kw_at (m i : Nat) (d : Int) (x : Nat) (w : T) (rest : List UInt8) (hx : x < 256) (hd : bs.drop i = x.toUInt8 :: rest)
    (hw : ([T.str [105, 110, 116], .str [119, 111, 114, 100], .str [114, 101, 99], .str [99, 104, 111, 105, 99, 101], .str [108, 105, 115, 116], .str [107, 101, 121, 101, 100]] : List T)[x]? = some w) :
    callF Γ (m + 2) F_OctetReader_take_word [.loc L, .tup [T.str [105, 110, 116], .str [119, 111, 114, 100], .str [114, 101, 99], .str [99, 104, 111, 105, 99, 101], .str [108, 105, 115, 116], .str [107, 101, 121, 101, 100]]] (R st L bs i d) = .ok (w, .va) (R st L bs (i + 1) d) := by
  obtain ⟨h1, _⟩ := drop_cons hd
  exact take_word hL hb m i d _ h1 _ w (by rw [u8 x hx]; exact hw)
theorem take_kind : ∀ (k : Kd), k.ok → ∀ (n i d : Nat) (rest : List UInt8), k.deep + 8 ≤ n → d + k.deep ≤ 24 → bs.drop i = k.by ++ rest → callF Γ n F_OctetReader_take_kind [.loc L] (R st L bs i d) = .ok (k.t, .va) (R st L bs (i + k.enc.length : Nat) d)
  | .int a b, h, n, i, d, rest, hn, hd, hr => by
    obtain ⟨m, rfl⟩ : ∃ m, n = m + 4 := ⟨n - 4, by omega⟩
    obtain ⟨h1, h2, h3⟩ := h
    have hr : bs.drop i = (0 : Nat).toUInt8 :: ((numO (zig a)).map Nat.toUInt8 ++ ((numO (zig b)).map Nat.toUInt8 ++ rest)) := by rw [hr]; simp [Kd.by, Kd.enc]
    have g1 := go_deep hL hb (m + 2) i d (by simp [Kd.deep] at hd; omega)
    have g2 := kw_at hL hb (m + 1) i (d + 1) 0 _ _ (by omega) hr rfl
    obtain ⟨_, hr2⟩ := drop_cons hr
    have g3 := take_integer hL hb m (i + 1) a (d + 1) _ (by omega) hr2
    have hr3 : bs.drop (i + 1 + (numO (zig a)).length) = (numO (zig b)).map Nat.toUInt8 ++ rest := by
      rw [← List.drop_drop, hr2]
      have : (numO (zig a)).length = ((numO (zig a)).map Nat.toUInt8).length := by simp
      rw [this, List.drop_left]
    have g4 := take_integer hL hb m (i + 1 + (numO (zig a)).length) b (d + 1) _ (by omega) hr3
    have g5 := fun (p : Int) (x : T) => go_up hL hb (m + 2) p (d + 1) x
    simp at g1 g2 g3 g4 g5
    have e1 : (d : Int) + 1 - 1 = (d : Int) := by omega
    have e2 : (i : Int) + 1 + ((numO (zig a)).length : Int) + ((numO (zig b)).length : Int) = (i : Int) + (((numO (zig a)).length : Int) + ((numO (zig b)).length : Int) + 1) := by omega
    rw [c_OctetReader_take_kind]
    simp [fd_OctetReader_take_kind, rb_ok, rb_exn, rt_ok, rt_exn, rq_nx, rq_rt, rq_bk, rq_ct, rq_exn, m_ok, m_fail, okv_s, of_s, of_none, ite_s, ite_r, keep_va, keep_fr, sl_va, sl_ow, bl_r, in_r, ev_v, ev_c, ev_g, ev_bin, ev_neg, ev_cmp, ev_ch2, ev_isn, ev_isb, ev_and, ev_or, ev_not, ev_ife, ev_tup, ev_lst, ev_new, ev_ix, ev_sl, ev_call, ev_bi, ev_isi, ev_mt, lo_r, ce_r, ev_meth, ev_fld, ev_mk, ev_lc, nx_ok, lc_nil, evO_none, evO_some, evA_nil, evA_cons, evRs_nil, evRs_cons, evF_nil, evF_cons, tst_yes, ptst_of, ptst_and, ptst_or, ptst_not, truth_bl, truth_int, truth_lst, truth_non, op_r, evS_pass, evS_seq, evS_asg, evS_par, sls_va, sls_ow, evS_aug, evS_app, ls_s, evS_ext, evS_pop, evS_ex, re_va, re_fr, evS_ret, evS_retv, evS_retn, evS_ite, evS_while, loo_nx, loo_ct, loo_bk, loo_rt, evS_for, fo_nil, fo_cons, evS_brk, evS_cont, lo_s, in_s, evS_setfld, evS_augfld, li_s, nt_s, evS_setix, evS_try, ret_s, rr_rt, rr_nx, rr_exn, ix_lst, ix_tup, li_r, ix_loc, ix_str, ix_byt, add_int, add_str, add_tup, add_lst, sub_int, mul_int, div_int, mod_int, pow_int, ord_int, ord_str, cmp_lt, cmp_le, cmp_gt, cmp_ge, cmp_in, sl_lst, sl_scr, sl_tup, sl_byt, len_lst, len_tup, len_scr, len_str, len_byt, b_int, b_abs, b_tupl, b_lstl, b_lstt, b_lstb, aug_add, aug_sub, mk_l, mk_t, mk_s, is_1, is_2, is_3, is_4, is_5, is_6, is_7, se_va, se_fr, se_tu, ro_nil, ro_cons, bi_n, bi_t, bi_l, bl_n, bl_c, fz_nil, fz_cons, fz1_ow, fz1_va, fz1_un, wi_nil, wi_cons, it_l, it_t, it_c, it_s, it_r, it_zl, it_zt, it_e, non_1, non_2, non_3, non_4, non_5, non_6, atI_0, atI_1, atI_2, atI_3, atI_4, eq_int, ne_int, ne_byt, eq_byt, R_get hL, R_set, List.lookup, cls0, g_3, g_4, g_14, g1, g2, g3, g4, g5, eq_str, ok_1, ok_2, ok_3, ok_4, ok_5, ok_6, big_v, Kd.t, Kd.enc, e1, e2]
  | .word w, h, n, i, d, rest, hn, hd, hr => by
    obtain ⟨m, rfl⟩ : ∃ m, n = m + 5 := ⟨n - 5, by omega⟩
    have hr : bs.drop i = (1 : Nat).toUInt8 :: ((wenc w).map Nat.toUInt8 ++ rest) := by rw [hr]; simp [Kd.by, Kd.enc]
    have g1 := go_deep hL hb (m + 3) i d (by simp [Kd.deep] at hd; omega)
    have g2 := kw_at hL hb (m + 2) i (d + 1) 1 _ _ (by omega) hr rfl
    obtain ⟨_, hr2⟩ := drop_cons hr
    have g3 := take_names hL hb m (i + 1) w (d + 1) _ hr2
    have g5 := fun (p : Int) (x : T) => go_up hL hb (m + 3) p (d + 1) x
    simp at g1 g2 g3 g5
    have e1 : (d : Int) + 1 - 1 = (d : Int) := by omega
    have e2 : (i : Int) + 1 + ((wenc w).length : Int) = (i : Int) + (((wenc w).length : Int) + 1) := by omega
    rw [c_OctetReader_take_kind]
    simp [fd_OctetReader_take_kind, rb_ok, rb_exn, rt_ok, rt_exn, rq_nx, rq_rt, rq_bk, rq_ct, rq_exn, m_ok, m_fail, okv_s, of_s, of_none, ite_s, ite_r, keep_va, keep_fr, sl_va, sl_ow, bl_r, in_r, ev_v, ev_c, ev_g, ev_bin, ev_neg, ev_cmp, ev_ch2, ev_isn, ev_isb, ev_and, ev_or, ev_not, ev_ife, ev_tup, ev_lst, ev_new, ev_ix, ev_sl, ev_call, ev_bi, ev_isi, ev_mt, lo_r, ce_r, ev_meth, ev_fld, ev_mk, ev_lc, nx_ok, lc_nil, evO_none, evO_some, evA_nil, evA_cons, evRs_nil, evRs_cons, evF_nil, evF_cons, tst_yes, ptst_of, ptst_and, ptst_or, ptst_not, truth_bl, truth_int, truth_lst, truth_non, op_r, evS_pass, evS_seq, evS_asg, evS_par, sls_va, sls_ow, evS_aug, evS_app, ls_s, evS_ext, evS_pop, evS_ex, re_va, re_fr, evS_ret, evS_retv, evS_retn, evS_ite, evS_while, loo_nx, loo_ct, loo_bk, loo_rt, evS_for, fo_nil, fo_cons, evS_brk, evS_cont, lo_s, in_s, evS_setfld, evS_augfld, li_s, nt_s, evS_setix, evS_try, ret_s, rr_rt, rr_nx, rr_exn, ix_lst, ix_tup, li_r, ix_loc, ix_str, ix_byt, add_int, add_str, add_tup, add_lst, sub_int, mul_int, div_int, mod_int, pow_int, ord_int, ord_str, cmp_lt, cmp_le, cmp_gt, cmp_ge, cmp_in, sl_lst, sl_scr, sl_tup, sl_byt, len_lst, len_tup, len_scr, len_str, len_byt, b_int, b_abs, b_tupl, b_lstl, b_lstt, b_lstb, aug_add, aug_sub, mk_l, mk_t, mk_s, is_1, is_2, is_3, is_4, is_5, is_6, is_7, se_va, se_fr, se_tu, ro_nil, ro_cons, bi_n, bi_t, bi_l, bl_n, bl_c, fz_nil, fz_cons, fz1_ow, fz1_va, fz1_un, wi_nil, wi_cons, it_l, it_t, it_c, it_s, it_r, it_zl, it_zt, it_e, non_1, non_2, non_3, non_4, non_5, non_6, atI_0, atI_1, atI_2, atI_3, atI_4, eq_int, ne_int, ne_byt, eq_byt, R_get hL, R_set, List.lookup, cls0, g_3, g_4, g_14, g1, g2, g3, g5, eq_str, ok_1, ok_2, ok_3, ok_4, ok_5, ok_6, big_v, Kd.t, Kd.enc, e1, e2]
  | .list k, h, n, i, d, rest, hn, hd, hr => by
    obtain ⟨m, rfl⟩ : ∃ m, n = m + 3 := ⟨n - 3, by omega⟩
    simp [Kd.deep] at hn hd
    have hr : bs.drop i = (4 : Nat).toUInt8 :: (k.by ++ rest) := by rw [hr]; simp [Kd.by, Kd.enc]
    have g1 := go_deep hL hb (m + 1) i d (by have := deep_pos k; omega)
    have g2 := kw_at hL hb m i (d + 1) 4 _ _ (by omega) hr rfl
    obtain ⟨_, hr2⟩ := drop_cons hr
    have g3 := take_kind k h (m + 2) (i + 1) (d + 1) rest (by omega) (by omega) hr2
    have g5 := fun (p : Int) (x : T) => go_up hL hb (m + 1) p (d + 1) x
    simp at g1 g2 g3 g5
    have e1 : (d : Int) + 1 - 1 = (d : Int) := by omega
    have e2 : (i : Int) + 1 + (k.enc.length : Int) = (i : Int) + ((k.enc.length : Int) + 1) := by omega
    rw [c_OctetReader_take_kind]
    simp [fd_OctetReader_take_kind, rb_ok, rb_exn, rt_ok, rt_exn, rq_nx, rq_rt, rq_bk, rq_ct, rq_exn, m_ok, m_fail, okv_s, of_s, of_none, ite_s, ite_r, keep_va, keep_fr, sl_va, sl_ow, bl_r, in_r, ev_v, ev_c, ev_g, ev_bin, ev_neg, ev_cmp, ev_ch2, ev_isn, ev_isb, ev_and, ev_or, ev_not, ev_ife, ev_tup, ev_lst, ev_new, ev_ix, ev_sl, ev_call, ev_bi, ev_isi, ev_mt, lo_r, ce_r, ev_meth, ev_fld, ev_mk, ev_lc, nx_ok, lc_nil, evO_none, evO_some, evA_nil, evA_cons, evRs_nil, evRs_cons, evF_nil, evF_cons, tst_yes, ptst_of, ptst_and, ptst_or, ptst_not, truth_bl, truth_int, truth_lst, truth_non, op_r, evS_pass, evS_seq, evS_asg, evS_par, sls_va, sls_ow, evS_aug, evS_app, ls_s, evS_ext, evS_pop, evS_ex, re_va, re_fr, evS_ret, evS_retv, evS_retn, evS_ite, evS_while, loo_nx, loo_ct, loo_bk, loo_rt, evS_for, fo_nil, fo_cons, evS_brk, evS_cont, lo_s, in_s, evS_setfld, evS_augfld, li_s, nt_s, evS_setix, evS_try, ret_s, rr_rt, rr_nx, rr_exn, ix_lst, ix_tup, li_r, ix_loc, ix_str, ix_byt, add_int, add_str, add_tup, add_lst, sub_int, mul_int, div_int, mod_int, pow_int, ord_int, ord_str, cmp_lt, cmp_le, cmp_gt, cmp_ge, cmp_in, sl_lst, sl_scr, sl_tup, sl_byt, len_lst, len_tup, len_scr, len_str, len_byt, b_int, b_abs, b_tupl, b_lstl, b_lstt, b_lstb, aug_add, aug_sub, mk_l, mk_t, mk_s, is_1, is_2, is_3, is_4, is_5, is_6, is_7, se_va, se_fr, se_tu, ro_nil, ro_cons, bi_n, bi_t, bi_l, bl_n, bl_c, fz_nil, fz_cons, fz1_ow, fz1_va, fz1_un, wi_nil, wi_cons, it_l, it_t, it_c, it_s, it_r, it_zl, it_zt, it_e, non_1, non_2, non_3, non_4, non_5, non_6, atI_0, atI_1, atI_2, atI_3, atI_4, eq_int, ne_int, ne_byt, eq_byt, R_get hL, R_set, List.lookup, cls0, g_3, g_4, g_6, g_8, g_10, g_14, g1, g2, g3, g5, eq_str, ok_1, ok_2, ok_3, ok_4, ok_5, ok_6, big_v, Kd.t, Kd.enc, e1, e2, evIn, T.flat, T.eqf]
  | .rec1 k, h, n, i, d, rest, hn, hd, hr => by
    obtain ⟨m, rfl⟩ : ∃ m, n = m + 5 := ⟨n - 5, by omega⟩
    simp [Kd.deep] at hn hd
    have hr : bs.drop i = (2 : Nat).toUInt8 :: (1 : Nat).toUInt8 :: (1 : Nat).toUInt8 :: (112 : Nat).toUInt8 :: (k.by ++ rest) := by rw [hr]; simp [Kd.by, Kd.enc]
    have g1 := go_deep hL hb (m + 3) i d (by have := deep_pos k; omega)
    have g2 := kw_at hL hb (m + 2) i (d + 1) 2 _ _ (by omega) hr rfl
    obtain ⟨_, hr2⟩ := drop_cons hr
    have g3 := take_many hL hb (m + 1) (i + 1) 1 (d + 1) _ (by omega) hr2 (by simp)
    obtain ⟨_, hr3⟩ := drop_cons hr2
    have g4 := take_name hL hb (m + 2) (i + 1 + 1) (d + 1) 112 (by simp [L7]) _ hr3
    obtain ⟨_, hr4⟩ := drop_cons hr3
    obtain ⟨_, hr5⟩ := drop_cons hr4
    have g6 := take_kind k h (m + 4) (i + 1 + 1 + 1 + 1) (d + 1) rest (by omega) (by omega) hr5
    have g5 := fun (p : Int) (x : T) => go_up hL hb (m + 3) p (d + 1) x
    simp at g1 g2 g3 g4 g5 g6
    have er : List.range 1 = [0] := rfl
    have e1 : (d : Int) + 1 - 1 = (d : Int) := by omega
    have e3 : (i : Int) + 1 + 1 + 2 = (i : Int) + 1 + 1 + 1 + 1 := by omega
    have e2 : (i : Int) + 1 + 1 + 1 + 1 + (k.enc.length : Int) = (i : Int) + ((k.enc.length : Int) + 1 + 1 + 1 + 1) := by omega
    rw [c_OctetReader_take_kind]
    simp [fd_OctetReader_take_kind, rb_ok, rb_exn, rt_ok, rt_exn, rq_nx, rq_rt, rq_bk, rq_ct, rq_exn, m_ok, m_fail, okv_s, of_s, of_none, ite_s, ite_r, keep_va, keep_fr, sl_va, sl_ow, bl_r, in_r, ev_v, ev_c, ev_g, ev_bin, ev_neg, ev_cmp, ev_ch2, ev_isn, ev_isb, ev_and, ev_or, ev_not, ev_ife, ev_tup, ev_lst, ev_new, ev_ix, ev_sl, ev_call, ev_bi, ev_isi, ev_mt, lo_r, ce_r, ev_meth, ev_fld, ev_mk, ev_lc, nx_ok, lc_nil, evO_none, evO_some, evA_nil, evA_cons, evRs_nil, evRs_cons, evF_nil, evF_cons, tst_yes, ptst_of, ptst_and, ptst_or, ptst_not, truth_bl, truth_int, truth_lst, truth_non, op_r, evS_pass, evS_seq, evS_asg, evS_par, sls_va, sls_ow, evS_aug, evS_app, ls_s, evS_ext, evS_pop, evS_ex, re_va, re_fr, evS_ret, evS_retv, evS_retn, evS_ite, evS_while, loo_nx, loo_ct, loo_bk, loo_rt, evS_for, fo_nil, fo_cons, evS_brk, evS_cont, lo_s, in_s, evS_setfld, evS_augfld, li_s, nt_s, evS_setix, evS_try, ret_s, rr_rt, rr_nx, rr_exn, ix_lst, ix_tup, li_r, ix_loc, ix_str, ix_byt, add_int, add_str, add_tup, add_lst, sub_int, mul_int, div_int, mod_int, pow_int, ord_int, ord_str, cmp_lt, cmp_le, cmp_gt, cmp_ge, cmp_in, sl_lst, sl_scr, sl_tup, sl_byt, len_lst, len_tup, len_scr, len_str, len_byt, b_int, b_abs, b_tupl, b_lstl, b_lstt, b_lstb, aug_add, aug_sub, mk_l, mk_t, mk_s, is_1, is_2, is_3, is_4, is_5, is_6, is_7, se_va, se_fr, se_tu, ro_nil, ro_cons, bi_n, bi_t, bi_l, bl_n, bl_c, fz_nil, fz_cons, fz1_ow, fz1_va, fz1_un, wi_nil, wi_cons, it_l, it_t, it_c, it_s, it_r, it_zl, it_zt, it_e, non_1, non_2, non_3, non_4, non_5, non_6, atI_0, atI_1, atI_2, atI_3, atI_4, eq_int, ne_int, ne_byt, eq_byt, R_get hL, R_set, List.lookup, cls0, g_3, g_4, g_6, g_8, g_10, g_14, g1, g2, g3, g4, g5, g6, eq_str, ok_1, ok_2, ok_3, ok_4, ok_5, ok_6, big_v, Kd.t, Kd.enc, e1, e2, e3, evIn, T.flat, T.eqf, er]
  | .cho1 k, h, n, i, d, rest, hn, hd, hr => by
    obtain ⟨m, rfl⟩ : ∃ m, n = m + 5 := ⟨n - 5, by omega⟩
    simp [Kd.deep] at hn hd
    have hr : bs.drop i = (3 : Nat).toUInt8 :: (1 : Nat).toUInt8 :: (1 : Nat).toUInt8 :: (115 : Nat).toUInt8 :: (k.by ++ rest) := by rw [hr]; simp [Kd.by, Kd.enc]
    have g1 := go_deep hL hb (m + 3) i d (by have := deep_pos k; omega)
    have g2 := kw_at hL hb (m + 2) i (d + 1) 3 _ _ (by omega) hr rfl
    obtain ⟨_, hr2⟩ := drop_cons hr
    have g3 := take_many hL hb (m + 1) (i + 1) 1 (d + 1) _ (by omega) hr2 (by simp)
    obtain ⟨_, hr3⟩ := drop_cons hr2
    have g4 := take_name hL hb (m + 2) (i + 1 + 1) (d + 1) 115 (by simp [L7]) _ hr3
    obtain ⟨_, hr4⟩ := drop_cons hr3
    obtain ⟨_, hr5⟩ := drop_cons hr4
    have g6 := take_kind k h (m + 4) (i + 1 + 1 + 1 + 1) (d + 1) rest (by omega) (by omega) hr5
    have g5 := fun (p : Int) (x : T) => go_up hL hb (m + 3) p (d + 1) x
    simp at g1 g2 g3 g4 g5 g6
    have er : List.range 1 = [0] := rfl
    have e1 : (d : Int) + 1 - 1 = (d : Int) := by omega
    have e3 : (i : Int) + 1 + 1 + 2 = (i : Int) + 1 + 1 + 1 + 1 := by omega
    have e2 : (i : Int) + 1 + 1 + 1 + 1 + (k.enc.length : Int) = (i : Int) + ((k.enc.length : Int) + 1 + 1 + 1 + 1) := by omega
    rw [c_OctetReader_take_kind]
    simp [fd_OctetReader_take_kind, rb_ok, rb_exn, rt_ok, rt_exn, rq_nx, rq_rt, rq_bk, rq_ct, rq_exn, m_ok, m_fail, okv_s, of_s, of_none, ite_s, ite_r, keep_va, keep_fr, sl_va, sl_ow, bl_r, in_r, ev_v, ev_c, ev_g, ev_bin, ev_neg, ev_cmp, ev_ch2, ev_isn, ev_isb, ev_and, ev_or, ev_not, ev_ife, ev_tup, ev_lst, ev_new, ev_ix, ev_sl, ev_call, ev_bi, ev_isi, ev_mt, lo_r, ce_r, ev_meth, ev_fld, ev_mk, ev_lc, nx_ok, lc_nil, evO_none, evO_some, evA_nil, evA_cons, evRs_nil, evRs_cons, evF_nil, evF_cons, tst_yes, ptst_of, ptst_and, ptst_or, ptst_not, truth_bl, truth_int, truth_lst, truth_non, op_r, evS_pass, evS_seq, evS_asg, evS_par, sls_va, sls_ow, evS_aug, evS_app, ls_s, evS_ext, evS_pop, evS_ex, re_va, re_fr, evS_ret, evS_retv, evS_retn, evS_ite, evS_while, loo_nx, loo_ct, loo_bk, loo_rt, evS_for, fo_nil, fo_cons, evS_brk, evS_cont, lo_s, in_s, evS_setfld, evS_augfld, li_s, nt_s, evS_setix, evS_try, ret_s, rr_rt, rr_nx, rr_exn, ix_lst, ix_tup, li_r, ix_loc, ix_str, ix_byt, add_int, add_str, add_tup, add_lst, sub_int, mul_int, div_int, mod_int, pow_int, ord_int, ord_str, cmp_lt, cmp_le, cmp_gt, cmp_ge, cmp_in, sl_lst, sl_scr, sl_tup, sl_byt, len_lst, len_tup, len_scr, len_str, len_byt, b_int, b_abs, b_tupl, b_lstl, b_lstt, b_lstb, aug_add, aug_sub, mk_l, mk_t, mk_s, is_1, is_2, is_3, is_4, is_5, is_6, is_7, se_va, se_fr, se_tu, ro_nil, ro_cons, bi_n, bi_t, bi_l, bl_n, bl_c, fz_nil, fz_cons, fz1_ow, fz1_va, fz1_un, wi_nil, wi_cons, it_l, it_t, it_c, it_s, it_r, it_zl, it_zt, it_e, non_1, non_2, non_3, non_4, non_5, non_6, atI_0, atI_1, atI_2, atI_3, atI_4, eq_int, ne_int, ne_byt, eq_byt, R_get hL, R_set, List.lookup, cls0, g_3, g_4, g_6, g_8, g_10, g_14, g1, g2, g3, g4, g5, g6, eq_str, ok_1, ok_2, ok_3, ok_4, ok_5, ok_6, big_v, Kd.t, Kd.enc, e1, e2, e3, evIn, T.flat, T.eqf, er]
  | .rec2 k l, h, n, i, d, rest, hn, hd, hr => by
    obtain ⟨m, rfl⟩ : ∃ m, n = m + 5 := ⟨n - 5, by omega⟩
    simp [Kd.deep] at hn hd
    have hr : bs.drop i = (2 : Nat).toUInt8 :: (2 : Nat).toUInt8 :: (1 : Nat).toUInt8 :: (112 : Nat).toUInt8 :: (k.by ++ ((1 : Nat).toUInt8 :: (113 : Nat).toUInt8 :: (l.by ++ rest))) := by rw [hr]; simp [Kd.by, Kd.enc]
    have g1 := go_deep hL hb (m + 3) i d (by have := deep_pos k; omega)
    have g2 := kw_at hL hb (m + 2) i (d + 1) 2 _ _ (by omega) hr rfl
    obtain ⟨_, hr2⟩ := drop_cons hr
    have g3 := take_many hL hb (m + 1) (i + 1) 2 (d + 1) _ (by omega) hr2 (by simp)
    obtain ⟨_, hr3⟩ := drop_cons hr2
    have g4 := take_name hL hb (m + 2) (i + 1 + 1) (d + 1) 112 (by simp [L7]) _ hr3
    obtain ⟨_, hr4⟩ := drop_cons hr3
    obtain ⟨_, hr5⟩ := drop_cons hr4
    have g6 := take_kind k h.1 (m + 4) (i + 1 + 1 + 1 + 1) (d + 1) _ (by omega) (by omega) hr5
    have hr6 : bs.drop (i + 1 + 1 + 1 + 1 + k.enc.length) = (1 : Nat).toUInt8 :: (113 : Nat).toUInt8 :: (l.by ++ rest) := by
      rw [← List.drop_drop, hr5]
      have : k.enc.length = k.by.length := by simp [Kd.by]
      rw [this, List.drop_left]
    have g7 := take_name hL hb (m + 2) (i + 1 + 1 + 1 + 1 + k.enc.length) (d + 1) 113 (by simp [L7]) _ hr6
    obtain ⟨_, hr7⟩ := drop_cons hr6
    obtain ⟨_, hr8⟩ := drop_cons hr7
    have g8 := take_kind l h.2 (m + 4) (i + 1 + 1 + 1 + 1 + k.enc.length + 1 + 1) (d + 1) _ (by omega) (by omega) hr8
    have g5 := fun (p : Int) (x : T) => go_up hL hb (m + 3) p (d + 1) x
    simp at g1 g2 g3 g4 g5 g6 g7 g8
    have er : List.range 2 = [0, 1] := rfl
    have e1 : (d : Int) + 1 - 1 = (d : Int) := by omega
    have e3 : (i : Int) + 1 + 1 + 2 = (i : Int) + 1 + 1 + 1 + 1 := by omega
    have e4 : (i : Int) + 1 + 1 + 1 + 1 + (k.enc.length : Int) + 2 = (i : Int) + 1 + 1 + 1 + 1 + (k.enc.length : Int) + 1 + 1 := by omega
    have e2 : (i : Int) + 1 + 1 + 1 + 1 + (k.enc.length : Int) + 1 + 1 + (l.enc.length : Int) = (i : Int) + ((k.enc.length : Int) + ((l.enc.length : Int) + 1 + 1) + 1 + 1 + 1 + 1) := by omega
    rw [c_OctetReader_take_kind]
    simp [fd_OctetReader_take_kind, rb_ok, rb_exn, rt_ok, rt_exn, rq_nx, rq_rt, rq_bk, rq_ct, rq_exn, m_ok, m_fail, okv_s, of_s, of_none, ite_s, ite_r, keep_va, keep_fr, sl_va, sl_ow, bl_r, in_r, ev_v, ev_c, ev_g, ev_bin, ev_neg, ev_cmp, ev_ch2, ev_isn, ev_isb, ev_and, ev_or, ev_not, ev_ife, ev_tup, ev_lst, ev_new, ev_ix, ev_sl, ev_call, ev_bi, ev_isi, ev_mt, lo_r, ce_r, ev_meth, ev_fld, ev_mk, ev_lc, nx_ok, lc_nil, evO_none, evO_some, evA_nil, evA_cons, evRs_nil, evRs_cons, evF_nil, evF_cons, tst_yes, ptst_of, ptst_and, ptst_or, ptst_not, truth_bl, truth_int, truth_lst, truth_non, op_r, evS_pass, evS_seq, evS_asg, evS_par, sls_va, sls_ow, evS_aug, evS_app, ls_s, evS_ext, evS_pop, evS_ex, re_va, re_fr, evS_ret, evS_retv, evS_retn, evS_ite, evS_while, loo_nx, loo_ct, loo_bk, loo_rt, evS_for, fo_nil, fo_cons, evS_brk, evS_cont, lo_s, in_s, evS_setfld, evS_augfld, li_s, nt_s, evS_setix, evS_try, ret_s, rr_rt, rr_nx, rr_exn, ix_lst, ix_tup, li_r, ix_loc, ix_str, ix_byt, add_int, add_str, add_tup, add_lst, sub_int, mul_int, div_int, mod_int, pow_int, ord_int, ord_str, cmp_lt, cmp_le, cmp_gt, cmp_ge, cmp_in, sl_lst, sl_scr, sl_tup, sl_byt, len_lst, len_tup, len_scr, len_str, len_byt, b_int, b_abs, b_tupl, b_lstl, b_lstt, b_lstb, aug_add, aug_sub, mk_l, mk_t, mk_s, is_1, is_2, is_3, is_4, is_5, is_6, is_7, se_va, se_fr, se_tu, ro_nil, ro_cons, bi_n, bi_t, bi_l, bl_n, bl_c, fz_nil, fz_cons, fz1_ow, fz1_va, fz1_un, wi_nil, wi_cons, it_l, it_t, it_c, it_s, it_r, it_zl, it_zt, it_e, non_1, non_2, non_3, non_4, non_5, non_6, atI_0, atI_1, atI_2, atI_3, atI_4, eq_int, ne_int, ne_byt, eq_byt, R_get hL, R_set, List.lookup, cls0, g_3, g_4, g_6, g_8, g_10, g_14, g1, g2, g3, g4, g5, g6, g7, g8, eq_str, ok_1, ok_2, ok_3, ok_4, ok_5, ok_6, big_v, Kd.t, Kd.enc, e1, e2, e3, e4, evIn, T.flat, T.eqf, er]
  | .cho2 k l, h, n, i, d, rest, hn, hd, hr => by
    obtain ⟨m, rfl⟩ : ∃ m, n = m + 5 := ⟨n - 5, by omega⟩
    simp [Kd.deep] at hn hd
    have hr : bs.drop i = (3 : Nat).toUInt8 :: (2 : Nat).toUInt8 :: (1 : Nat).toUInt8 :: (115 : Nat).toUInt8 :: (k.by ++ ((1 : Nat).toUInt8 :: (116 : Nat).toUInt8 :: (l.by ++ rest))) := by rw [hr]; simp [Kd.by, Kd.enc]
    have g1 := go_deep hL hb (m + 3) i d (by have := deep_pos k; omega)
    have g2 := kw_at hL hb (m + 2) i (d + 1) 3 _ _ (by omega) hr rfl
    obtain ⟨_, hr2⟩ := drop_cons hr
    have g3 := take_many hL hb (m + 1) (i + 1) 2 (d + 1) _ (by omega) hr2 (by simp)
    obtain ⟨_, hr3⟩ := drop_cons hr2
    have g4 := take_name hL hb (m + 2) (i + 1 + 1) (d + 1) 115 (by simp [L7]) _ hr3
    obtain ⟨_, hr4⟩ := drop_cons hr3
    obtain ⟨_, hr5⟩ := drop_cons hr4
    have g6 := take_kind k h.1 (m + 4) (i + 1 + 1 + 1 + 1) (d + 1) _ (by omega) (by omega) hr5
    have hr6 : bs.drop (i + 1 + 1 + 1 + 1 + k.enc.length) = (1 : Nat).toUInt8 :: (116 : Nat).toUInt8 :: (l.by ++ rest) := by
      rw [← List.drop_drop, hr5]
      have : k.enc.length = k.by.length := by simp [Kd.by]
      rw [this, List.drop_left]
    have g7 := take_name hL hb (m + 2) (i + 1 + 1 + 1 + 1 + k.enc.length) (d + 1) 116 (by simp [L7]) _ hr6
    obtain ⟨_, hr7⟩ := drop_cons hr6
    obtain ⟨_, hr8⟩ := drop_cons hr7
    have g8 := take_kind l h.2 (m + 4) (i + 1 + 1 + 1 + 1 + k.enc.length + 1 + 1) (d + 1) _ (by omega) (by omega) hr8
    have g5 := fun (p : Int) (x : T) => go_up hL hb (m + 3) p (d + 1) x
    simp at g1 g2 g3 g4 g5 g6 g7 g8
    have er : List.range 2 = [0, 1] := rfl
    have e1 : (d : Int) + 1 - 1 = (d : Int) := by omega
    have e3 : (i : Int) + 1 + 1 + 2 = (i : Int) + 1 + 1 + 1 + 1 := by omega
    have e4 : (i : Int) + 1 + 1 + 1 + 1 + (k.enc.length : Int) + 2 = (i : Int) + 1 + 1 + 1 + 1 + (k.enc.length : Int) + 1 + 1 := by omega
    have e2 : (i : Int) + 1 + 1 + 1 + 1 + (k.enc.length : Int) + 1 + 1 + (l.enc.length : Int) = (i : Int) + ((k.enc.length : Int) + ((l.enc.length : Int) + 1 + 1) + 1 + 1 + 1 + 1) := by omega
    rw [c_OctetReader_take_kind]
    simp [fd_OctetReader_take_kind, rb_ok, rb_exn, rt_ok, rt_exn, rq_nx, rq_rt, rq_bk, rq_ct, rq_exn, m_ok, m_fail, okv_s, of_s, of_none, ite_s, ite_r, keep_va, keep_fr, sl_va, sl_ow, bl_r, in_r, ev_v, ev_c, ev_g, ev_bin, ev_neg, ev_cmp, ev_ch2, ev_isn, ev_isb, ev_and, ev_or, ev_not, ev_ife, ev_tup, ev_lst, ev_new, ev_ix, ev_sl, ev_call, ev_bi, ev_isi, ev_mt, lo_r, ce_r, ev_meth, ev_fld, ev_mk, ev_lc, nx_ok, lc_nil, evO_none, evO_some, evA_nil, evA_cons, evRs_nil, evRs_cons, evF_nil, evF_cons, tst_yes, ptst_of, ptst_and, ptst_or, ptst_not, truth_bl, truth_int, truth_lst, truth_non, op_r, evS_pass, evS_seq, evS_asg, evS_par, sls_va, sls_ow, evS_aug, evS_app, ls_s, evS_ext, evS_pop, evS_ex, re_va, re_fr, evS_ret, evS_retv, evS_retn, evS_ite, evS_while, loo_nx, loo_ct, loo_bk, loo_rt, evS_for, fo_nil, fo_cons, evS_brk, evS_cont, lo_s, in_s, evS_setfld, evS_augfld, li_s, nt_s, evS_setix, evS_try, ret_s, rr_rt, rr_nx, rr_exn, ix_lst, ix_tup, li_r, ix_loc, ix_str, ix_byt, add_int, add_str, add_tup, add_lst, sub_int, mul_int, div_int, mod_int, pow_int, ord_int, ord_str, cmp_lt, cmp_le, cmp_gt, cmp_ge, cmp_in, sl_lst, sl_scr, sl_tup, sl_byt, len_lst, len_tup, len_scr, len_str, len_byt, b_int, b_abs, b_tupl, b_lstl, b_lstt, b_lstb, aug_add, aug_sub, mk_l, mk_t, mk_s, is_1, is_2, is_3, is_4, is_5, is_6, is_7, se_va, se_fr, se_tu, ro_nil, ro_cons, bi_n, bi_t, bi_l, bl_n, bl_c, fz_nil, fz_cons, fz1_ow, fz1_va, fz1_un, wi_nil, wi_cons, it_l, it_t, it_c, it_s, it_r, it_zl, it_zt, it_e, non_1, non_2, non_3, non_4, non_5, non_6, atI_0, atI_1, atI_2, atI_3, atI_4, eq_int, ne_int, ne_byt, eq_byt, R_get hL, R_set, List.lookup, cls0, g_3, g_4, g_6, g_8, g_10, g_14, g1, g2, g3, g4, g5, g6, g7, g8, eq_str, ok_1, ok_2, ok_3, ok_4, ok_5, ok_6, big_v, Kd.t, Kd.enc, e1, e2, e3, e4, evIn, T.flat, T.eqf, er]
end
end D


set_option Elab.async false
set_option linter.all false
set_option maxRecDepth 100000
set_option maxHeartbeats 0
namespace D
open PySem G
theorem koo (k : Kd) (hk : k.ok) (hp : k.parts ≤ 60) (hd : k.deep ≤ 12) (n : Nat) (st : Store) (hn : 30 ≤ n) : ∃ X, callF Γ n F_kind_of_octets [.byt k.by] st = .ok (k.t, .va) (st ++ [X]) := by
  obtain ⟨m, rfl⟩ : ∃ m, n = m + 3 := ⟨n - 3, by omega⟩
  have hL : st.length < (st ++ [Cell.ins 0 []]).length := by simp
  have hl := enc_len k hk
  have hbl : k.by.length ≤ 16777216 := by simp [Kd.by]; omega
  have h1 := take_kind hL hbl k hk (m + 2) 0 0 [] (by omega) (by omega) (by simp)
  have h2 := fun st => is_kind_ok k hk hp hd (m + 2) st (by omega)
  have hi : callF Γ (m + 1) F_OctetReader_init [.loc st.length, .byt k.by] (st ++ [.ins 0 []]) = .ok (.non, .va) (R (st ++ [.ins 0 []]) st.length k.by 0 0) := by
    rw [c_OctetReader_init]
    simp [fd_OctetReader_init, rb_ok, rb_exn, rt_ok, rt_exn, rq_nx, rq_rt, rq_bk, rq_ct, rq_exn, m_ok, m_fail, okv_s, of_s, of_none, ite_s, ite_r, keep_va, keep_fr, sl_va, sl_ow, bl_r, in_r, ev_v, ev_c, ev_g, ev_bin, ev_neg, ev_cmp, ev_ch2, ev_isn, ev_isb, ev_and, ev_or, ev_not, ev_ife, ev_tup, ev_lst, ev_new, ev_ix, ev_sl, ev_call, ev_bi, ev_isi, ev_mt, lo_r, ce_r, ev_meth, ev_fld, ev_mk, ev_lc, nx_ok, lc_nil, evO_none, evO_some, evA_nil, evA_cons, evRs_nil, evRs_cons, evF_nil, evF_cons, tst_yes, ptst_of, ptst_and, ptst_or, ptst_not, truth_bl, truth_int, truth_lst, truth_non, op_r, evS_pass, evS_seq, evS_asg, evS_par, sls_va, sls_ow, evS_aug, evS_app, ls_s, evS_ext, evS_pop, evS_ex, re_va, re_fr, evS_ret, evS_retv, evS_retn, evS_ite, evS_while, loo_nx, loo_ct, loo_bk, loo_rt, evS_for, fo_nil, fo_cons, evS_brk, evS_cont, lo_s, in_s, evS_setfld, evS_augfld, li_s, nt_s, evS_setix, evS_try, ret_s, rr_rt, rr_nx, rr_exn, ix_lst, ix_tup, li_r, ix_loc, ix_str, ix_byt, add_int, add_str, add_tup, add_lst, sub_int, mul_int, div_int, mod_int, pow_int, ord_int, ord_str, cmp_lt, cmp_le, cmp_gt, cmp_ge, cmp_in, sl_lst, sl_scr, sl_tup, sl_byt, len_lst, len_tup, len_scr, len_str, len_byt, b_int, b_abs, b_tupl, b_lstl, b_lstt, b_lstb, aug_add, aug_sub, mk_l, mk_t, mk_s, is_1, is_2, is_3, is_4, is_5, is_6, is_7, se_va, se_fr, se_tu, ro_nil, ro_cons, bi_n, bi_t, bi_l, bl_n, bl_c, fz_nil, fz_cons, fz1_ow, fz1_va, fz1_un, wi_nil, wi_cons, it_l, it_t, it_c, it_s, it_r, it_zl, it_zt, it_e, non_1, non_2, non_3, non_4, non_5, non_6, atI_0, atI_1, atI_2, atI_3, atI_4, eq_int, ne_int, ne_byt, eq_byt, putN, R]
  have hc : callF Γ (m + 2) F_OctetReader_close [.loc st.length, .bl true] (R (st ++ [.ins 0 []]) st.length k.by (k.enc.length : Nat) 0) = .ok (.non, .va) (R (st ++ [.ins 0 []]) st.length k.by (k.enc.length : Nat) 0) := by
    have e : k.by.length = k.enc.length := by simp [Kd.by]
    have hb2 : k.enc.length ≤ 16777216 := by rw [← e]; exact hbl
    rw [c_OctetReader_close]
    simp [fd_OctetReader_close, rb_ok, rb_exn, rt_ok, rt_exn, rq_nx, rq_rt, rq_bk, rq_ct, rq_exn, m_ok, m_fail, okv_s, of_s, of_none, ite_s, ite_r, keep_va, keep_fr, sl_va, sl_ow, bl_r, in_r, ev_v, ev_c, ev_g, ev_bin, ev_neg, ev_cmp, ev_ch2, ev_isn, ev_isb, ev_and, ev_or, ev_not, ev_ife, ev_tup, ev_lst, ev_new, ev_ix, ev_sl, ev_call, ev_bi, ev_isi, ev_mt, lo_r, ce_r, ev_meth, ev_fld, ev_mk, ev_lc, nx_ok, lc_nil, evO_none, evO_some, evA_nil, evA_cons, evRs_nil, evRs_cons, evF_nil, evF_cons, tst_yes, ptst_of, ptst_and, ptst_or, ptst_not, truth_bl, truth_int, truth_lst, truth_non, op_r, evS_pass, evS_seq, evS_asg, evS_par, sls_va, sls_ow, evS_aug, evS_app, ls_s, evS_ext, evS_pop, evS_ex, re_va, re_fr, evS_ret, evS_retv, evS_retn, evS_ite, evS_while, loo_nx, loo_ct, loo_bk, loo_rt, evS_for, fo_nil, fo_cons, evS_brk, evS_cont, lo_s, in_s, evS_setfld, evS_augfld, li_s, nt_s, evS_setix, evS_try, ret_s, rr_rt, rr_nx, rr_exn, ix_lst, ix_tup, li_r, ix_loc, ix_str, ix_byt, add_int, add_str, add_tup, add_lst, sub_int, mul_int, div_int, mod_int, pow_int, ord_int, ord_str, cmp_lt, cmp_le, cmp_gt, cmp_ge, cmp_in, sl_lst, sl_scr, sl_tup, sl_byt, len_lst, len_tup, len_scr, len_str, len_byt, b_int, b_abs, b_tupl, b_lstl, b_lstt, b_lstb, aug_add, aug_sub, mk_l, mk_t, mk_s, is_1, is_2, is_3, is_4, is_5, is_6, is_7, se_va, se_fr, se_tu, ro_nil, ro_cons, bi_n, bi_t, bi_l, bl_n, bl_c, fz_nil, fz_cons, fz1_ow, fz1_va, fz1_un, wi_nil, wi_cons, it_l, it_t, it_c, it_s, it_r, it_zl, it_zt, it_e, non_1, non_2, non_3, non_4, non_5, non_6, atI_0, atI_1, atI_2, atI_3, atI_4, eq_int, ne_int, ne_byt, eq_byt, R_get hL, List.lookup, big_v, e, hb2]
  have eR : R (st ++ [.ins 0 []]) st.length k.by (k.enc.length : Nat) 0 = st ++ [.ins 0 [(0, .byt k.by), (1, .int (k.enc.length : Nat)), (2, .int 0)]] := by
    unfold R
    simp
  refine ⟨.ins 0 [(0, .byt k.by), (1, .int (k.enc.length : Nat)), (2, .int 0)], ?_⟩
  rw [← eR, c_kind_of_octets]
  simp at h1
  simp [fd_kind_of_octets, rb_ok, rb_exn, rt_ok, rt_exn, rq_nx, rq_rt, rq_bk, rq_ct, rq_exn, m_ok, m_fail, okv_s, of_s, of_none, ite_s, ite_r, keep_va, keep_fr, sl_va, sl_ow, bl_r, in_r, ev_v, ev_c, ev_g, ev_bin, ev_neg, ev_cmp, ev_ch2, ev_isn, ev_isb, ev_and, ev_or, ev_not, ev_ife, ev_tup, ev_lst, ev_new, ev_ix, ev_sl, ev_call, ev_bi, ev_isi, ev_mt, lo_r, ce_r, ev_meth, ev_fld, ev_mk, ev_lc, nx_ok, lc_nil, evO_none, evO_some, evA_nil, evA_cons, evRs_nil, evRs_cons, evF_nil, evF_cons, tst_yes, ptst_of, ptst_and, ptst_or, ptst_not, truth_bl, truth_int, truth_lst, truth_non, op_r, evS_pass, evS_seq, evS_asg, evS_par, sls_va, sls_ow, evS_aug, evS_app, ls_s, evS_ext, evS_pop, evS_ex, re_va, re_fr, evS_ret, evS_retv, evS_retn, evS_ite, evS_while, loo_nx, loo_ct, loo_bk, loo_rt, evS_for, fo_nil, fo_cons, evS_brk, evS_cont, lo_s, in_s, evS_setfld, evS_augfld, li_s, nt_s, evS_setix, evS_try, ret_s, rr_rt, rr_nx, rr_exn, ix_lst, ix_tup, li_r, ix_loc, ix_str, ix_byt, add_int, add_str, add_tup, add_lst, sub_int, mul_int, div_int, mod_int, pow_int, ord_int, ord_str, cmp_lt, cmp_le, cmp_gt, cmp_ge, cmp_in, sl_lst, sl_scr, sl_tup, sl_byt, len_lst, len_tup, len_scr, len_str, len_byt, b_int, b_abs, b_tupl, b_lstl, b_lstt, b_lstb, aug_add, aug_sub, mk_l, mk_t, mk_s, is_1, is_2, is_3, is_4, is_5, is_6, is_7, se_va, se_fr, se_tu, ro_nil, ro_cons, bi_n, bi_t, bi_l, bl_n, bl_c, fz_nil, fz_cons, fz1_ow, fz1_va, fz1_un, wi_nil, wi_cons, it_l, it_t, it_c, it_s, it_r, it_zl, it_zt, it_e, non_1, non_2, non_3, non_4, non_5, non_6, atI_0, atI_1, atI_2, atI_3, atI_4, eq_int, ne_int, ne_byt, eq_byt, cls0, hi, R_get hL, h1, h2, hc, List.lookup]
/-! ### draws -/
def Hs (st : Store) (cs : List Int) (i l s c : Int) : Store := st.set 0 (.lst [.lst (cs.map T.int), .int i, .int l, .int s, .int c])
theorem H_get {st : Store} (h : 0 < st.length) (cs : List Int) (i l s c : Int) : (Hs st cs i l s c)[0]? = some (.lst [.lst (cs.map T.int), .int i, .int l, .int s, .int c]) := List.getElem?_set_self h
theorem H_set (st : Store) (cs cs' : List Int) (i l s c i' l' s' c' : Int) : (Hs st cs i l s c).set 0 (.lst [.lst (cs'.map T.int), .int i', .int l', .int s', .int c']) = Hs st cs' i' l' s' c' := by
  unfold Hs
  rw [List.set_set]
def Inv (st : Store) : Prop := ∃ (cs : List Int) (i l s c : Int), st[0]? = some (.lst [.lst (cs.map T.int), .int i, .int l, .int s, .int c]) ∧ (∀ x ∈ cs, (0 : Int) ≤ x) ∧ 0 ≤ i ∧ 0 ≤ l
theorem Inv.H {st : Store} (I : Inv st) : ∃ (cs : List Int) (i l s c : Int), st = Hs st cs i l s c ∧ 0 < st.length ∧ (∀ x ∈ cs, (0 : Int) ≤ x) ∧ 0 ≤ i ∧ 0 ≤ l := by
  obtain ⟨cs, i, l, s, c, h, h1, h2, h3⟩ := I
  obtain ⟨hl, he⟩ := List.getElem?_eq_some_iff.mp h
  refine ⟨cs, i, l, s, c, ?_, hl, h1, h2, h3⟩
  unfold Hs
  rw [← he, List.set_getElem_self]
theorem inv_H {st : Store} (h : 0 < st.length) {cs : List Int} {i l s c : Int} (h1 : ∀ x ∈ cs, (0 : Int) ≤ x) (h2 : 0 ≤ i) (h3 : 0 ≤ l) : Inv (Hs st cs i l s c) := ⟨cs, i, l, s, c, H_get h cs i l s c, h1, h2, h3⟩
theorem Inv.app {st : Store} (I : Inv st) (X : Cell) : Inv (st ++ [X]) := by
  obtain ⟨cs, i, l, s, c, h, h1, h2, h3⟩ := I
  obtain ⟨hl, he⟩ := List.getElem?_eq_some_iff.mp h
  exact ⟨cs, i, l, s, c, by rw [List.getElem?_append_left hl]; exact h, h1, h2, h3⟩
theorem ixN_0 : L2.ixN 5 0 = some 0 := rfl
theorem ixN_1 : L2.ixN 5 1 = some 1 := rfl
theorem ixN_2 : L2.ixN 5 2 = some 2 := rfl
theorem ixN_3 : L2.ixN 5 3 = some 3 := rfl
theorem ixN_4 : L2.ixN 5 4 = some 4 := rfl
def mx1 (s c : Int) : Int := (s + 7877 * (c + 1)) * 69621 % 2147483647
def mx2 (x : Int) : Int := x * (x / 1103 + 40692) % 2147483399
def mx3 (x : Int) : Int := x * (x / 2311 + 48271) % 2147483629
theorem mx1_b (s c : Int) : -18446744073709551616 < mx1 s c ∧ mx1 s c < 18446744073709551616 := by unfold mx1; omega
theorem mx2_b (x : Int) : -18446744073709551616 < mx2 x ∧ mx2 x < 18446744073709551616 := by unfold mx2; omega
def dtail : S := (.seq (.ite [] (.of (.cmp .gt (.ix (.v 0) (.c (.int 2))) (.c (.int 0)))) (.seq (.asg [] (.n 3) (.bin .mod (.bi .int (.cons (.ix (.v 0) (.c (.int 2))) .nil)) (.v 1)))
    (.seq (.setix [] (.v 0) (.c (.int 2)) (.bin .fdiv (.ix (.v 0) (.c (.int 2))) (.v 1)))
    (.retv 3))) .pass)
    (.seq (.setix [] (.v 0) (.c (.int 4)) (.bin .add (.ix (.v 0) (.c (.int 4))) (.c (.int 1))))
    (.seq (.asg [] (.n 4) (.bin .mod (.bi .int (.cons (.bin .mul (.bi .int (.cons (.bin .add (.ix (.v 0) (.c (.int 3))) (.bin .mul (.c (.int 7877)) (.ix (.v 0) (.c (.int 4))))) .nil)) (.c (.int 69621))) .nil)) (.c (.int 2147483647))))
    (.seq (.asg [] (.n 4) (.bin .mod (.bi .int (.cons (.bin .mul (.v 4) (.bin .add (.bin .fdiv (.v 4) (.c (.int 1103))) (.c (.int 40692)))) .nil)) (.c (.int 2147483399))))
    (.seq (.asg [] (.n 4) (.bin .mod (.bi .int (.cons (.bin .mul (.v 4) (.bin .add (.bin .fdiv (.v 4) (.c (.int 2311))) (.c (.int 48271)))) .nil)) (.c (.int 2147483629))))
    (.ret [] (.bin .mod (.bi .int (.cons (.bin .fdiv (.v 4) (.c (.int 16))) .nil)) (.v 1))))))))
theorem draw_tail (O : Or) (many : Int) (h0 : 0 < many) (h1 : many < 1073741824) (st : Store) (hl : 0 < st.length) (cs : List Int) (hc : ∀ x ∈ cs, (0 : Int) ≤ x) (i l s c : Int) (hi : 0 ≤ i) (hl0 : 0 ≤ l) (X : Sl) :
    ∃ d st', reR (evS Γ O dtail [.va (.loc 0), .va (.int many), X, .un, .un] (Hs st cs i l s c)) = .ok (.int d, .va) st' ∧ 0 ≤ d ∧ d < many ∧ Inv st' := by
  by_cases hz : 0 < l
  · refine ⟨l % many, Hs st cs i (l / many) s c, ?_, Int.emod_nonneg _ (Int.ne_of_gt h0), Int.emod_lt_of_pos _ h0, inv_H hl hc hi (Int.ediv_nonneg hl0 (Int.le_of_lt h0))⟩
    simp [dtail, rb_ok, rb_exn, rt_ok, rt_exn, rq_nx, rq_rt, rq_bk, rq_ct, rq_exn, m_ok, m_fail, okv_s, of_s, of_none, ite_s, ite_r, keep_va, keep_fr, sl_va, sl_ow, bl_r, in_r, ev_v, ev_c, ev_g, ev_bin, ev_neg, ev_cmp, ev_ch2, ev_isn, ev_isb, ev_and, ev_or, ev_not, ev_ife, ev_tup, ev_lst, ev_new, ev_ix, ev_sl, ev_call, ev_bi, ev_isi, ev_mt, lo_r, ce_r, ev_meth, ev_fld, ev_mk, ev_lc, nx_ok, lc_nil, evO_none, evO_some, evA_nil, evA_cons, evRs_nil, evRs_cons, evF_nil, evF_cons, tst_yes, ptst_of, ptst_and, ptst_or, ptst_not, truth_bl, truth_int, truth_lst, truth_non, op_r, evS_pass, evS_seq, evS_asg, evS_par, sls_va, sls_ow, evS_aug, evS_app, ls_s, evS_ext, evS_pop, evS_ex, re_va, re_fr, evS_ret, evS_retv, evS_retn, evS_ite, evS_while, loo_nx, loo_ct, loo_bk, loo_rt, evS_for, fo_nil, fo_cons, evS_brk, evS_cont, lo_s, in_s, evS_setfld, evS_augfld, li_s, nt_s, evS_setix, evS_try, ret_s, rr_rt, rr_nx, rr_exn, ix_lst, ix_tup, li_r, ix_loc, ix_str, ix_byt, add_int, add_str, add_tup, add_lst, sub_int, mul_int, div_int, mod_int, pow_int, ord_int, ord_str, cmp_lt, cmp_le, cmp_gt, cmp_ge, cmp_in, sl_lst, sl_scr, sl_tup, sl_byt, len_lst, len_tup, len_scr, len_str, len_byt, b_int, b_abs, b_tupl, b_lstl, b_lstt, b_lstb, aug_add, aug_sub, mk_l, mk_t, mk_s, is_1, is_2, is_3, is_4, is_5, is_6, is_7, se_va, se_fr, se_tu, ro_nil, ro_cons, bi_n, bi_t, bi_l, bl_n, bl_c, fz_nil, fz_cons, fz1_ow, fz1_va, fz1_un, wi_nil, wi_cons, it_l, it_t, it_c, it_s, it_r, it_zl, it_zt, it_e, non_1, non_2, non_3, non_4, non_5, non_6, atI_0, atI_1, atI_2, atI_3, atI_4, eq_int, ne_int, ne_byt, eq_byt, H_get hl, H_set, hz, ixN_0, ixN_1, ixN_2, ixN_3, ixN_4, h0, h1]
  · refine ⟨mx3 (mx2 (mx1 s c)) / 16 % many, Hs st cs i l s (c + 1), ?_, Int.emod_nonneg _ (Int.ne_of_gt h0), Int.emod_lt_of_pos _ h0, inv_H hl hc hi hl0⟩
    have e1 : ∀ (s c : Int), (s + 7877 * (c + 1)) * 69621 % 2147483647 = mx1 s c := fun _ _ => rfl
    have e2 : ∀ (s c : Int), mx1 s c * (mx1 s c / 1103 + 40692) % 2147483399 = mx2 (mx1 s c) := fun _ _ => rfl
    have e3 : ∀ x : Int, mx2 x * (mx2 x / 2311 + 48271) % 2147483629 = mx3 (mx2 x) := fun _ => rfl
    simp [dtail, rb_ok, rb_exn, rt_ok, rt_exn, rq_nx, rq_rt, rq_bk, rq_ct, rq_exn, m_ok, m_fail, okv_s, of_s, of_none, ite_s, ite_r, keep_va, keep_fr, sl_va, sl_ow, bl_r, in_r, ev_v, ev_c, ev_g, ev_bin, ev_neg, ev_cmp, ev_ch2, ev_isn, ev_isb, ev_and, ev_or, ev_not, ev_ife, ev_tup, ev_lst, ev_new, ev_ix, ev_sl, ev_call, ev_bi, ev_isi, ev_mt, lo_r, ce_r, ev_meth, ev_fld, ev_mk, ev_lc, nx_ok, lc_nil, evO_none, evO_some, evA_nil, evA_cons, evRs_nil, evRs_cons, evF_nil, evF_cons, tst_yes, ptst_of, ptst_and, ptst_or, ptst_not, truth_bl, truth_int, truth_lst, truth_non, op_r, evS_pass, evS_seq, evS_asg, evS_par, sls_va, sls_ow, evS_aug, evS_app, ls_s, evS_ext, evS_pop, evS_ex, re_va, re_fr, evS_ret, evS_retv, evS_retn, evS_ite, evS_while, loo_nx, loo_ct, loo_bk, loo_rt, evS_for, fo_nil, fo_cons, evS_brk, evS_cont, lo_s, in_s, evS_setfld, evS_augfld, li_s, nt_s, evS_setix, evS_try, ret_s, rr_rt, rr_nx, rr_exn, ix_lst, ix_tup, li_r, ix_loc, ix_str, ix_byt, add_int, add_str, add_tup, add_lst, sub_int, mul_int, div_int, mod_int, pow_int, ord_int, ord_str, cmp_lt, cmp_le, cmp_gt, cmp_ge, cmp_in, sl_lst, sl_scr, sl_tup, sl_byt, len_lst, len_tup, len_scr, len_str, len_byt, b_int, b_abs, b_tupl, b_lstl, b_lstt, b_lstb, aug_add, aug_sub, mk_l, mk_t, mk_s, is_1, is_2, is_3, is_4, is_5, is_6, is_7, se_va, se_fr, se_tu, ro_nil, ro_cons, bi_n, bi_t, bi_l, bl_n, bl_c, fz_nil, fz_cons, fz1_ow, fz1_va, fz1_un, wi_nil, wi_cons, it_l, it_t, it_c, it_s, it_r, it_zl, it_zt, it_e, non_1, non_2, non_3, non_4, non_5, non_6, atI_0, atI_1, atI_2, atI_3, atI_4, eq_int, ne_int, ne_byt, eq_byt, H_get hl, H_set, hz, ixN_0, ixN_1, ixN_2, ixN_3, ixN_4, h0, h1, e1, e2, e3, mx1_b, mx2_b]
theorem draw (n : Nat) (hn : 1 ≤ n) (many : Int) (h0 : 0 < many) (h1 : many < 1073741824) (st : Store) (I : Inv st) : ∃ d st', callF Γ n F__law_draw [.loc 0, .int many] st = .ok (.int d, .va) st' ∧ 0 ≤ d ∧ d < many ∧ Inv st' := by
  obtain ⟨m, rfl⟩ : ∃ m, n = m + 1 := ⟨n - 1, by omega⟩
  obtain ⟨cs, i, l, s, c, e, hl, hc, hi, hl0⟩ := I.H
  rw [e]
  clear e I
  have eb : fd__law_draw.body = .seq (.ite [] (.and (.of (.cmp .eq (.ix (.v 0) (.c (.int 2))) (.c (.int 0)))) (.of (.cmp .lt (.ix (.v 0) (.c (.int 1))) (.bi .len (.cons (.ix (.v 0) (.c (.int 0))) .nil))))) (.seq (.asg [] (.n 2) (.ix (.ix (.v 0) (.c (.int 0))) (.ix (.v 0) (.c (.int 1)))))
    (.seq (.setix [] (.v 0) (.c (.int 1)) (.bin .add (.ix (.v 0) (.c (.int 1))) (.c (.int 1))))
    (.seq (.setix [] (.v 0) (.c (.int 3)) (.bin .mod (.bi .int (.cons (.bin .add (.bin .add (.bin .mul (.ix (.v 0) (.c (.int 3))) (.c (.int 48271))) (.bin .mul (.v 2) (.c (.int 7)))) (.c (.int 31))) .nil)) (.c (.int 2147483587))))
    (.setix [2] (.v 0) (.c (.int 2)) (.ife (.of (.cmp .ge (.v 2) (.bin .pow (.c (.int 10)) (.c (.int 18))))) (.v 2) (.c (.int 0))))))) .pass) dtail := rfl
  rw [c__law_draw, eb]
  by_cases h2 : l = 0 ∧ i < cs.length
  · obtain ⟨h2, h3⟩ := h2
    obtain ⟨j, rfl⟩ := Int.eq_ofNat_of_zero_le hi
    have hj : j < cs.length := by omega
    have ea : L2.atI (cs.map T.int) (j : Int) = some (.int cs[j]) := by
      rw [atI_nat _ _ (by simpa using hj)]
      simp [hj]
    have hcj := hc cs[j] (List.getElem_mem hj)
    by_cases h4 : (1000000000000000000 : Int) ≤ cs[j]
    · obtain ⟨d, st', hd⟩ := draw_tail ⟨callF Γ m, callF Γ (m - 1)⟩ many h0 h1 st hl cs hc ((j : Int) + 1) cs[j] ((s * 48271 + cs[j] * 7 + 31) % 2147483587) c (by omega) hcj (.va (.int cs[j]))
      refine ⟨d, st', ?_, hd.2⟩
      rw [← hd.1]
      simp [rb_ok, rb_exn, rt_ok, rt_exn, rq_nx, rq_rt, rq_bk, rq_ct, rq_exn, m_ok, m_fail, okv_s, of_s, of_none, ite_s, ite_r, keep_va, keep_fr, sl_va, sl_ow, bl_r, in_r, ev_v, ev_c, ev_g, ev_bin, ev_neg, ev_cmp, ev_ch2, ev_isn, ev_isb, ev_and, ev_or, ev_not, ev_ife, ev_tup, ev_lst, ev_new, ev_ix, ev_sl, ev_call, ev_bi, ev_isi, ev_mt, lo_r, ce_r, ev_meth, ev_fld, ev_mk, ev_lc, nx_ok, lc_nil, evO_none, evO_some, evA_nil, evA_cons, evRs_nil, evRs_cons, evF_nil, evF_cons, tst_yes, ptst_of, ptst_and, ptst_or, ptst_not, truth_bl, truth_int, truth_lst, truth_non, op_r, evS_pass, evS_seq, evS_asg, evS_par, sls_va, sls_ow, evS_aug, evS_app, ls_s, evS_ext, evS_pop, evS_ex, re_va, re_fr, evS_ret, evS_retv, evS_retn, evS_ite, evS_while, loo_nx, loo_ct, loo_bk, loo_rt, evS_for, fo_nil, fo_cons, evS_brk, evS_cont, lo_s, in_s, evS_setfld, evS_augfld, li_s, nt_s, evS_setix, evS_try, ret_s, rr_rt, rr_nx, rr_exn, ix_lst, ix_tup, li_r, ix_loc, ix_str, ix_byt, add_int, add_str, add_tup, add_lst, sub_int, mul_int, div_int, mod_int, pow_int, ord_int, ord_str, cmp_lt, cmp_le, cmp_gt, cmp_ge, cmp_in, sl_lst, sl_scr, sl_tup, sl_byt, len_lst, len_tup, len_scr, len_str, len_byt, b_int, b_abs, b_tupl, b_lstl, b_lstt, b_lstb, aug_add, aug_sub, mk_l, mk_t, mk_s, is_1, is_2, is_3, is_4, is_5, is_6, is_7, se_va, se_fr, se_tu, ro_nil, ro_cons, bi_n, bi_t, bi_l, bl_n, bl_c, fz_nil, fz_cons, fz1_ow, fz1_va, fz1_un, wi_nil, wi_cons, it_l, it_t, it_c, it_s, it_r, it_zl, it_zt, it_e, non_1, non_2, non_3, non_4, non_5, non_6, atI_0, atI_1, atI_2, atI_3, atI_4, eq_int, ne_int, ne_byt, eq_byt, H_get hl, H_set, h2, h3, ea, h4, ixN_0, ixN_1, ixN_2, ixN_3, ixN_4]
    · obtain ⟨d, st', hd⟩ := draw_tail ⟨callF Γ m, callF Γ (m - 1)⟩ many h0 h1 st hl cs hc ((j : Int) + 1) 0 ((s * 48271 + cs[j] * 7 + 31) % 2147483587) c (by omega) (by omega) (.va (.int cs[j]))
      refine ⟨d, st', ?_, hd.2⟩
      rw [← hd.1]
      simp [rb_ok, rb_exn, rt_ok, rt_exn, rq_nx, rq_rt, rq_bk, rq_ct, rq_exn, m_ok, m_fail, okv_s, of_s, of_none, ite_s, ite_r, keep_va, keep_fr, sl_va, sl_ow, bl_r, in_r, ev_v, ev_c, ev_g, ev_bin, ev_neg, ev_cmp, ev_ch2, ev_isn, ev_isb, ev_and, ev_or, ev_not, ev_ife, ev_tup, ev_lst, ev_new, ev_ix, ev_sl, ev_call, ev_bi, ev_isi, ev_mt, lo_r, ce_r, ev_meth, ev_fld, ev_mk, ev_lc, nx_ok, lc_nil, evO_none, evO_some, evA_nil, evA_cons, evRs_nil, evRs_cons, evF_nil, evF_cons, tst_yes, ptst_of, ptst_and, ptst_or, ptst_not, truth_bl, truth_int, truth_lst, truth_non, op_r, evS_pass, evS_seq, evS_asg, evS_par, sls_va, sls_ow, evS_aug, evS_app, ls_s, evS_ext, evS_pop, evS_ex, re_va, re_fr, evS_ret, evS_retv, evS_retn, evS_ite, evS_while, loo_nx, loo_ct, loo_bk, loo_rt, evS_for, fo_nil, fo_cons, evS_brk, evS_cont, lo_s, in_s, evS_setfld, evS_augfld, li_s, nt_s, evS_setix, evS_try, ret_s, rr_rt, rr_nx, rr_exn, ix_lst, ix_tup, li_r, ix_loc, ix_str, ix_byt, add_int, add_str, add_tup, add_lst, sub_int, mul_int, div_int, mod_int, pow_int, ord_int, ord_str, cmp_lt, cmp_le, cmp_gt, cmp_ge, cmp_in, sl_lst, sl_scr, sl_tup, sl_byt, len_lst, len_tup, len_scr, len_str, len_byt, b_int, b_abs, b_tupl, b_lstl, b_lstt, b_lstb, aug_add, aug_sub, mk_l, mk_t, mk_s, is_1, is_2, is_3, is_4, is_5, is_6, is_7, se_va, se_fr, se_tu, ro_nil, ro_cons, bi_n, bi_t, bi_l, bl_n, bl_c, fz_nil, fz_cons, fz1_ow, fz1_va, fz1_un, wi_nil, wi_cons, it_l, it_t, it_c, it_s, it_r, it_zl, it_zt, it_e, non_1, non_2, non_3, non_4, non_5, non_6, atI_0, atI_1, atI_2, atI_3, atI_4, eq_int, ne_int, ne_byt, eq_byt, H_get hl, H_set, h2, h3, ea, h4, ixN_0, ixN_1, ixN_2, ixN_3, ixN_4]
  · obtain ⟨d, st', hd⟩ := draw_tail ⟨callF Γ m, callF Γ (m - 1)⟩ many h0 h1 st hl cs hc i l s c hi hl0 .un
    refine ⟨d, st', ?_, hd.2⟩
    rw [← hd.1]
    by_cases h3 : l = 0
    · have h4 : ¬ (i < cs.length) := fun z => h2 ⟨h3, z⟩
      simp [rb_ok, rb_exn, rt_ok, rt_exn, rq_nx, rq_rt, rq_bk, rq_ct, rq_exn, m_ok, m_fail, okv_s, of_s, of_none, ite_s, ite_r, keep_va, keep_fr, sl_va, sl_ow, bl_r, in_r, ev_v, ev_c, ev_g, ev_bin, ev_neg, ev_cmp, ev_ch2, ev_isn, ev_isb, ev_and, ev_or, ev_not, ev_ife, ev_tup, ev_lst, ev_new, ev_ix, ev_sl, ev_call, ev_bi, ev_isi, ev_mt, lo_r, ce_r, ev_meth, ev_fld, ev_mk, ev_lc, nx_ok, lc_nil, evO_none, evO_some, evA_nil, evA_cons, evRs_nil, evRs_cons, evF_nil, evF_cons, tst_yes, ptst_of, ptst_and, ptst_or, ptst_not, truth_bl, truth_int, truth_lst, truth_non, op_r, evS_pass, evS_seq, evS_asg, evS_par, sls_va, sls_ow, evS_aug, evS_app, ls_s, evS_ext, evS_pop, evS_ex, re_va, re_fr, evS_ret, evS_retv, evS_retn, evS_ite, evS_while, loo_nx, loo_ct, loo_bk, loo_rt, evS_for, fo_nil, fo_cons, evS_brk, evS_cont, lo_s, in_s, evS_setfld, evS_augfld, li_s, nt_s, evS_setix, evS_try, ret_s, rr_rt, rr_nx, rr_exn, ix_lst, ix_tup, li_r, ix_loc, ix_str, ix_byt, add_int, add_str, add_tup, add_lst, sub_int, mul_int, div_int, mod_int, pow_int, ord_int, ord_str, cmp_lt, cmp_le, cmp_gt, cmp_ge, cmp_in, sl_lst, sl_scr, sl_tup, sl_byt, len_lst, len_tup, len_scr, len_str, len_byt, b_int, b_abs, b_tupl, b_lstl, b_lstt, b_lstb, aug_add, aug_sub, mk_l, mk_t, mk_s, is_1, is_2, is_3, is_4, is_5, is_6, is_7, se_va, se_fr, se_tu, ro_nil, ro_cons, bi_n, bi_t, bi_l, bl_n, bl_c, fz_nil, fz_cons, fz1_ow, fz1_va, fz1_un, wi_nil, wi_cons, it_l, it_t, it_c, it_s, it_r, it_zl, it_zt, it_e, non_1, non_2, non_3, non_4, non_5, non_6, atI_0, atI_1, atI_2, atI_3, atI_4, eq_int, ne_int, ne_byt, eq_byt, H_get hl, H_set, h3, h4]
    · simp [rb_ok, rb_exn, rt_ok, rt_exn, rq_nx, rq_rt, rq_bk, rq_ct, rq_exn, m_ok, m_fail, okv_s, of_s, of_none, ite_s, ite_r, keep_va, keep_fr, sl_va, sl_ow, bl_r, in_r, ev_v, ev_c, ev_g, ev_bin, ev_neg, ev_cmp, ev_ch2, ev_isn, ev_isb, ev_and, ev_or, ev_not, ev_ife, ev_tup, ev_lst, ev_new, ev_ix, ev_sl, ev_call, ev_bi, ev_isi, ev_mt, lo_r, ce_r, ev_meth, ev_fld, ev_mk, ev_lc, nx_ok, lc_nil, evO_none, evO_some, evA_nil, evA_cons, evRs_nil, evRs_cons, evF_nil, evF_cons, tst_yes, ptst_of, ptst_and, ptst_or, ptst_not, truth_bl, truth_int, truth_lst, truth_non, op_r, evS_pass, evS_seq, evS_asg, evS_par, sls_va, sls_ow, evS_aug, evS_app, ls_s, evS_ext, evS_pop, evS_ex, re_va, re_fr, evS_ret, evS_retv, evS_retn, evS_ite, evS_while, loo_nx, loo_ct, loo_bk, loo_rt, evS_for, fo_nil, fo_cons, evS_brk, evS_cont, lo_s, in_s, evS_setfld, evS_augfld, li_s, nt_s, evS_setix, evS_try, ret_s, rr_rt, rr_nx, rr_exn, ix_lst, ix_tup, li_r, ix_loc, ix_str, ix_byt, add_int, add_str, add_tup, add_lst, sub_int, mul_int, div_int, mod_int, pow_int, ord_int, ord_str, cmp_lt, cmp_le, cmp_gt, cmp_ge, cmp_in, sl_lst, sl_scr, sl_tup, sl_byt, len_lst, len_tup, len_scr, len_str, len_byt, b_int, b_abs, b_tupl, b_lstl, b_lstt, b_lstb, aug_add, aug_sub, mk_l, mk_t, mk_s, is_1, is_2, is_3, is_4, is_5, is_6, is_7, se_va, se_fr, se_tu, ro_nil, ro_cons, bi_n, bi_t, bi_l, bl_n, bl_c, fz_nil, fz_cons, fz1_ow, fz1_va, fz1_un, wi_nil, wi_cons, it_l, it_t, it_c, it_s, it_r, it_zl, it_zt, it_e, non_1, non_2, non_3, non_4, non_5, non_6, atI_0, atI_1, atI_2, atI_3, atI_4, eq_int, ne_int, ne_byt, eq_byt, H_get hl, H_set, h3]
end D


set_option Elab.async false
set_option linter.all false
set_option maxRecDepth 100000
set_option maxHeartbeats 0
namespace D
open PySem G
/-! ### what is drawn -/
theorem mx18 : (10 : Int) ^ (18 : Int).toNat = 1000000000000000000 := by decide
theorem mx9 : (10 : Int) ^ (9 : Int).toNat = 1000000000 := by decide
theorem at9 (a b c d e f g h i : T) (k : Int) (h0 : 0 ≤ k) (h9 : k < 9) : ∃ x, L2.atI [a, b, c, d, e, f, g, h, i] k = some x ∧ x ∈ [a, b, c, d, e, f, g, h, i] := by
  obtain ⟨j, rfl⟩ := Int.eq_ofNat_of_zero_le h0
  have hj : j < [a, b, c, d, e, f, g, h, i].length := by simp; omega
  exact ⟨_, by rw [atI_nat _ _ hj]; exact List.getElem?_eq_getElem hj, List.getElem_mem hj⟩
theorem cut31 (a b c : T) : cut [a, b, c] none (some 1) = [a] := rfl
theorem cut32 (a b c : T) : cut [a, b, c] none (some 2) = [a, b] := rfl
theorem cut33 (a b c : T) : cut [a, b, c] none (some 3) = [a, b, c] := rfl
theorem cut21 (a b : T) : cut [a, b] none (some 1) = [a] := rfl
theorem cut22 (a b : T) : cut [a, b] none (some 2) = [a, b] := rfl
theorem some_ok (n : Nat) (hn : 2 ≤ n) (st : Store) (I : Inv st) : ∃ x st', callF Γ n F__law_some [.loc 0, .lst [.int 999999999999999999, .int (-999999999999999999), .int 63, .int 64, .int (-64), .int (-65), .int 8191, .int 8192, .int 1000000000]] st = .ok (.int x, .va) st' ∧ x.natAbs < 10 ^ 18 ∧ Inv st' := by
  obtain ⟨m, rfl⟩ : ∃ m, n = m + 1 := ⟨n - 1, by omega⟩
  obtain ⟨d, s1, h1, d0, d1, I1⟩ := draw m (by omega) 9 (by omega) (by omega) st I
  obtain ⟨x, h2, h3⟩ := at9 (.int 999999999999999999) (.int (-999999999999999999)) (.int 63) (.int 64) (.int (-64)) (.int (-65)) (.int 8191) (.int 8192) (.int 1000000000) d d0 d1
  have h4 : ∃ y, x = .int y ∧ y.natAbs < 10 ^ 18 := by
    simp only [List.mem_cons, List.not_mem_nil, or_false] at h3
    rcases h3 with rfl | rfl | rfl | rfl | rfl | rfl | rfl | rfl | rfl <;> exact ⟨_, rfl, by decide⟩
  obtain ⟨y, rfl, hy⟩ := h4
  refine ⟨y, s1, ?_, hy, I1⟩
  rw [c__law_some]
  simp [fd__law_some, rb_ok, rb_exn, rt_ok, rt_exn, rq_nx, rq_rt, rq_bk, rq_ct, rq_exn, m_ok, m_fail, okv_s, of_s, of_none, ite_s, ite_r, keep_va, keep_fr, sl_va, sl_ow, bl_r, in_r, ev_v, ev_c, ev_g, ev_bin, ev_neg, ev_cmp, ev_ch2, ev_isn, ev_isb, ev_and, ev_or, ev_not, ev_ife, ev_tup, ev_lst, ev_new, ev_ix, ev_sl, ev_call, ev_bi, ev_isi, ev_mt, lo_r, ce_r, ev_meth, ev_fld, ev_mk, ev_lc, nx_ok, lc_nil, evO_none, evO_some, evA_nil, evA_cons, evRs_nil, evRs_cons, evF_nil, evF_cons, tst_yes, ptst_of, ptst_and, ptst_or, ptst_not, truth_bl, truth_int, truth_lst, truth_non, op_r, evS_pass, evS_seq, evS_asg, evS_par, sls_va, sls_ow, evS_aug, evS_app, ls_s, evS_ext, evS_pop, evS_ex, re_va, re_fr, evS_ret, evS_retv, evS_retn, evS_ite, evS_while, loo_nx, loo_ct, loo_bk, loo_rt, evS_for, fo_nil, fo_cons, evS_brk, evS_cont, lo_s, in_s, evS_setfld, evS_augfld, li_s, nt_s, evS_setix, evS_try, ret_s, rr_rt, rr_nx, rr_exn, ix_lst, ix_tup, li_r, ix_loc, ix_str, ix_byt, add_int, add_str, add_tup, add_lst, sub_int, mul_int, div_int, mod_int, pow_int, ord_int, ord_str, cmp_lt, cmp_le, cmp_gt, cmp_ge, cmp_in, sl_lst, sl_scr, sl_tup, sl_byt, len_lst, len_tup, len_scr, len_str, len_byt, b_int, b_abs, b_tupl, b_lstl, b_lstt, b_lstb, aug_add, aug_sub, mk_l, mk_t, mk_s, is_1, is_2, is_3, is_4, is_5, is_6, is_7, se_va, se_fr, se_tu, ro_nil, ro_cons, bi_n, bi_t, bi_l, bl_n, bl_c, fz_nil, fz_cons, fz1_ow, fz1_va, fz1_un, wi_nil, wi_cons, it_l, it_t, it_c, it_s, it_r, it_zl, it_zt, it_e, non_1, non_2, non_3, non_4, non_5, non_6, atI_0, atI_1, atI_2, atI_3, atI_4, eq_int, ne_int, ne_byt, eq_byt, h1, h2]
theorem great_ok (n : Nat) (hn : 3 ≤ n) (st : Store) (I : Inv st) : ∃ x st', callF Γ n F__law_great [.loc 0] st = .ok (.int x, .va) st' ∧ x.natAbs < 10 ^ 18 ∧ Inv st' := by
  obtain ⟨m, rfl⟩ : ∃ m, n = m + 1 := ⟨n - 1, by omega⟩
  obtain ⟨d, s1, h1, d0, d1, I1⟩ := draw m (by omega) 3 (by omega) (by omega) st I
  rw [c__law_great]
  by_cases hd : d = 0
  · obtain ⟨x, s2, h2, hx, I2⟩ := some_ok m (by omega) s1 I1
    refine ⟨x, s2, ?_, hx, I2⟩
    simp [fd__law_great, rb_ok, rb_exn, rt_ok, rt_exn, rq_nx, rq_rt, rq_bk, rq_ct, rq_exn, m_ok, m_fail, okv_s, of_s, of_none, ite_s, ite_r, keep_va, keep_fr, sl_va, sl_ow, bl_r, in_r, ev_v, ev_c, ev_g, ev_bin, ev_neg, ev_cmp, ev_ch2, ev_isn, ev_isb, ev_and, ev_or, ev_not, ev_ife, ev_tup, ev_lst, ev_new, ev_ix, ev_sl, ev_call, ev_bi, ev_isi, ev_mt, lo_r, ce_r, ev_meth, ev_fld, ev_mk, ev_lc, nx_ok, lc_nil, evO_none, evO_some, evA_nil, evA_cons, evRs_nil, evRs_cons, evF_nil, evF_cons, tst_yes, ptst_of, ptst_and, ptst_or, ptst_not, truth_bl, truth_int, truth_lst, truth_non, op_r, evS_pass, evS_seq, evS_asg, evS_par, sls_va, sls_ow, evS_aug, evS_app, ls_s, evS_ext, evS_pop, evS_ex, re_va, re_fr, evS_ret, evS_retv, evS_retn, evS_ite, evS_while, loo_nx, loo_ct, loo_bk, loo_rt, evS_for, fo_nil, fo_cons, evS_brk, evS_cont, lo_s, in_s, evS_setfld, evS_augfld, li_s, nt_s, evS_setix, evS_try, ret_s, rr_rt, rr_nx, rr_exn, ix_lst, ix_tup, li_r, ix_loc, ix_str, ix_byt, add_int, add_str, add_tup, add_lst, sub_int, mul_int, div_int, mod_int, pow_int, ord_int, ord_str, cmp_lt, cmp_le, cmp_gt, cmp_ge, cmp_in, sl_lst, sl_scr, sl_tup, sl_byt, len_lst, len_tup, len_scr, len_str, len_byt, b_int, b_abs, b_tupl, b_lstl, b_lstt, b_lstb, aug_add, aug_sub, mk_l, mk_t, mk_s, is_1, is_2, is_3, is_4, is_5, is_6, is_7, se_va, se_fr, se_tu, ro_nil, ro_cons, bi_n, bi_t, bi_l, bl_n, bl_c, fz_nil, fz_cons, fz1_ow, fz1_va, fz1_un, wi_nil, wi_cons, it_l, it_t, it_c, it_s, it_r, it_zl, it_zt, it_e, non_1, non_2, non_3, non_4, non_5, non_6, atI_0, atI_1, atI_2, atI_3, atI_4, eq_int, ne_int, ne_byt, eq_byt, h1, hd, h2, big_v]
  · obtain ⟨x, s2, h2, x0, x1, I2⟩ := draw m (by omega) 200 (by omega) (by omega) s1 I1
    refine ⟨x - 100, s2, ?_, by omega, I2⟩
    simp [fd__law_great, rb_ok, rb_exn, rt_ok, rt_exn, rq_nx, rq_rt, rq_bk, rq_ct, rq_exn, m_ok, m_fail, okv_s, of_s, of_none, ite_s, ite_r, keep_va, keep_fr, sl_va, sl_ow, bl_r, in_r, ev_v, ev_c, ev_g, ev_bin, ev_neg, ev_cmp, ev_ch2, ev_isn, ev_isb, ev_and, ev_or, ev_not, ev_ife, ev_tup, ev_lst, ev_new, ev_ix, ev_sl, ev_call, ev_bi, ev_isi, ev_mt, lo_r, ce_r, ev_meth, ev_fld, ev_mk, ev_lc, nx_ok, lc_nil, evO_none, evO_some, evA_nil, evA_cons, evRs_nil, evRs_cons, evF_nil, evF_cons, tst_yes, ptst_of, ptst_and, ptst_or, ptst_not, truth_bl, truth_int, truth_lst, truth_non, op_r, evS_pass, evS_seq, evS_asg, evS_par, sls_va, sls_ow, evS_aug, evS_app, ls_s, evS_ext, evS_pop, evS_ex, re_va, re_fr, evS_ret, evS_retv, evS_retn, evS_ite, evS_while, loo_nx, loo_ct, loo_bk, loo_rt, evS_for, fo_nil, fo_cons, evS_brk, evS_cont, lo_s, in_s, evS_setfld, evS_augfld, li_s, nt_s, evS_setix, evS_try, ret_s, rr_rt, rr_nx, rr_exn, ix_lst, ix_tup, li_r, ix_loc, ix_str, ix_byt, add_int, add_str, add_tup, add_lst, sub_int, mul_int, div_int, mod_int, pow_int, ord_int, ord_str, cmp_lt, cmp_le, cmp_gt, cmp_ge, cmp_in, sl_lst, sl_scr, sl_tup, sl_byt, len_lst, len_tup, len_scr, len_str, len_byt, b_int, b_abs, b_tupl, b_lstl, b_lstt, b_lstb, aug_add, aug_sub, mk_l, mk_t, mk_s, is_1, is_2, is_3, is_4, is_5, is_6, is_7, se_va, se_fr, se_tu, ro_nil, ro_cons, bi_n, bi_t, bi_l, bl_n, bl_c, fz_nil, fz_cons, fz1_ow, fz1_va, fz1_un, wi_nil, wi_cons, it_l, it_t, it_c, it_s, it_r, it_zl, it_zt, it_e, non_1, non_2, non_3, non_4, non_5, non_6, atI_0, atI_1, atI_2, atI_3, atI_4, eq_int, ne_int, ne_byt, eq_byt, h1, hd, h2, big_v]
/-! ### kinds drawn -/
def ktail : S :=     (.seq (.ite [] (.of (.cmp .eq (.v 2) (.c (.int 0)))) (.seq (.asg [0] (.n 3) (.bin .sub (.call F__law_draw (.cons (.v 0) (.cons (.c (.int 5)) .nil))) (.c (.int 2))))
    (.ret [0, 3] (.tup (.cons (.c (.str [105, 110, 116])) (.cons (.v 3) (.cons (.bin .add (.v 3) (.call F__law_draw (.cons (.v 0) (.cons (.c (.int 3)) .nil)))) .nil)))))) .pass)
    (.seq (.ite [] (.of (.cmp .eq (.v 2) (.c (.int 1)))) (.ret [0] (.tup (.cons (.c (.str [119, 111, 114, 100])) (.cons (.sl (.tup (.cons (.c (.str [97])) (.cons (.c (.str [98])) (.cons (.c (.str [99])) .nil)))) .none (.some (.bin .add (.c (.int 1)) (.call F__law_draw (.cons (.v 0) (.cons (.c (.int 3)) .nil)))))) .nil)))) .pass)
    (.seq (.ite [] (.of (.cmp .eq (.v 2) (.c (.int 2)))) (.ret [0] (.tup (.cons (.c (.str [108, 105, 115, 116])) (.cons (.call F__law_kind (.cons (.v 0) (.cons (.bin .sub (.v 1) (.c (.int 1))) .nil))) .nil)))) .pass)
    (.seq (.asg [] (.n 4) (.ife (.of (.cmp .eq (.v 2) (.c (.int 3)))) (.tup (.cons (.c (.str [115])) (.cons (.c (.str [116])) .nil))) (.tup (.cons (.c (.str [112])) (.cons (.c (.str [113])) .nil)))))
    (.seq (.asg [0] (.n 5) (.bi .tuple (.cons (.lc (.tup (.cons (.v 6) (.cons (.call F__law_kind (.cons (.v 0) (.cons (.bin .sub (.v 1) (.c (.int 1))) .nil))) .nil))) (.n 6) .seq (.cons (.sl (.v 4) .none (.some (.bin .add (.c (.int 1)) (.call F__law_draw (.cons (.v 0) (.cons (.c (.int 2)) .nil)))))) .nil) .yes [6]) .nil)))
    (.seq (.ite [0] (.and (.of (.cmp .eq (.v 2) (.c (.int 3)))) (.of (.cmp .eq (.call F__law_draw (.cons (.v 0) (.cons (.c (.int 2)) .nil))) (.c (.int 0))))) (.asg [] (.n 5) (.bi .tuple (.cons (.lc (.tup (.cons (.v 6) (.cons (.ix (.ix (.v 5) (.c (.int 0))) (.c (.int 1))) .nil))) (.tup (.cons (.n 6) (.cons (.n 7) .nil))) .seq (.cons (.v 5) .nil) .yes [6, 7]) .nil))) .pass)
    (.ret [5] (.tup (.cons (.ife (.of (.cmp .eq (.v 2) (.c (.int 3)))) (.c (.str [99, 104, 111, 105, 99, 101])) (.c (.str [114, 101, 99]))) (.cons (.v 5) .nil))))))))))
theorem kbody : fd__law_kind.body = .seq (.asg [0] (.n 2) (.call F__law_draw (.cons (.v 0) (.cons (.ife (.of (.cmp .gt (.v 1) (.c (.int 0)))) (.c (.int 6)) (.c (.int 2))) .nil)))) ktail := rfl
def KP (dp : Nat) (k : Kd) : Prop := k.ok ∧ k.deep ≤ dp + 1 ∧ k.parts + 1 ≤ 2 ^ (dp + 1)
theorem KP1 (dp : Nat) (k : Kd) (h0 : k.ok) (h1 : k.deep = 1) (h2 : k.parts = 1) : KP dp k := by
  refine ⟨h0, by omega, ?_⟩
  have : 1 ≤ 2 ^ dp := Nat.one_le_two_pow
  rw [Nat.pow_succ]
  omega
theorem kt0 (c2) (m : Nat) (hm : 1 ≤ m) (x : Int) (dp : Nat) (st : Store) (I : Inv st) : ∃ k st', reR (evS Γ ⟨callF Γ m, c2⟩ ktail [.va (.loc 0), .va (.int x), .va (.int 0), .un, .un, .un, .un, .un] st) = .ok (Kd.t k, .va) st' ∧ KP dp k ∧ Inv st' := by
  obtain ⟨a, s1, h1, a0, a1, I1⟩ := draw m hm 5 (by omega) (by omega) st I
  obtain ⟨b, s2, h2, b0, b1, I2⟩ := draw m hm 3 (by omega) (by omega) s1 I1
  refine ⟨.int (a - 2) (a - 2 + b), s2, ?_, KP1 _ _ ⟨by omega, by omega, by omega⟩ rfl rfl, I2⟩
  simp [ktail, rb_ok, rb_exn, rt_ok, rt_exn, rq_nx, rq_rt, rq_bk, rq_ct, rq_exn, m_ok, m_fail, okv_s, of_s, of_none, ite_s, ite_r, keep_va, keep_fr, sl_va, sl_ow, bl_r, in_r, ev_v, ev_c, ev_g, ev_bin, ev_neg, ev_cmp, ev_ch2, ev_isn, ev_isb, ev_and, ev_or, ev_not, ev_ife, ev_tup, ev_lst, ev_new, ev_ix, ev_sl, ev_call, ev_bi, ev_isi, ev_mt, lo_r, ce_r, ev_meth, ev_fld, ev_mk, ev_lc, nx_ok, lc_nil, evO_none, evO_some, evA_nil, evA_cons, evRs_nil, evRs_cons, evF_nil, evF_cons, tst_yes, ptst_of, ptst_and, ptst_or, ptst_not, truth_bl, truth_int, truth_lst, truth_non, op_r, evS_pass, evS_seq, evS_asg, evS_par, sls_va, sls_ow, evS_aug, evS_app, ls_s, evS_ext, evS_pop, evS_ex, re_va, re_fr, evS_ret, evS_retv, evS_retn, evS_ite, evS_while, loo_nx, loo_ct, loo_bk, loo_rt, evS_for, fo_nil, fo_cons, evS_brk, evS_cont, lo_s, in_s, evS_setfld, evS_augfld, li_s, nt_s, evS_setix, evS_try, ret_s, rr_rt, rr_nx, rr_exn, ix_lst, ix_tup, li_r, ix_loc, ix_str, ix_byt, add_int, add_str, add_tup, add_lst, sub_int, mul_int, div_int, mod_int, pow_int, ord_int, ord_str, cmp_lt, cmp_le, cmp_gt, cmp_ge, cmp_in, sl_lst, sl_scr, sl_tup, sl_byt, len_lst, len_tup, len_scr, len_str, len_byt, b_int, b_abs, b_tupl, b_lstl, b_lstt, b_lstb, aug_add, aug_sub, mk_l, mk_t, mk_s, is_1, is_2, is_3, is_4, is_5, is_6, is_7, se_va, se_fr, se_tu, ro_nil, ro_cons, bi_n, bi_t, bi_l, bl_n, bl_c, fz_nil, fz_cons, fz1_ow, fz1_va, fz1_un, wi_nil, wi_cons, it_l, it_t, it_c, it_s, it_r, it_zl, it_zt, it_e, non_1, non_2, non_3, non_4, non_5, non_6, atI_0, atI_1, atI_2, atI_3, atI_4, eq_int, ne_int, ne_byt, eq_byt, h1, h2, Kd.t, big_v]
theorem kt1 (c2) (m : Nat) (hm : 1 ≤ m) (x : Int) (dp : Nat) (st : Store) (I : Inv st) : ∃ k st', reR (evS Γ ⟨callF Γ m, c2⟩ ktail [.va (.loc 0), .va (.int x), .va (.int 1), .un, .un, .un, .un, .un] st) = .ok (Kd.t k, .va) st' ∧ KP dp k ∧ Inv st' := by
  obtain ⟨b, s2, h2, b0, b1, I2⟩ := draw m hm 3 (by omega) (by omega) st I
  have hb : b = 0 ∨ b = 1 ∨ b = 2 := by omega
  rcases hb with rfl | rfl | rfl
  · refine ⟨.word 0, s2, ?_, KP1 _ _ trivial rfl rfl, I2⟩
    simp [ktail, rb_ok, rb_exn, rt_ok, rt_exn, rq_nx, rq_rt, rq_bk, rq_ct, rq_exn, m_ok, m_fail, okv_s, of_s, of_none, ite_s, ite_r, keep_va, keep_fr, sl_va, sl_ow, bl_r, in_r, ev_v, ev_c, ev_g, ev_bin, ev_neg, ev_cmp, ev_ch2, ev_isn, ev_isb, ev_and, ev_or, ev_not, ev_ife, ev_tup, ev_lst, ev_new, ev_ix, ev_sl, ev_call, ev_bi, ev_isi, ev_mt, lo_r, ce_r, ev_meth, ev_fld, ev_mk, ev_lc, nx_ok, lc_nil, evO_none, evO_some, evA_nil, evA_cons, evRs_nil, evRs_cons, evF_nil, evF_cons, tst_yes, ptst_of, ptst_and, ptst_or, ptst_not, truth_bl, truth_int, truth_lst, truth_non, op_r, evS_pass, evS_seq, evS_asg, evS_par, sls_va, sls_ow, evS_aug, evS_app, ls_s, evS_ext, evS_pop, evS_ex, re_va, re_fr, evS_ret, evS_retv, evS_retn, evS_ite, evS_while, loo_nx, loo_ct, loo_bk, loo_rt, evS_for, fo_nil, fo_cons, evS_brk, evS_cont, lo_s, in_s, evS_setfld, evS_augfld, li_s, nt_s, evS_setix, evS_try, ret_s, rr_rt, rr_nx, rr_exn, ix_lst, ix_tup, li_r, ix_loc, ix_str, ix_byt, add_int, add_str, add_tup, add_lst, sub_int, mul_int, div_int, mod_int, pow_int, ord_int, ord_str, cmp_lt, cmp_le, cmp_gt, cmp_ge, cmp_in, sl_lst, sl_scr, sl_tup, sl_byt, len_lst, len_tup, len_scr, len_str, len_byt, b_int, b_abs, b_tupl, b_lstl, b_lstt, b_lstb, aug_add, aug_sub, mk_l, mk_t, mk_s, is_1, is_2, is_3, is_4, is_5, is_6, is_7, se_va, se_fr, se_tu, ro_nil, ro_cons, bi_n, bi_t, bi_l, bl_n, bl_c, fz_nil, fz_cons, fz1_ow, fz1_va, fz1_un, wi_nil, wi_cons, it_l, it_t, it_c, it_s, it_r, it_zl, it_zt, it_e, non_1, non_2, non_3, non_4, non_5, non_6, atI_0, atI_1, atI_2, atI_3, atI_4, eq_int, ne_int, ne_byt, eq_byt, h2, Kd.t, big_v, wds, cut31, cut32, cut33]
  · refine ⟨.word 1, s2, ?_, KP1 _ _ trivial rfl rfl, I2⟩
    simp [ktail, rb_ok, rb_exn, rt_ok, rt_exn, rq_nx, rq_rt, rq_bk, rq_ct, rq_exn, m_ok, m_fail, okv_s, of_s, of_none, ite_s, ite_r, keep_va, keep_fr, sl_va, sl_ow, bl_r, in_r, ev_v, ev_c, ev_g, ev_bin, ev_neg, ev_cmp, ev_ch2, ev_isn, ev_isb, ev_and, ev_or, ev_not, ev_ife, ev_tup, ev_lst, ev_new, ev_ix, ev_sl, ev_call, ev_bi, ev_isi, ev_mt, lo_r, ce_r, ev_meth, ev_fld, ev_mk, ev_lc, nx_ok, lc_nil, evO_none, evO_some, evA_nil, evA_cons, evRs_nil, evRs_cons, evF_nil, evF_cons, tst_yes, ptst_of, ptst_and, ptst_or, ptst_not, truth_bl, truth_int, truth_lst, truth_non, op_r, evS_pass, evS_seq, evS_asg, evS_par, sls_va, sls_ow, evS_aug, evS_app, ls_s, evS_ext, evS_pop, evS_ex, re_va, re_fr, evS_ret, evS_retv, evS_retn, evS_ite, evS_while, loo_nx, loo_ct, loo_bk, loo_rt, evS_for, fo_nil, fo_cons, evS_brk, evS_cont, lo_s, in_s, evS_setfld, evS_augfld, li_s, nt_s, evS_setix, evS_try, ret_s, rr_rt, rr_nx, rr_exn, ix_lst, ix_tup, li_r, ix_loc, ix_str, ix_byt, add_int, add_str, add_tup, add_lst, sub_int, mul_int, div_int, mod_int, pow_int, ord_int, ord_str, cmp_lt, cmp_le, cmp_gt, cmp_ge, cmp_in, sl_lst, sl_scr, sl_tup, sl_byt, len_lst, len_tup, len_scr, len_str, len_byt, b_int, b_abs, b_tupl, b_lstl, b_lstt, b_lstb, aug_add, aug_sub, mk_l, mk_t, mk_s, is_1, is_2, is_3, is_4, is_5, is_6, is_7, se_va, se_fr, se_tu, ro_nil, ro_cons, bi_n, bi_t, bi_l, bl_n, bl_c, fz_nil, fz_cons, fz1_ow, fz1_va, fz1_un, wi_nil, wi_cons, it_l, it_t, it_c, it_s, it_r, it_zl, it_zt, it_e, non_1, non_2, non_3, non_4, non_5, non_6, atI_0, atI_1, atI_2, atI_3, atI_4, eq_int, ne_int, ne_byt, eq_byt, h2, Kd.t, big_v, wds, cut31, cut32, cut33]
  · refine ⟨.word 2, s2, ?_, KP1 _ _ trivial rfl rfl, I2⟩
    simp [ktail, rb_ok, rb_exn, rt_ok, rt_exn, rq_nx, rq_rt, rq_bk, rq_ct, rq_exn, m_ok, m_fail, okv_s, of_s, of_none, ite_s, ite_r, keep_va, keep_fr, sl_va, sl_ow, bl_r, in_r, ev_v, ev_c, ev_g, ev_bin, ev_neg, ev_cmp, ev_ch2, ev_isn, ev_isb, ev_and, ev_or, ev_not, ev_ife, ev_tup, ev_lst, ev_new, ev_ix, ev_sl, ev_call, ev_bi, ev_isi, ev_mt, lo_r, ce_r, ev_meth, ev_fld, ev_mk, ev_lc, nx_ok, lc_nil, evO_none, evO_some, evA_nil, evA_cons, evRs_nil, evRs_cons, evF_nil, evF_cons, tst_yes, ptst_of, ptst_and, ptst_or, ptst_not, truth_bl, truth_int, truth_lst, truth_non, op_r, evS_pass, evS_seq, evS_asg, evS_par, sls_va, sls_ow, evS_aug, evS_app, ls_s, evS_ext, evS_pop, evS_ex, re_va, re_fr, evS_ret, evS_retv, evS_retn, evS_ite, evS_while, loo_nx, loo_ct, loo_bk, loo_rt, evS_for, fo_nil, fo_cons, evS_brk, evS_cont, lo_s, in_s, evS_setfld, evS_augfld, li_s, nt_s, evS_setix, evS_try, ret_s, rr_rt, rr_nx, rr_exn, ix_lst, ix_tup, li_r, ix_loc, ix_str, ix_byt, add_int, add_str, add_tup, add_lst, sub_int, mul_int, div_int, mod_int, pow_int, ord_int, ord_str, cmp_lt, cmp_le, cmp_gt, cmp_ge, cmp_in, sl_lst, sl_scr, sl_tup, sl_byt, len_lst, len_tup, len_scr, len_str, len_byt, b_int, b_abs, b_tupl, b_lstl, b_lstt, b_lstb, aug_add, aug_sub, mk_l, mk_t, mk_s, is_1, is_2, is_3, is_4, is_5, is_6, is_7, se_va, se_fr, se_tu, ro_nil, ro_cons, bi_n, bi_t, bi_l, bl_n, bl_c, fz_nil, fz_cons, fz1_ow, fz1_va, fz1_un, wi_nil, wi_cons, it_l, it_t, it_c, it_s, it_r, it_zl, it_zt, it_e, non_1, non_2, non_3, non_4, non_5, non_6, atI_0, atI_1, atI_2, atI_3, atI_4, eq_int, ne_int, ne_byt, eq_byt, h2, Kd.t, big_v, wds, cut31, cut32, cut33]
def IH (m dp : Nat) : Prop := ∀ st, Inv st → ∃ k st', callF Γ m F__law_kind [.loc 0, .int (dp : Nat)] st = .ok (Kd.t k, .va) st' ∧ KP dp k ∧ Inv st'
theorem KP_s (dp : Nat) (k : Kd) (f : Kd → Kd) (h : KP dp k) (ho : (f k).ok = k.ok) (hd : (f k).deep = 1 + k.deep) (hp : (f k).parts = 1 + k.parts) : KP (dp + 1) (f k) := by
  obtain ⟨h1, h2, h3⟩ := h
  refine ⟨by rw [ho]; exact h1, by omega, ?_⟩
  rw [Nat.pow_succ, hp]
  omega
theorem KP_p (dp : Nat) (k l : Kd) (f : Kd → Kd → Kd) (h : KP dp k) (h' : KP dp l) (ho : (f k l).ok = (k.ok ∧ l.ok)) (hd : (f k l).deep = 1 + max k.deep l.deep) (hp : (f k l).parts = 1 + (k.parts + l.parts)) : KP (dp + 1) (f k l) := by
  obtain ⟨h1, h2, h3⟩ := h
  obtain ⟨h4, h5, h6⟩ := h'
  refine ⟨by rw [ho]; exact ⟨h1, h4⟩, by omega, ?_⟩
  rw [Nat.pow_succ, hp]
  omega
theorem dsub (dp : Nat) : ((dp + 1 : Nat) : Int) - 1 = (dp : Nat) := by omega
theorem kt2 (c2) (m dp : Nat) (ih : IH m dp) (st : Store) (I : Inv st) : ∃ k st', reR (evS Γ ⟨callF Γ m, c2⟩ ktail [.va (.loc 0), .va (.int (dp + 1 : Nat)), .va (.int 2), .un, .un, .un, .un, .un] st) = .ok (Kd.t k, .va) st' ∧ KP (dp + 1) k ∧ Inv st' := by
  obtain ⟨k, s1, h1, K, I1⟩ := ih st I
  refine ⟨.list k, s1, ?_, KP_s _ _ Kd.list K rfl rfl rfl, I1⟩
  simp [ktail, rb_ok, rb_exn, rt_ok, rt_exn, rq_nx, rq_rt, rq_bk, rq_ct, rq_exn, m_ok, m_fail, okv_s, of_s, of_none, ite_s, ite_r, keep_va, keep_fr, sl_va, sl_ow, bl_r, in_r, ev_v, ev_c, ev_g, ev_bin, ev_neg, ev_cmp, ev_ch2, ev_isn, ev_isb, ev_and, ev_or, ev_not, ev_ife, ev_tup, ev_lst, ev_new, ev_ix, ev_sl, ev_call, ev_bi, ev_isi, ev_mt, lo_r, ce_r, ev_meth, ev_fld, ev_mk, ev_lc, nx_ok, lc_nil, evO_none, evO_some, evA_nil, evA_cons, evRs_nil, evRs_cons, evF_nil, evF_cons, tst_yes, ptst_of, ptst_and, ptst_or, ptst_not, truth_bl, truth_int, truth_lst, truth_non, op_r, evS_pass, evS_seq, evS_asg, evS_par, sls_va, sls_ow, evS_aug, evS_app, ls_s, evS_ext, evS_pop, evS_ex, re_va, re_fr, evS_ret, evS_retv, evS_retn, evS_ite, evS_while, loo_nx, loo_ct, loo_bk, loo_rt, evS_for, fo_nil, fo_cons, evS_brk, evS_cont, lo_s, in_s, evS_setfld, evS_augfld, li_s, nt_s, evS_setix, evS_try, ret_s, rr_rt, rr_nx, rr_exn, ix_lst, ix_tup, li_r, ix_loc, ix_str, ix_byt, add_int, add_str, add_tup, add_lst, sub_int, mul_int, div_int, mod_int, pow_int, ord_int, ord_str, cmp_lt, cmp_le, cmp_gt, cmp_ge, cmp_in, sl_lst, sl_scr, sl_tup, sl_byt, len_lst, len_tup, len_scr, len_str, len_byt, b_int, b_abs, b_tupl, b_lstl, b_lstt, b_lstb, aug_add, aug_sub, mk_l, mk_t, mk_s, is_1, is_2, is_3, is_4, is_5, is_6, is_7, se_va, se_fr, se_tu, ro_nil, ro_cons, bi_n, bi_t, bi_l, bl_n, bl_c, fz_nil, fz_cons, fz1_ow, fz1_va, fz1_un, wi_nil, wi_cons, it_l, it_t, it_c, it_s, it_r, it_zl, it_zt, it_e, non_1, non_2, non_3, non_4, non_5, non_6, atI_0, atI_1, atI_2, atI_3, atI_4, eq_int, ne_int, ne_byt, eq_byt, h1, Kd.t, big_v, -Int.natCast_add, dsub]
theorem kt3 (c2) (m dp : Nat) (hm : 1 ≤ m) (ih : IH m dp) (st : Store) (I : Inv st) : ∃ k st', reR (evS Γ ⟨callF Γ m, c2⟩ ktail [.va (.loc 0), .va (.int (dp + 1 : Nat)), .va (.int 3), .un, .un, .un, .un, .un] st) = .ok (Kd.t k, .va) st' ∧ KP (dp + 1) k ∧ Inv st' := by
  obtain ⟨b, s1, h1, b0, b1, I1⟩ := draw m hm 2 (by omega) (by omega) st I
  obtain ⟨k, s2, h2, K, I2⟩ := ih s1 I1
  have hb : b = 0 ∨ b = 1 := by omega
  rcases hb with rfl | rfl
  · obtain ⟨c, s3, h3, c0, c1, I3⟩ := draw m hm 2 (by omega) (by omega) s2 I2
    refine ⟨.cho1 k, s3, ?_, KP_s _ _ Kd.cho1 K rfl rfl rfl, I3⟩
    by_cases hc : c = 0
    · simp [ktail, rb_ok, rb_exn, rt_ok, rt_exn, rq_nx, rq_rt, rq_bk, rq_ct, rq_exn, m_ok, m_fail, okv_s, of_s, of_none, ite_s, ite_r, keep_va, keep_fr, sl_va, sl_ow, bl_r, in_r, ev_v, ev_c, ev_g, ev_bin, ev_neg, ev_cmp, ev_ch2, ev_isn, ev_isb, ev_and, ev_or, ev_not, ev_ife, ev_tup, ev_lst, ev_new, ev_ix, ev_sl, ev_call, ev_bi, ev_isi, ev_mt, lo_r, ce_r, ev_meth, ev_fld, ev_mk, ev_lc, nx_ok, lc_nil, evO_none, evO_some, evA_nil, evA_cons, evRs_nil, evRs_cons, evF_nil, evF_cons, tst_yes, ptst_of, ptst_and, ptst_or, ptst_not, truth_bl, truth_int, truth_lst, truth_non, op_r, evS_pass, evS_seq, evS_asg, evS_par, sls_va, sls_ow, evS_aug, evS_app, ls_s, evS_ext, evS_pop, evS_ex, re_va, re_fr, evS_ret, evS_retv, evS_retn, evS_ite, evS_while, loo_nx, loo_ct, loo_bk, loo_rt, evS_for, fo_nil, fo_cons, evS_brk, evS_cont, lo_s, in_s, evS_setfld, evS_augfld, li_s, nt_s, evS_setix, evS_try, ret_s, rr_rt, rr_nx, rr_exn, ix_lst, ix_tup, li_r, ix_loc, ix_str, ix_byt, add_int, add_str, add_tup, add_lst, sub_int, mul_int, div_int, mod_int, pow_int, ord_int, ord_str, cmp_lt, cmp_le, cmp_gt, cmp_ge, cmp_in, sl_lst, sl_scr, sl_tup, sl_byt, len_lst, len_tup, len_scr, len_str, len_byt, b_int, b_abs, b_tupl, b_lstl, b_lstt, b_lstb, aug_add, aug_sub, mk_l, mk_t, mk_s, is_1, is_2, is_3, is_4, is_5, is_6, is_7, se_va, se_fr, se_tu, ro_nil, ro_cons, bi_n, bi_t, bi_l, bl_n, bl_c, fz_nil, fz_cons, fz1_ow, fz1_va, fz1_un, wi_nil, wi_cons, it_l, it_t, it_c, it_s, it_r, it_zl, it_zt, it_e, non_1, non_2, non_3, non_4, non_5, non_6, atI_0, atI_1, atI_2, atI_3, atI_4, eq_int, ne_int, ne_byt, eq_byt, h1, h2, h3, Kd.t, big_v, -Int.natCast_add, dsub, cut21, cut22, lc_cons, lcK, hc]
    · simp [ktail, rb_ok, rb_exn, rt_ok, rt_exn, rq_nx, rq_rt, rq_bk, rq_ct, rq_exn, m_ok, m_fail, okv_s, of_s, of_none, ite_s, ite_r, keep_va, keep_fr, sl_va, sl_ow, bl_r, in_r, ev_v, ev_c, ev_g, ev_bin, ev_neg, ev_cmp, ev_ch2, ev_isn, ev_isb, ev_and, ev_or, ev_not, ev_ife, ev_tup, ev_lst, ev_new, ev_ix, ev_sl, ev_call, ev_bi, ev_isi, ev_mt, lo_r, ce_r, ev_meth, ev_fld, ev_mk, ev_lc, nx_ok, lc_nil, evO_none, evO_some, evA_nil, evA_cons, evRs_nil, evRs_cons, evF_nil, evF_cons, tst_yes, ptst_of, ptst_and, ptst_or, ptst_not, truth_bl, truth_int, truth_lst, truth_non, op_r, evS_pass, evS_seq, evS_asg, evS_par, sls_va, sls_ow, evS_aug, evS_app, ls_s, evS_ext, evS_pop, evS_ex, re_va, re_fr, evS_ret, evS_retv, evS_retn, evS_ite, evS_while, loo_nx, loo_ct, loo_bk, loo_rt, evS_for, fo_nil, fo_cons, evS_brk, evS_cont, lo_s, in_s, evS_setfld, evS_augfld, li_s, nt_s, evS_setix, evS_try, ret_s, rr_rt, rr_nx, rr_exn, ix_lst, ix_tup, li_r, ix_loc, ix_str, ix_byt, add_int, add_str, add_tup, add_lst, sub_int, mul_int, div_int, mod_int, pow_int, ord_int, ord_str, cmp_lt, cmp_le, cmp_gt, cmp_ge, cmp_in, sl_lst, sl_scr, sl_tup, sl_byt, len_lst, len_tup, len_scr, len_str, len_byt, b_int, b_abs, b_tupl, b_lstl, b_lstt, b_lstb, aug_add, aug_sub, mk_l, mk_t, mk_s, is_1, is_2, is_3, is_4, is_5, is_6, is_7, se_va, se_fr, se_tu, ro_nil, ro_cons, bi_n, bi_t, bi_l, bl_n, bl_c, fz_nil, fz_cons, fz1_ow, fz1_va, fz1_un, wi_nil, wi_cons, it_l, it_t, it_c, it_s, it_r, it_zl, it_zt, it_e, non_1, non_2, non_3, non_4, non_5, non_6, atI_0, atI_1, atI_2, atI_3, atI_4, eq_int, ne_int, ne_byt, eq_byt, h1, h2, h3, Kd.t, big_v, -Int.natCast_add, dsub, cut21, cut22, lc_cons, lcK, hc]
  · obtain ⟨l, s3, h3, L, I3⟩ := ih s2 I2
    obtain ⟨c, s4, h4, c0, c1, I4⟩ := draw m hm 2 (by omega) (by omega) s3 I3
    by_cases hc : c = 0
    · refine ⟨.cho2 k k, s4, ?_, KP_p _ _ _ Kd.cho2 K K rfl rfl rfl, I4⟩
      simp [ktail, rb_ok, rb_exn, rt_ok, rt_exn, rq_nx, rq_rt, rq_bk, rq_ct, rq_exn, m_ok, m_fail, okv_s, of_s, of_none, ite_s, ite_r, keep_va, keep_fr, sl_va, sl_ow, bl_r, in_r, ev_v, ev_c, ev_g, ev_bin, ev_neg, ev_cmp, ev_ch2, ev_isn, ev_isb, ev_and, ev_or, ev_not, ev_ife, ev_tup, ev_lst, ev_new, ev_ix, ev_sl, ev_call, ev_bi, ev_isi, ev_mt, lo_r, ce_r, ev_meth, ev_fld, ev_mk, ev_lc, nx_ok, lc_nil, evO_none, evO_some, evA_nil, evA_cons, evRs_nil, evRs_cons, evF_nil, evF_cons, tst_yes, ptst_of, ptst_and, ptst_or, ptst_not, truth_bl, truth_int, truth_lst, truth_non, op_r, evS_pass, evS_seq, evS_asg, evS_par, sls_va, sls_ow, evS_aug, evS_app, ls_s, evS_ext, evS_pop, evS_ex, re_va, re_fr, evS_ret, evS_retv, evS_retn, evS_ite, evS_while, loo_nx, loo_ct, loo_bk, loo_rt, evS_for, fo_nil, fo_cons, evS_brk, evS_cont, lo_s, in_s, evS_setfld, evS_augfld, li_s, nt_s, evS_setix, evS_try, ret_s, rr_rt, rr_nx, rr_exn, ix_lst, ix_tup, li_r, ix_loc, ix_str, ix_byt, add_int, add_str, add_tup, add_lst, sub_int, mul_int, div_int, mod_int, pow_int, ord_int, ord_str, cmp_lt, cmp_le, cmp_gt, cmp_ge, cmp_in, sl_lst, sl_scr, sl_tup, sl_byt, len_lst, len_tup, len_scr, len_str, len_byt, b_int, b_abs, b_tupl, b_lstl, b_lstt, b_lstb, aug_add, aug_sub, mk_l, mk_t, mk_s, is_1, is_2, is_3, is_4, is_5, is_6, is_7, se_va, se_fr, se_tu, ro_nil, ro_cons, bi_n, bi_t, bi_l, bl_n, bl_c, fz_nil, fz_cons, fz1_ow, fz1_va, fz1_un, wi_nil, wi_cons, it_l, it_t, it_c, it_s, it_r, it_zl, it_zt, it_e, non_1, non_2, non_3, non_4, non_5, non_6, atI_0, atI_1, atI_2, atI_3, atI_4, eq_int, ne_int, ne_byt, eq_byt, h1, h2, h3, h4, Kd.t, big_v, -Int.natCast_add, dsub, cut21, cut22, lc_cons, lcK, hc]
    · refine ⟨.cho2 k l, s4, ?_, KP_p _ _ _ Kd.cho2 K L rfl rfl rfl, I4⟩
      simp [ktail, rb_ok, rb_exn, rt_ok, rt_exn, rq_nx, rq_rt, rq_bk, rq_ct, rq_exn, m_ok, m_fail, okv_s, of_s, of_none, ite_s, ite_r, keep_va, keep_fr, sl_va, sl_ow, bl_r, in_r, ev_v, ev_c, ev_g, ev_bin, ev_neg, ev_cmp, ev_ch2, ev_isn, ev_isb, ev_and, ev_or, ev_not, ev_ife, ev_tup, ev_lst, ev_new, ev_ix, ev_sl, ev_call, ev_bi, ev_isi, ev_mt, lo_r, ce_r, ev_meth, ev_fld, ev_mk, ev_lc, nx_ok, lc_nil, evO_none, evO_some, evA_nil, evA_cons, evRs_nil, evRs_cons, evF_nil, evF_cons, tst_yes, ptst_of, ptst_and, ptst_or, ptst_not, truth_bl, truth_int, truth_lst, truth_non, op_r, evS_pass, evS_seq, evS_asg, evS_par, sls_va, sls_ow, evS_aug, evS_app, ls_s, evS_ext, evS_pop, evS_ex, re_va, re_fr, evS_ret, evS_retv, evS_retn, evS_ite, evS_while, loo_nx, loo_ct, loo_bk, loo_rt, evS_for, fo_nil, fo_cons, evS_brk, evS_cont, lo_s, in_s, evS_setfld, evS_augfld, li_s, nt_s, evS_setix, evS_try, ret_s, rr_rt, rr_nx, rr_exn, ix_lst, ix_tup, li_r, ix_loc, ix_str, ix_byt, add_int, add_str, add_tup, add_lst, sub_int, mul_int, div_int, mod_int, pow_int, ord_int, ord_str, cmp_lt, cmp_le, cmp_gt, cmp_ge, cmp_in, sl_lst, sl_scr, sl_tup, sl_byt, len_lst, len_tup, len_scr, len_str, len_byt, b_int, b_abs, b_tupl, b_lstl, b_lstt, b_lstb, aug_add, aug_sub, mk_l, mk_t, mk_s, is_1, is_2, is_3, is_4, is_5, is_6, is_7, se_va, se_fr, se_tu, ro_nil, ro_cons, bi_n, bi_t, bi_l, bl_n, bl_c, fz_nil, fz_cons, fz1_ow, fz1_va, fz1_un, wi_nil, wi_cons, it_l, it_t, it_c, it_s, it_r, it_zl, it_zt, it_e, non_1, non_2, non_3, non_4, non_5, non_6, atI_0, atI_1, atI_2, atI_3, atI_4, eq_int, ne_int, ne_byt, eq_byt, h1, h2, h3, h4, Kd.t, big_v, -Int.natCast_add, dsub, cut21, cut22, lc_cons, lcK, hc]
theorem kt4 (c2) (m dp : Nat) (hm : 1 ≤ m) (ih : IH m dp) (w : Int) (hw : 4 ≤ w) (st : Store) (I : Inv st) : ∃ k st', reR (evS Γ ⟨callF Γ m, c2⟩ ktail [.va (.loc 0), .va (.int (dp + 1 : Nat)), .va (.int w), .un, .un, .un, .un, .un] st) = .ok (Kd.t k, .va) st' ∧ KP (dp + 1) k ∧ Inv st' := by
  obtain ⟨b, s1, h1, b0, b1, I1⟩ := draw m hm 2 (by omega) (by omega) st I
  obtain ⟨k, s2, h2, K, I2⟩ := ih s1 I1
  have w0 : ¬ w = 0 := by omega
  have w1 : ¬ w = 1 := by omega
  have w2 : ¬ w = 2 := by omega
  have w3 : ¬ w = 3 := by omega
  have hb : b = 0 ∨ b = 1 := by omega
  rcases hb with rfl | rfl
  · refine ⟨.rec1 k, s2, ?_, KP_s _ _ Kd.rec1 K rfl rfl rfl, I2⟩
    simp [ktail, rb_ok, rb_exn, rt_ok, rt_exn, rq_nx, rq_rt, rq_bk, rq_ct, rq_exn, m_ok, m_fail, okv_s, of_s, of_none, ite_s, ite_r, keep_va, keep_fr, sl_va, sl_ow, bl_r, in_r, ev_v, ev_c, ev_g, ev_bin, ev_neg, ev_cmp, ev_ch2, ev_isn, ev_isb, ev_and, ev_or, ev_not, ev_ife, ev_tup, ev_lst, ev_new, ev_ix, ev_sl, ev_call, ev_bi, ev_isi, ev_mt, lo_r, ce_r, ev_meth, ev_fld, ev_mk, ev_lc, nx_ok, lc_nil, evO_none, evO_some, evA_nil, evA_cons, evRs_nil, evRs_cons, evF_nil, evF_cons, tst_yes, ptst_of, ptst_and, ptst_or, ptst_not, truth_bl, truth_int, truth_lst, truth_non, op_r, evS_pass, evS_seq, evS_asg, evS_par, sls_va, sls_ow, evS_aug, evS_app, ls_s, evS_ext, evS_pop, evS_ex, re_va, re_fr, evS_ret, evS_retv, evS_retn, evS_ite, evS_while, loo_nx, loo_ct, loo_bk, loo_rt, evS_for, fo_nil, fo_cons, evS_brk, evS_cont, lo_s, in_s, evS_setfld, evS_augfld, li_s, nt_s, evS_setix, evS_try, ret_s, rr_rt, rr_nx, rr_exn, ix_lst, ix_tup, li_r, ix_loc, ix_str, ix_byt, add_int, add_str, add_tup, add_lst, sub_int, mul_int, div_int, mod_int, pow_int, ord_int, ord_str, cmp_lt, cmp_le, cmp_gt, cmp_ge, cmp_in, sl_lst, sl_scr, sl_tup, sl_byt, len_lst, len_tup, len_scr, len_str, len_byt, b_int, b_abs, b_tupl, b_lstl, b_lstt, b_lstb, aug_add, aug_sub, mk_l, mk_t, mk_s, is_1, is_2, is_3, is_4, is_5, is_6, is_7, se_va, se_fr, se_tu, ro_nil, ro_cons, bi_n, bi_t, bi_l, bl_n, bl_c, fz_nil, fz_cons, fz1_ow, fz1_va, fz1_un, wi_nil, wi_cons, it_l, it_t, it_c, it_s, it_r, it_zl, it_zt, it_e, non_1, non_2, non_3, non_4, non_5, non_6, atI_0, atI_1, atI_2, atI_3, atI_4, eq_int, ne_int, ne_byt, eq_byt, h1, h2, Kd.t, big_v, -Int.natCast_add, dsub, cut21, cut22, lc_cons, lcK, w0, w1, w2, w3]
  · obtain ⟨l, s3, h3, L, I3⟩ := ih s2 I2
    refine ⟨.rec2 k l, s3, ?_, KP_p _ _ _ Kd.rec2 K L rfl rfl rfl, I3⟩
    simp [ktail, rb_ok, rb_exn, rt_ok, rt_exn, rq_nx, rq_rt, rq_bk, rq_ct, rq_exn, m_ok, m_fail, okv_s, of_s, of_none, ite_s, ite_r, keep_va, keep_fr, sl_va, sl_ow, bl_r, in_r, ev_v, ev_c, ev_g, ev_bin, ev_neg, ev_cmp, ev_ch2, ev_isn, ev_isb, ev_and, ev_or, ev_not, ev_ife, ev_tup, ev_lst, ev_new, ev_ix, ev_sl, ev_call, ev_bi, ev_isi, ev_mt, lo_r, ce_r, ev_meth, ev_fld, ev_mk, ev_lc, nx_ok, lc_nil, evO_none, evO_some, evA_nil, evA_cons, evRs_nil, evRs_cons, evF_nil, evF_cons, tst_yes, ptst_of, ptst_and, ptst_or, ptst_not, truth_bl, truth_int, truth_lst, truth_non, op_r, evS_pass, evS_seq, evS_asg, evS_par, sls_va, sls_ow, evS_aug, evS_app, ls_s, evS_ext, evS_pop, evS_ex, re_va, re_fr, evS_ret, evS_retv, evS_retn, evS_ite, evS_while, loo_nx, loo_ct, loo_bk, loo_rt, evS_for, fo_nil, fo_cons, evS_brk, evS_cont, lo_s, in_s, evS_setfld, evS_augfld, li_s, nt_s, evS_setix, evS_try, ret_s, rr_rt, rr_nx, rr_exn, ix_lst, ix_tup, li_r, ix_loc, ix_str, ix_byt, add_int, add_str, add_tup, add_lst, sub_int, mul_int, div_int, mod_int, pow_int, ord_int, ord_str, cmp_lt, cmp_le, cmp_gt, cmp_ge, cmp_in, sl_lst, sl_scr, sl_tup, sl_byt, len_lst, len_tup, len_scr, len_str, len_byt, b_int, b_abs, b_tupl, b_lstl, b_lstt, b_lstb, aug_add, aug_sub, mk_l, mk_t, mk_s, is_1, is_2, is_3, is_4, is_5, is_6, is_7, se_va, se_fr, se_tu, ro_nil, ro_cons, bi_n, bi_t, bi_l, bl_n, bl_c, fz_nil, fz_cons, fz1_ow, fz1_va, fz1_un, wi_nil, wi_cons, it_l, it_t, it_c, it_s, it_r, it_zl, it_zt, it_e, non_1, non_2, non_3, non_4, non_5, non_6, atI_0, atI_1, atI_2, atI_3, atI_4, eq_int, ne_int, ne_byt, eq_byt, h1, h2, h3, Kd.t, big_v, -Int.natCast_add, dsub, cut21, cut22, lc_cons, lcK, w0, w1, w2, w3]
theorem kind_ok : ∀ (dp n : Nat), dp + 2 ≤ n → IH n dp
  | 0, n, hn => fun st I => by
    obtain ⟨m, rfl⟩ : ∃ m, n = m + 1 := ⟨n - 1, by omega⟩
    obtain ⟨d, s1, h1, d0, d1, I1⟩ := draw m (by omega) 2 (by omega) (by omega) st I
    rw [c__law_kind, kbody]
    have hd : d = 0 ∨ d = 1 := by omega
    rcases hd with rfl | rfl
    · obtain ⟨k, s2, h2, K⟩ := kt0 (callF Γ (m - 1)) m (by omega) 0 0 s1 I1
      refine ⟨k, s2, ?_, K⟩
      rw [← h2]
      simp [rb_ok, rb_exn, rt_ok, rt_exn, rq_nx, rq_rt, rq_bk, rq_ct, rq_exn, m_ok, m_fail, okv_s, of_s, of_none, ite_s, ite_r, keep_va, keep_fr, sl_va, sl_ow, bl_r, in_r, ev_v, ev_c, ev_g, ev_bin, ev_neg, ev_cmp, ev_ch2, ev_isn, ev_isb, ev_and, ev_or, ev_not, ev_ife, ev_tup, ev_lst, ev_new, ev_ix, ev_sl, ev_call, ev_bi, ev_isi, ev_mt, lo_r, ce_r, ev_meth, ev_fld, ev_mk, ev_lc, nx_ok, lc_nil, evO_none, evO_some, evA_nil, evA_cons, evRs_nil, evRs_cons, evF_nil, evF_cons, tst_yes, ptst_of, ptst_and, ptst_or, ptst_not, truth_bl, truth_int, truth_lst, truth_non, op_r, evS_pass, evS_seq, evS_asg, evS_par, sls_va, sls_ow, evS_aug, evS_app, ls_s, evS_ext, evS_pop, evS_ex, re_va, re_fr, evS_ret, evS_retv, evS_retn, evS_ite, evS_while, loo_nx, loo_ct, loo_bk, loo_rt, evS_for, fo_nil, fo_cons, evS_brk, evS_cont, lo_s, in_s, evS_setfld, evS_augfld, li_s, nt_s, evS_setix, evS_try, ret_s, rr_rt, rr_nx, rr_exn, ix_lst, ix_tup, li_r, ix_loc, ix_str, ix_byt, add_int, add_str, add_tup, add_lst, sub_int, mul_int, div_int, mod_int, pow_int, ord_int, ord_str, cmp_lt, cmp_le, cmp_gt, cmp_ge, cmp_in, sl_lst, sl_scr, sl_tup, sl_byt, len_lst, len_tup, len_scr, len_str, len_byt, b_int, b_abs, b_tupl, b_lstl, b_lstt, b_lstb, aug_add, aug_sub, mk_l, mk_t, mk_s, is_1, is_2, is_3, is_4, is_5, is_6, is_7, se_va, se_fr, se_tu, ro_nil, ro_cons, bi_n, bi_t, bi_l, bl_n, bl_c, fz_nil, fz_cons, fz1_ow, fz1_va, fz1_un, wi_nil, wi_cons, it_l, it_t, it_c, it_s, it_r, it_zl, it_zt, it_e, non_1, non_2, non_3, non_4, non_5, non_6, atI_0, atI_1, atI_2, atI_3, atI_4, eq_int, ne_int, ne_byt, eq_byt, h1]
    · obtain ⟨k, s2, h2, K⟩ := kt1 (callF Γ (m - 1)) m (by omega) 0 0 s1 I1
      refine ⟨k, s2, ?_, K⟩
      rw [← h2]
      simp [rb_ok, rb_exn, rt_ok, rt_exn, rq_nx, rq_rt, rq_bk, rq_ct, rq_exn, m_ok, m_fail, okv_s, of_s, of_none, ite_s, ite_r, keep_va, keep_fr, sl_va, sl_ow, bl_r, in_r, ev_v, ev_c, ev_g, ev_bin, ev_neg, ev_cmp, ev_ch2, ev_isn, ev_isb, ev_and, ev_or, ev_not, ev_ife, ev_tup, ev_lst, ev_new, ev_ix, ev_sl, ev_call, ev_bi, ev_isi, ev_mt, lo_r, ce_r, ev_meth, ev_fld, ev_mk, ev_lc, nx_ok, lc_nil, evO_none, evO_some, evA_nil, evA_cons, evRs_nil, evRs_cons, evF_nil, evF_cons, tst_yes, ptst_of, ptst_and, ptst_or, ptst_not, truth_bl, truth_int, truth_lst, truth_non, op_r, evS_pass, evS_seq, evS_asg, evS_par, sls_va, sls_ow, evS_aug, evS_app, ls_s, evS_ext, evS_pop, evS_ex, re_va, re_fr, evS_ret, evS_retv, evS_retn, evS_ite, evS_while, loo_nx, loo_ct, loo_bk, loo_rt, evS_for, fo_nil, fo_cons, evS_brk, evS_cont, lo_s, in_s, evS_setfld, evS_augfld, li_s, nt_s, evS_setix, evS_try, ret_s, rr_rt, rr_nx, rr_exn, ix_lst, ix_tup, li_r, ix_loc, ix_str, ix_byt, add_int, add_str, add_tup, add_lst, sub_int, mul_int, div_int, mod_int, pow_int, ord_int, ord_str, cmp_lt, cmp_le, cmp_gt, cmp_ge, cmp_in, sl_lst, sl_scr, sl_tup, sl_byt, len_lst, len_tup, len_scr, len_str, len_byt, b_int, b_abs, b_tupl, b_lstl, b_lstt, b_lstb, aug_add, aug_sub, mk_l, mk_t, mk_s, is_1, is_2, is_3, is_4, is_5, is_6, is_7, se_va, se_fr, se_tu, ro_nil, ro_cons, bi_n, bi_t, bi_l, bl_n, bl_c, fz_nil, fz_cons, fz1_ow, fz1_va, fz1_un, wi_nil, wi_cons, it_l, it_t, it_c, it_s, it_r, it_zl, it_zt, it_e, non_1, non_2, non_3, non_4, non_5, non_6, atI_0, atI_1, atI_2, atI_3, atI_4, eq_int, ne_int, ne_byt, eq_byt, h1]
  | dp + 1, n, hn => fun st I => by
    obtain ⟨m, rfl⟩ : ∃ m, n = m + 1 := ⟨n - 1, by omega⟩
    have ih := kind_ok dp m (by omega)
    obtain ⟨d, s1, h1, d0, d1, I1⟩ := draw m (by omega) 6 (by omega) (by omega) st I
    rw [c__law_kind, kbody]
    have hz : (0 : Int) < (dp + 1 : Nat) := by omega
    have fin : ∀ d : Int, callF Γ m F__law_draw [.loc 0, .int 6] st = .ok (.int d, .va) s1 → retOf (evS Γ ⟨callF Γ m, callF Γ (m - 1)⟩ (.seq (.asg [0] (.n 2) (.call F__law_draw (.cons (.v 0) (.cons (.ife (.of (.cmp .gt (.v 1) (.c (.int 0)))) (.c (.int 6)) (.c (.int 2))) .nil)))) ktail) [.va (.loc 0), .va (.int (dp + 1 : Nat)), .un, .un, .un, .un, .un, .un]) st = reR (evS Γ ⟨callF Γ m, callF Γ (m - 1)⟩ ktail [.va (.loc 0), .va (.int (dp + 1 : Nat)), .va (.int d), .un, .un, .un, .un, .un] s1) := by
      intro d h1
      simp [rb_ok, rb_exn, rt_ok, rt_exn, rq_nx, rq_rt, rq_bk, rq_ct, rq_exn, m_ok, m_fail, okv_s, of_s, of_none, ite_s, ite_r, keep_va, keep_fr, sl_va, sl_ow, bl_r, in_r, ev_v, ev_c, ev_g, ev_bin, ev_neg, ev_cmp, ev_ch2, ev_isn, ev_isb, ev_and, ev_or, ev_not, ev_ife, ev_tup, ev_lst, ev_new, ev_ix, ev_sl, ev_call, ev_bi, ev_isi, ev_mt, lo_r, ce_r, ev_meth, ev_fld, ev_mk, ev_lc, nx_ok, lc_nil, evO_none, evO_some, evA_nil, evA_cons, evRs_nil, evRs_cons, evF_nil, evF_cons, tst_yes, ptst_of, ptst_and, ptst_or, ptst_not, truth_bl, truth_int, truth_lst, truth_non, op_r, evS_pass, evS_seq, evS_asg, evS_par, sls_va, sls_ow, evS_aug, evS_app, ls_s, evS_ext, evS_pop, evS_ex, re_va, re_fr, evS_ret, evS_retv, evS_retn, evS_ite, evS_while, loo_nx, loo_ct, loo_bk, loo_rt, evS_for, fo_nil, fo_cons, evS_brk, evS_cont, lo_s, in_s, evS_setfld, evS_augfld, li_s, nt_s, evS_setix, evS_try, ret_s, rr_rt, rr_nx, rr_exn, ix_lst, ix_tup, li_r, ix_loc, ix_str, ix_byt, add_int, add_str, add_tup, add_lst, sub_int, mul_int, div_int, mod_int, pow_int, ord_int, ord_str, cmp_lt, cmp_le, cmp_gt, cmp_ge, cmp_in, sl_lst, sl_scr, sl_tup, sl_byt, len_lst, len_tup, len_scr, len_str, len_byt, b_int, b_abs, b_tupl, b_lstl, b_lstt, b_lstb, aug_add, aug_sub, mk_l, mk_t, mk_s, is_1, is_2, is_3, is_4, is_5, is_6, is_7, se_va, se_fr, se_tu, ro_nil, ro_cons, bi_n, bi_t, bi_l, bl_n, bl_c, fz_nil, fz_cons, fz1_ow, fz1_va, fz1_un, wi_nil, wi_cons, it_l, it_t, it_c, it_s, it_r, it_zl, it_zt, it_e, non_1, non_2, non_3, non_4, non_5, non_6, atI_0, atI_1, atI_2, atI_3, atI_4, eq_int, ne_int, ne_byt, eq_byt, h1, -Int.natCast_add, hz]
    rw [fin d h1]
    by_cases e0 : d = 0
    · rw [e0]; exact kt0 _ m (by omega) _ _ s1 I1
    by_cases e1 : d = 1
    · rw [e1]; exact kt1 _ m (by omega) _ _ s1 I1
    by_cases e2 : d = 2
    · rw [e2]; exact kt2 _ m dp ih s1 I1
    by_cases e3 : d = 3
    · rw [e3]; exact kt3 _ m dp (by omega) ih s1 I1
    exact kt4 _ m dp (by omega) ih d (by omega) s1 I1
end D


set_option Elab.async false
set_option linter.all false
set_option maxRecDepth 100000
set_option maxHeartbeats 0
namespace D
open PySem G
/-! ### kinds are alike to themselves -/
theorem cl_tup (xs : List PyData) : PyData.canLay0 (.tuple xs) = PyData.canLayAll0 xs := rfl
theorem cl_int (i : Int) : PyData.canLay0 (.int i) = true := rfl
theorem cl_nil : PyData.canLayAll0 [] = true := rfl
theorem cl_cons (x : PyData) (xs : List PyData) : PyData.canLayAll0 (x :: xs) = (PyData.canLay0 x && PyData.canLayAll0 xs) := rfl
theorem dp_tup (xs : List PyData) : PyData.depth (.tuple xs) = PyData.depthAll xs + 1 := rfl
theorem dp_int (i : Int) : PyData.depth (.int i) = 0 := rfl
theorem dp_str (i : Str) : PyData.depth (.str i) = 0 := rfl
theorem dp_nil : PyData.depthAll [] = 0 := rfl
theorem dp_cons (x : PyData) (xs : List PyData) : PyData.depthAll (x :: xs) = max (PyData.depth x) (PyData.depthAll xs) := rfl
def KD (k : Kd) : Prop := ∃ d, k.t.D? = some d ∧ d.canLay0 = true ∧ d.depth ≤ 3 * k.deep
theorem wD (n : Nat) : ∃ d, (T.tup (wds n)).D? = some d ∧ d.canLay0 = true ∧ d.depth ≤ 1 := by
  unfold wds
  split
  · exact ⟨_, rfl, by decide +kernel, by decide⟩
  · exact ⟨_, rfl, by decide +kernel, by decide⟩
  · exact ⟨_, rfl, by decide +kernel, by decide⟩
theorem D_tup2 {a b : T} {x y : PyData} (h1 : a.D? = some x) (h2 : b.D? = some y) : (T.tup [a, b]).D? = some (.tuple [x, y]) := by simp [T.D?, T.Ds?, h1, h2]
theorem D_tup1 {a : T} {x : PyData} (h1 : a.D? = some x) : (T.tup [a]).D? = some (.tuple [x]) := by simp [T.D?, T.Ds?, h1]
theorem D_str (l : List Nat) : (T.str l).D? = some (.str (toS l)) := rfl
theorem ls_of (a : List Nat) (h : okS a = true) : PyData.canLay0 (.str (toS a)) = true := SeqAt.canLay_of_shaped h
theorem l_int : PyData.canLay0 (.str (toS [105, 110, 116])) = true := by decide +kernel
theorem l_word : PyData.canLay0 (.str (toS [119, 111, 114, 100])) = true := by decide +kernel
theorem l_list : PyData.canLay0 (.str (toS [108, 105, 115, 116])) = true := by decide +kernel
theorem l_rec : PyData.canLay0 (.str (toS [114, 101, 99])) = true := by decide +kernel
theorem l_cho : PyData.canLay0 (.str (toS [99, 104, 111, 105, 99, 101])) = true := by decide +kernel
theorem l_p : PyData.canLay0 (.str (toS [112])) = true := by decide +kernel
theorem l_q : PyData.canLay0 (.str (toS [113])) = true := by decide +kernel
theorem l_s : PyData.canLay0 (.str (toS [115])) = true := by decide +kernel
theorem l_t : PyData.canLay0 (.str (toS [116])) = true := by decide +kernel
theorem kD1 (w s : List Nat) (k : Kd) (hw : PyData.canLay0 (.str (toS w)) = true) (hs : PyData.canLay0 (.str (toS s)) = true) (h : KD k) : ∃ d, (T.tup [.str w, .tup [.tup [.str s, k.t]]]).D? = some d ∧ d.canLay0 = true ∧ d.depth ≤ 3 * (1 + k.deep) := by
  obtain ⟨d, h1, h2, h3⟩ := h
  refine ⟨_, D_tup2 (D_str _) (D_tup1 (D_tup2 (D_str _) h1)), ?_, ?_⟩
  · rw [cl_tup, cl_cons, cl_cons, cl_tup, cl_cons, cl_tup, cl_cons, cl_cons, hw, hs, h2]; rfl
  · simp [dp_tup, dp_cons, dp_nil, dp_str]; omega
theorem kD2 (w s s' : List Nat) (k l : Kd) (hw : PyData.canLay0 (.str (toS w)) = true) (hs : PyData.canLay0 (.str (toS s)) = true) (hs' : PyData.canLay0 (.str (toS s')) = true) (h : KD k) (h' : KD l) : ∃ d, (T.tup [.str w, .tup [.tup [.str s, k.t], .tup [.str s', l.t]]]).D? = some d ∧ d.canLay0 = true ∧ d.depth ≤ 3 * (1 + max k.deep l.deep) := by
  obtain ⟨d, h1, h2, h3⟩ := h
  obtain ⟨e, h4, h5, h6⟩ := h'
  refine ⟨_, D_tup2 (D_str _) (D_tup2 (D_tup2 (D_str _) h1) (D_tup2 (D_str _) h4)), ?_, ?_⟩
  · rw [cl_tup, cl_cons, cl_cons, cl_tup, cl_cons, cl_cons, cl_tup, cl_tup, cl_cons, cl_cons, cl_cons, cl_cons, hw, hs, hs', h2, h5]; rfl
  · simp [dp_tup, dp_cons, dp_nil, dp_str]; omega
theorem kD : ∀ k : Kd, KD k
  | .int a b => ⟨.tuple [.str (toS [105, 110, 116]), .int a, .int b], rfl, by rw [cl_tup, cl_cons, cl_cons, cl_cons, cl_int, cl_int, l_int]; rfl, by simp [dp_tup, dp_cons, dp_nil, dp_str, dp_int, Kd.deep]⟩
  | .word n => by
    obtain ⟨d, h1, h2, h3⟩ := wD n
    refine ⟨_, D_tup2 (D_str _) h1, ?_, ?_⟩
    · rw [cl_tup, cl_cons, cl_cons, h2, l_word]; rfl
    · simp [dp_tup, dp_cons, dp_nil, dp_str, Kd.deep]; omega
  | .list k => by
    obtain ⟨d, h1, h2, h3⟩ := kD k
    refine ⟨_, D_tup2 (D_str _) h1, ?_, ?_⟩
    · rw [cl_tup, cl_cons, cl_cons, h2, l_list]; rfl
    · simp [dp_tup, dp_cons, dp_nil, dp_str, Kd.deep]; omega
  | .rec1 k => kD1 _ _ k l_rec l_p (kD k)
  | .rec2 k l => kD2 _ _ _ k l l_rec l_p l_q (kD k) (kD l)
  | .cho1 k => kD1 _ _ k l_cho l_s (kD k)
  | .cho2 k l => kD2 _ _ _ k l l_cho l_s l_t (kD k) (kD l)
theorem k_eq (k : Kd) (hd : k.deep ≤ 12) (st : Store) : evCmp .eq k.t k.t st = .ok (.bl true, .va) st := by
  obtain ⟨d, h1, h2, h3⟩ := kD k
  exact eq_self h1 (by unfold SeqAt.shaped; rw [h2]; simp; omega) st
theorem k_ne (k : Kd) (hd : k.deep ≤ 12) (st : Store) : evCmp .ne k.t k.t st = .ok (.bl false, .va) st := by
  obtain ⟨d, h1, h2, h3⟩ := kD k
  exact ne_self h1 (by unfold SeqAt.shaped; rw [h2]; simp; omega) st
/-! ### one turn -/
theorem sort2 (a b : Int) : ∃ c d, sortI [a, b] = [c, d] ∧ c ≤ d ∧ (∀ P : Int → Prop, P a → P b → P c ∧ P d) := by
  by_cases h : a ≤ b
  · refine ⟨a, b, ?_, h, fun P x y => ⟨x, y⟩⟩
    simp [sortI, List.mergeSort, List.MergeSort.Internal.splitInTwo, List.merge, h]
  · refine ⟨b, a, ?_, by omega, fun P x y => ⟨y, x⟩⟩
    simp [sortI, List.mergeSort, List.MergeSort.Internal.splitInTwo, List.merge, h]
theorem cut_by (a b c d : UInt8) (l r : List UInt8) : cut (a :: b :: c :: d :: (l ++ r)) (some 4) (some (4 + (l.length : Nat))) = l := by
  unfold cut
  have h1 : HT.sIx (a :: b :: c :: d :: (l ++ r)).length 0 (some 4) = 4 := by
    unfold HT.sIx
    simp
  have h2 : HT.sIx (a :: b :: c :: d :: (l ++ r)).length (a :: b :: c :: d :: (l ++ r)).length (some (4 + (l.length : Nat))) = 4 + l.length := by
    unfold HT.sIx
    simp
    rw [if_neg (by omega)]
    omega
  rw [h1, h2]
  simp
theorem row_ne (K : Kd) (st : Store) : evCmp .ne (.lst (K.by.map fun b => T.int (b.toNat : Nat))) (.lst (K.enc.map tI)) st = .ok (.bl false, .va) st := by
  have e : (K.by.map fun b => T.int (b.toNat : Nat)) = (K.enc.map fun n : Nat => (n : Int)).map T.int := by
    rw [Kd.by, List.map_map, List.map_map]
    apply List.map_congr_left
    intro x hx
    have := enc_lt K x hx
    simp
    omega
  have e2 : K.enc.map tI = (K.enc.map fun n : Nat => (n : Int)).map T.int := by simp [tI, Function.comp_def]
  rw [e, e2]
  exact ne_ints _ _
theorem right_ok (n : Nat) (hn : 31 ≤ n) (st : Store) (I : Inv st) : ∃ st', callF Γ n F__law_is_right [.loc 0] st = .ok (.bl true, .va) st' ∧ Inv st' := by
  obtain ⟨m, rfl⟩ : ∃ m, n = m + 1 := ⟨n - 1, by omega⟩
  obtain ⟨k, s1, h1, ⟨k1, k2, k3⟩, I1⟩ := kind_ok 3 m (by omega) st I
  have h1 : callF Γ m F__law_kind [.loc 0, .int 3] st = .ok (k.t, .va) s1 := h1
  obtain ⟨a, s2, h2, a1, I2⟩ := great_ok m (by omega) s1 I1
  obtain ⟨b, s3, h3, b1, I3⟩ := great_ok m (by omega) s2 I2
  obtain ⟨c, d, h4, hcd, hP⟩ := sort2 a b
  have hs : ∀ st, evBi .sorted [.lst [.int a, .int b]] st = .ok (.lst [.int c, .int d], .fr) st := fun st => by
    have := b_sort st [a, b]
    rw [h4] at this
    exact this
  obtain ⟨c1, d1⟩ := hP (fun x => x.natAbs < 10 ^ 18) a1 b1
  have hkp : k.parts ≤ 15 := by simp at k3; omega
  have hKo : (Kd.cho2 k (.int c d)).ok := ⟨k1, c1, d1, hcd⟩
  have hKp : (Kd.cho2 k (.int c d)).parts ≤ 60 := by simp [Kd.parts]; omega
  have hKd : (Kd.cho2 k (.int c d)).deep ≤ 12 := by simp [Kd.deep]; omega
  have r1 := fun st => row_ok _ hKo (by omega) m st (by omega)
  have r2 := fun st => kind_octets_ok _ hKo hKp hKd m st (by omega)
  have r3 := fun st => is_kind_ok _ hKo hKp hKd m st (by omega)
  have r4 := fun st => kind_parts_ok _ hKo hKp hKd m st (by omega)
  have q2 := fun st => kind_octets_ok k k1 (by omega) (by omega) m st (by omega)
  have q4 := fun st => kind_parts_ok k k1 (by omega) (by omega) m st (by omega)
  obtain ⟨X, hX⟩ := koo _ hKo hKp hKd m s3 (by omega)
  obtain ⟨Y, hY⟩ := koo k k1 (by omega) (by omega) m (s3 ++ [X]) (by omega)
  have n1 := k_ne _ hKd
  have n2 := k_eq k (by omega)
  have n3 := row_ne (Kd.cho2 k (.int c d))
  have hl := enc_len _ hKo
  have hbl : (Kd.cho2 k (.int c d)).by.length ≤ 16777216 := by simp [Kd.by]; omega
  have hel : (Kd.cho2 k (.int c d)).enc.length ≤ 16777216 := by omega
  have hl2 := enc_len k k1
  have hbl2 : k.by.length ≤ 16777216 := by simp [Kd.by]; omega
  have hcut : cut (Kd.cho2 k (.int c d)).by (some 4) (some (4 + (k.by.length : Nat))) = k.by := by
    have e : (Kd.cho2 k (.int c d)).by = (3 : Nat).toUInt8 :: (2 : Nat).toUInt8 :: (1 : Nat).toUInt8 :: (115 : Nat).toUInt8 :: (k.by ++ (1 :: 116 :: (Kd.int c d).enc).map Nat.toUInt8) := by simp [Kd.by, Kd.enc]
    rw [e]
    exact cut_by _ _ _ _ _ _
  have eP : (Kd.cho2 k (.int c d)).parts = k.parts + 2 := by simp [Kd.parts]; omega
  rw [eP] at r4
  generalize hB : (Kd.cho2 k (.int c d)).by = B at *
  generalize hE : (Kd.cho2 k (.int c d)).enc = E at *
  simp only [Kd.t] at r1 r2 r3 r4 hX n1
  refine ⟨s3 ++ [X] ++ [Y], ?_, (I3.app X).app Y⟩
  rw [c__law_is_right]
  simp [fd__law_is_right, rb_ok, rb_exn, rt_ok, rt_exn, rq_nx, rq_rt, rq_bk, rq_ct, rq_exn, m_ok, m_fail, okv_s, of_s, of_none, ite_s, ite_r, keep_va, keep_fr, sl_va, sl_ow, bl_r, in_r, ev_v, ev_c, ev_g, ev_bin, ev_neg, ev_cmp, ev_ch2, ev_isn, ev_isb, ev_and, ev_or, ev_not, ev_ife, ev_tup, ev_lst, ev_new, ev_ix, ev_sl, ev_call, ev_bi, ev_isi, ev_mt, lo_r, ce_r, ev_meth, ev_fld, ev_mk, ev_lc, nx_ok, lc_nil, evO_none, evO_some, evA_nil, evA_cons, evRs_nil, evRs_cons, evF_nil, evF_cons, tst_yes, ptst_of, ptst_and, ptst_or, ptst_not, truth_bl, truth_int, truth_lst, truth_non, op_r, evS_pass, evS_seq, evS_asg, evS_par, sls_va, sls_ow, evS_aug, evS_app, ls_s, evS_ext, evS_pop, evS_ex, re_va, re_fr, evS_ret, evS_retv, evS_retn, evS_ite, evS_while, loo_nx, loo_ct, loo_bk, loo_rt, evS_for, fo_nil, fo_cons, evS_brk, evS_cont, lo_s, in_s, evS_setfld, evS_augfld, li_s, nt_s, evS_setix, evS_try, ret_s, rr_rt, rr_nx, rr_exn, ix_lst, ix_tup, li_r, ix_loc, ix_str, ix_byt, add_int, add_str, add_tup, add_lst, sub_int, mul_int, div_int, mod_int, pow_int, ord_int, ord_str, cmp_lt, cmp_le, cmp_gt, cmp_ge, cmp_in, sl_lst, sl_scr, sl_tup, sl_byt, len_lst, len_tup, len_scr, len_str, len_byt, b_int, b_abs, b_tupl, b_lstl, b_lstt, b_lstb, aug_add, aug_sub, mk_l, mk_t, mk_s, is_1, is_2, is_3, is_4, is_5, is_6, is_7, se_va, se_fr, se_tu, ro_nil, ro_cons, bi_n, bi_t, bi_l, bl_n, bl_c, fz_nil, fz_cons, fz1_ow, fz1_va, fz1_un, wi_nil, wi_cons, it_l, it_t, it_c, it_s, it_r, it_zl, it_zt, it_e, non_1, non_2, non_3, non_4, non_5, non_6, atI_0, atI_1, atI_2, atI_3, atI_4, eq_int, ne_int, ne_byt, eq_byt, h1, h2, h3, hs, r1, r2, r3, r4, q2, q4, hX, hY, n1, n2, n3, hbl, hel, hbl2, hcut, big_v]
end D


set_option Elab.async false
set_option linter.all false
set_option maxRecDepth 100000
set_option maxHeartbeats 0
namespace D
open PySem G
theorem abs_lc (O : Or) (X Y Z : Sl) (st : Store) : ∀ (ns : List Int) (acc : List T), acc.length + ns.length < big → lcE Γ O (.bi .abs (.cons (.bi .int (.cons (.v 2) .nil)) .nil)) (.n 2) .yes [X, Y, Z] acc (ns.map .int) st = .ok (acc ++ (ns.map fun i => if i < 0 then -i else i).map T.int) st := by
  intro ns
  induction ns with
  | nil => intro acc h; simp [lc_nil]
  | cons i r ih =>
    intro acc h
    have h1 : acc.length < big := by simp at h; omega
    have h2 := ih (acc ++ [.int (if i < 0 then -i else i)]) (by simp at h ⊢; omega)
    simp at h2
    simp only [List.map_cons]
    rw [lc_cons]
    simp [rb_ok, rb_exn, rt_ok, rt_exn, rq_nx, rq_rt, rq_bk, rq_ct, rq_exn, m_ok, m_fail, okv_s, of_s, of_none, ite_s, ite_r, keep_va, keep_fr, sl_va, sl_ow, bl_r, in_r, ev_v, ev_c, ev_g, ev_bin, ev_neg, ev_cmp, ev_ch2, ev_isn, ev_isb, ev_and, ev_or, ev_not, ev_ife, ev_tup, ev_lst, ev_new, ev_ix, ev_sl, ev_call, ev_bi, ev_isi, ev_mt, lo_r, ce_r, ev_meth, ev_fld, ev_mk, ev_lc, nx_ok, lc_nil, evO_none, evO_some, evA_nil, evA_cons, evRs_nil, evRs_cons, evF_nil, evF_cons, tst_yes, ptst_of, ptst_and, ptst_or, ptst_not, truth_bl, truth_int, truth_lst, truth_non, op_r, evS_pass, evS_seq, evS_asg, evS_par, sls_va, sls_ow, evS_aug, evS_app, ls_s, evS_ext, evS_pop, evS_ex, re_va, re_fr, evS_ret, evS_retv, evS_retn, evS_ite, evS_while, loo_nx, loo_ct, loo_bk, loo_rt, evS_for, fo_nil, fo_cons, evS_brk, evS_cont, lo_s, in_s, evS_setfld, evS_augfld, li_s, nt_s, evS_setix, evS_try, ret_s, rr_rt, rr_nx, rr_exn, ix_lst, ix_tup, li_r, ix_loc, ix_str, ix_byt, add_int, add_str, add_tup, add_lst, sub_int, mul_int, div_int, mod_int, pow_int, ord_int, ord_str, cmp_lt, cmp_le, cmp_gt, cmp_ge, cmp_in, sl_lst, sl_scr, sl_tup, sl_byt, len_lst, len_tup, len_scr, len_str, len_byt, b_int, b_abs, b_tupl, b_lstl, b_lstt, b_lstb, aug_add, aug_sub, mk_l, mk_t, mk_s, is_1, is_2, is_3, is_4, is_5, is_6, is_7, se_va, se_fr, se_tu, ro_nil, ro_cons, bi_n, bi_t, bi_l, bl_n, bl_c, fz_nil, fz_cons, fz1_ow, fz1_va, fz1_un, wi_nil, wi_cons, it_l, it_t, it_c, it_s, it_r, it_zl, it_zt, it_e, non_1, non_2, non_3, non_4, non_5, non_6, atI_0, atI_1, atI_2, atI_3, atI_4, eq_int, ne_int, ne_byt, eq_byt, lcK, h1]
    exact h2
theorem hand_ok (n : Nat) (hn : 1 ≤ n) (ns : List Int) (h : ns.length ≤ 63) : ∃ st, callF Γ n F__law_hand [.scr ns] [] = .ok (.loc 0, .va) st ∧ Inv st := by
  obtain ⟨m, rfl⟩ : ∃ m, n = m + 1 := ⟨n - 1, by omega⟩
  have hx : (cut ns none (some 63)).length ≤ ns.length := by
    unfold cut
    rw [List.length_take, List.length_drop]
    omega
  generalize hc : cut ns none (some 63) = xs at hx
  have ha := abs_lc ⟨callF Γ m, callF Γ (m - 1)⟩ (.va (.scr ns)) .un .un [] xs [] (by rw [big_v]; simp; omega)
  rw [List.nil_append] at ha
  have hyl : (xs.map fun i : Int => if i < 0 then -i else i).length = xs.length := List.length_map ..
  generalize hy : (xs.map fun i => if i < 0 then -i else i) = ys at ha hyl
  have hp : ∀ x ∈ ys, (0 : Int) ≤ x := by
    intro x hx
    rw [← hy] at hx
    obtain ⟨i, _, rfl⟩ := List.mem_map.mp hx
    show 0 ≤ if i < 0 then -i else i
    split <;> omega
  refine ⟨[.lst [.lst (ys.map T.int), .int 0, .int 0, .int (1931 + 167 * (ys.length : Nat)), .int 0]], ?_, ys, 0, 0, _, 0, rfl, hp, by omega, by omega⟩
  rw [c__law_hand]
  simp [fd__law_hand, rb_ok, rb_exn, rt_ok, rt_exn, rq_nx, rq_rt, rq_bk, rq_ct, rq_exn, m_ok, m_fail, okv_s, of_s, of_none, ite_s, ite_r, keep_va, keep_fr, sl_va, sl_ow, bl_r, in_r, ev_v, ev_c, ev_g, ev_bin, ev_neg, ev_cmp, ev_ch2, ev_isn, ev_isb, ev_and, ev_or, ev_not, ev_ife, ev_tup, ev_lst, ev_new, ev_ix, ev_sl, ev_call, ev_bi, ev_isi, ev_mt, lo_r, ce_r, ev_meth, ev_fld, ev_mk, ev_lc, nx_ok, lc_nil, evO_none, evO_some, evA_nil, evA_cons, evRs_nil, evRs_cons, evF_nil, evF_cons, tst_yes, ptst_of, ptst_and, ptst_or, ptst_not, truth_bl, truth_int, truth_lst, truth_non, op_r, evS_pass, evS_seq, evS_asg, evS_par, sls_va, sls_ow, evS_aug, evS_app, ls_s, evS_ext, evS_pop, evS_ex, re_va, re_fr, evS_ret, evS_retv, evS_retn, evS_ite, evS_while, loo_nx, loo_ct, loo_bk, loo_rt, evS_for, fo_nil, fo_cons, evS_brk, evS_cont, lo_s, in_s, evS_setfld, evS_augfld, li_s, nt_s, evS_setix, evS_try, ret_s, rr_rt, rr_nx, rr_exn, ix_lst, ix_tup, li_r, ix_loc, ix_str, ix_byt, add_int, add_str, add_tup, add_lst, sub_int, mul_int, div_int, mod_int, pow_int, ord_int, ord_str, cmp_lt, cmp_le, cmp_gt, cmp_ge, cmp_in, sl_lst, sl_scr, sl_tup, sl_byt, len_lst, len_tup, len_scr, len_str, len_byt, b_int, b_abs, b_tupl, b_lstl, b_lstt, b_lstb, aug_add, aug_sub, mk_l, mk_t, mk_s, is_1, is_2, is_3, is_4, is_5, is_6, is_7, se_va, se_fr, se_tu, ro_nil, ro_cons, bi_n, bi_t, bi_l, bl_n, bl_c, fz_nil, fz_cons, fz1_ow, fz1_va, fz1_un, wi_nil, wi_cons, it_l, it_t, it_c, it_s, it_r, it_zl, it_zt, it_e, non_1, non_2, non_3, non_4, non_5, non_6, atI_0, atI_1, atI_2, atI_3, atI_4, eq_int, ne_int, ne_byt, eq_byt, hc, ha, big_v]
theorem bad1 (st : Store) : callF Γ 40 F__law_refused [.tup [.str [105, 110, 116], .int 1, .int 0]] st = .ok (.bl true, .va) st := by kernel_rfl
theorem bad2 (st : Store) : callF Γ 40 F__law_refused [.non] st = .ok (.bl true, .va) st := by kernel_rfl
theorem con1 (st : Store) : callF Γ 40 F_kind_octets [.tup [.str [114, 101, 99], .tup [.tup [.str [97], .tup [.str [119, 111, 114, 100], .tup [.str [98], .str [99, 100]]]], .tup [.str [101], .tup [.str [108, 105, 115, 116], .tup [.str [105, 110, 116], .int (-1), .int 64]]]]]] st = .ok (.byt [2, 2, 1, 97, 1, 2, 1, 98, 2, 99, 100, 1, 101, 4, 0, 1, 128, 1], .va) st := by kernel_rfl
theorem con2 (st : Store) : evBi .list [.byt [2, 2, 1, 97, 1, 2, 1, 98, 2, 99, 100, 1, 101, 4, 0, 1, 128, 1]] st = .ok (.lst [.int 2, .int 2, .int 1, .int 97, .int 1, .int 2, .int 1, .int 98, .int 2, .int 99, .int 100, .int 1, .int 101, .int 4, .int 0, .int 1, .int 128, .int 1], .fr) st := by kernel_rfl
theorem con3 (st : Store) : evCmp .ne (.lst [.int 2, .int 2, .int 1, .int 97, .int 1, .int 2, .int 1, .int 98, .int 2, .int 99, .int 100, .int 1, .int 101, .int 4, .int 0, .int 1, .int 128, .int 1]) (.lst [.int 2, .int 2, .int 1, .int 97, .int 1, .int 2, .int 1, .int 98, .int 2, .int 99, .int 100, .int 1, .int 101, .int 4, .int 0, .int 1, .int 128, .int 1]) st = .ok (.bl false, .va) st := ne_ints [2, 2, 1, 97, 1, 2, 1, 98, 2, 99, 100, 1, 101, 4, 0, 1, 128, 1] st
theorem turns (c2) (X Y Z : Sl) : ∀ (xs acc : List T) (st : Store), Inv st → acc.length + xs.length < big → ∃ st', lcE Γ ⟨callF Γ 40, c2⟩ (.call F__law_is_right (.cons (.v 1) .nil)) (.n 3) .yes [X, .va (.loc 0), Y, Z] acc xs st = .ok (acc ++ xs.map fun _ => .bl true) st'
  | [], acc, st, I, h => ⟨st, by simp [lc_nil]⟩
  | x :: xs, acc, st, I, h => by
    obtain ⟨s1, h1, I1⟩ := right_ok 40 (by omega) st I
    have hb : acc.length < big := by simp at h; omega
    obtain ⟨s2, h2⟩ := turns c2 X Y (.va x) xs (acc ++ [.bl true]) s1 I1 (by simp at h ⊢; omega)
    obtain ⟨s3, h3⟩ := turns c2 X Y Z xs (acc ++ [.bl true]) s1 I1 (by simp at h ⊢; omega)
    simp at h2 h3
    first
    | refine ⟨s2, ?_⟩
      rw [lc_cons]
      simp [rb_ok, rb_exn, rt_ok, rt_exn, rq_nx, rq_rt, rq_bk, rq_ct, rq_exn, m_ok, m_fail, okv_s, of_s, of_none, ite_s, ite_r, keep_va, keep_fr, sl_va, sl_ow, bl_r, in_r, ev_v, ev_c, ev_g, ev_bin, ev_neg, ev_cmp, ev_ch2, ev_isn, ev_isb, ev_and, ev_or, ev_not, ev_ife, ev_tup, ev_lst, ev_new, ev_ix, ev_sl, ev_call, ev_bi, ev_isi, ev_mt, lo_r, ce_r, ev_meth, ev_fld, ev_mk, ev_lc, nx_ok, lc_nil, evO_none, evO_some, evA_nil, evA_cons, evRs_nil, evRs_cons, evF_nil, evF_cons, tst_yes, ptst_of, ptst_and, ptst_or, ptst_not, truth_bl, truth_int, truth_lst, truth_non, op_r, evS_pass, evS_seq, evS_asg, evS_par, sls_va, sls_ow, evS_aug, evS_app, ls_s, evS_ext, evS_pop, evS_ex, re_va, re_fr, evS_ret, evS_retv, evS_retn, evS_ite, evS_while, loo_nx, loo_ct, loo_bk, loo_rt, evS_for, fo_nil, fo_cons, evS_brk, evS_cont, lo_s, in_s, evS_setfld, evS_augfld, li_s, nt_s, evS_setix, evS_try, ret_s, rr_rt, rr_nx, rr_exn, ix_lst, ix_tup, li_r, ix_loc, ix_str, ix_byt, add_int, add_str, add_tup, add_lst, sub_int, mul_int, div_int, mod_int, pow_int, ord_int, ord_str, cmp_lt, cmp_le, cmp_gt, cmp_ge, cmp_in, sl_lst, sl_scr, sl_tup, sl_byt, len_lst, len_tup, len_scr, len_str, len_byt, b_int, b_abs, b_tupl, b_lstl, b_lstt, b_lstb, aug_add, aug_sub, mk_l, mk_t, mk_s, is_1, is_2, is_3, is_4, is_5, is_6, is_7, se_va, se_fr, se_tu, ro_nil, ro_cons, bi_n, bi_t, bi_l, bl_n, bl_c, fz_nil, fz_cons, fz1_ow, fz1_va, fz1_un, wi_nil, wi_cons, it_l, it_t, it_c, it_s, it_r, it_zl, it_zt, it_e, non_1, non_2, non_3, non_4, non_5, non_6, atI_0, atI_1, atI_2, atI_3, atI_4, eq_int, ne_int, ne_byt, eq_byt, lcK, h1, hb]
      exact h2
    | refine ⟨s3, ?_⟩
      rw [lc_cons]
      simp [rb_ok, rb_exn, rt_ok, rt_exn, rq_nx, rq_rt, rq_bk, rq_ct, rq_exn, m_ok, m_fail, okv_s, of_s, of_none, ite_s, ite_r, keep_va, keep_fr, sl_va, sl_ow, bl_r, in_r, ev_v, ev_c, ev_g, ev_bin, ev_neg, ev_cmp, ev_ch2, ev_isn, ev_isb, ev_and, ev_or, ev_not, ev_ife, ev_tup, ev_lst, ev_new, ev_ix, ev_sl, ev_call, ev_bi, ev_isi, ev_mt, lo_r, ce_r, ev_meth, ev_fld, ev_mk, ev_lc, nx_ok, lc_nil, evO_none, evO_some, evA_nil, evA_cons, evRs_nil, evRs_cons, evF_nil, evF_cons, tst_yes, ptst_of, ptst_and, ptst_or, ptst_not, truth_bl, truth_int, truth_lst, truth_non, op_r, evS_pass, evS_seq, evS_asg, evS_par, sls_va, sls_ow, evS_aug, evS_app, ls_s, evS_ext, evS_pop, evS_ex, re_va, re_fr, evS_ret, evS_retv, evS_retn, evS_ite, evS_while, loo_nx, loo_ct, loo_bk, loo_rt, evS_for, fo_nil, fo_cons, evS_brk, evS_cont, lo_s, in_s, evS_setfld, evS_augfld, li_s, nt_s, evS_setix, evS_try, ret_s, rr_rt, rr_nx, rr_exn, ix_lst, ix_tup, li_r, ix_loc, ix_str, ix_byt, add_int, add_str, add_tup, add_lst, sub_int, mul_int, div_int, mod_int, pow_int, ord_int, ord_str, cmp_lt, cmp_le, cmp_gt, cmp_ge, cmp_in, sl_lst, sl_scr, sl_tup, sl_byt, len_lst, len_tup, len_scr, len_str, len_byt, b_int, b_abs, b_tupl, b_lstl, b_lstt, b_lstb, aug_add, aug_sub, mk_l, mk_t, mk_s, is_1, is_2, is_3, is_4, is_5, is_6, is_7, se_va, se_fr, se_tu, ro_nil, ro_cons, bi_n, bi_t, bi_l, bl_n, bl_c, fz_nil, fz_cons, fz1_ow, fz1_va, fz1_un, wi_nil, wi_cons, it_l, it_t, it_c, it_s, it_r, it_zl, it_zt, it_e, non_1, non_2, non_3, non_4, non_5, non_6, atI_0, atI_1, atI_2, atI_3, atI_4, eq_int, ne_int, ne_byt, eq_byt, lcK, h1, hb]
      exact h3
theorem rng8 (st : Store) : items .rng [.int 8] st = .ok [.int 0, .int 1, .int 2, .int 3, .int 4, .int 5, .int 6, .int 7] st := by kernel_rfl
theorem all8 (st : Store) : evBi .all [.lst [.bl true, .bl true, .bl true, .bl true, .bl true, .bl true, .bl true, .bl true]] st = .ok (.bl true, .va) st := by kernel_rfl
theorem plain_law (ns : List Int) (h : ns.length ≤ 63) : ∃ st, callF Γ 41 F_law [.scr ns] [] = .ok (.bl true, .va) st := by
  obtain ⟨s1, h1, I1⟩ := hand_ok 40 (by omega) ns h
  obtain ⟨s2, h2⟩ := turns (callF Γ 39) (.va (.scr ns)) (.va (.tup [.str [114, 101, 99], .tup [.tup [.str [97], .tup [.str [119, 111, 114, 100], .tup [.str [98], .str [99, 100]]]], .tup [.str [101], .tup [.str [108, 105, 115, 116], .tup [.str [105, 110, 116], .int (-1), .int 64]]]]])) .un [.int 0, .int 1, .int 2, .int 3, .int 4, .int 5, .int 6, .int 7] [] s1 I1 (by rw [big_v]; simp)
  simp at h2
  refine ⟨s2, ?_⟩
  rw [c_law]
  simp [fd_law, rb_ok, rb_exn, rt_ok, rt_exn, rq_nx, rq_rt, rq_bk, rq_ct, rq_exn, m_ok, m_fail, okv_s, of_s, of_none, ite_s, ite_r, keep_va, keep_fr, sl_va, sl_ow, bl_r, in_r, ev_v, ev_c, ev_g, ev_bin, ev_neg, ev_cmp, ev_ch2, ev_isn, ev_isb, ev_and, ev_or, ev_not, ev_ife, ev_tup, ev_lst, ev_new, ev_ix, ev_sl, ev_call, ev_bi, ev_isi, ev_mt, lo_r, ce_r, ev_meth, ev_fld, ev_mk, ev_lc, nx_ok, lc_nil, evO_none, evO_some, evA_nil, evA_cons, evRs_nil, evRs_cons, evF_nil, evF_cons, tst_yes, ptst_of, ptst_and, ptst_or, ptst_not, truth_bl, truth_int, truth_lst, truth_non, op_r, evS_pass, evS_seq, evS_asg, evS_par, sls_va, sls_ow, evS_aug, evS_app, ls_s, evS_ext, evS_pop, evS_ex, re_va, re_fr, evS_ret, evS_retv, evS_retn, evS_ite, evS_while, loo_nx, loo_ct, loo_bk, loo_rt, evS_for, fo_nil, fo_cons, evS_brk, evS_cont, lo_s, in_s, evS_setfld, evS_augfld, li_s, nt_s, evS_setix, evS_try, ret_s, rr_rt, rr_nx, rr_exn, ix_lst, ix_tup, li_r, ix_loc, ix_str, ix_byt, add_int, add_str, add_tup, add_lst, sub_int, mul_int, div_int, mod_int, pow_int, ord_int, ord_str, cmp_lt, cmp_le, cmp_gt, cmp_ge, cmp_in, sl_lst, sl_scr, sl_tup, sl_byt, len_lst, len_tup, len_scr, len_str, len_byt, b_int, b_abs, b_tupl, b_lstl, b_lstt, b_lstb, aug_add, aug_sub, mk_l, mk_t, mk_s, is_1, is_2, is_3, is_4, is_5, is_6, is_7, se_va, se_fr, se_tu, ro_nil, ro_cons, bi_n, bi_t, bi_l, bl_n, bl_c, fz_nil, fz_cons, fz1_ow, fz1_va, fz1_un, wi_nil, wi_cons, it_l, it_t, it_c, it_s, it_zl, it_zt, it_e, non_1, non_2, non_3, non_4, non_5, non_6, atI_0, atI_1, atI_2, atI_3, atI_4, eq_int, ne_int, ne_byt, eq_byt, h1, bad1, bad2, con1, con2, con3, rng8, all8, h2, big_v]
end D


open PySem PySem.W PySem.Calls PyProof.Rows
theorem PySem.Challenge.cw_glasskept_k60_whole_kinds_as_octets_holds : PySem.Challenge.rw_glasskept_k60_whole_kinds_as_octets.Holds := by
  w_on; o_law
  refine HandSHeadRun.head_any (r := OpenLaw.row PySem.Challenge.rw_glasskept_k60_whole_kinds_as_octets) (q := view (OpenLaw.row PySem.Challenge.rw_glasskept_k60_whole_kinds_as_octets).prog [74]) (H := D.hk) (ob := D.ob) (M := 20000) (loose := D.names) (d := HandSHeadRun.topDef (OpenLaw.row PySem.Challenge.rw_glasskept_k60_whole_kinds_as_octets).prog 74) (kwd := []) D.ob_eq
    (by kernel_rfl) (fun s => by kernel_rfl) D.run (by kernel_rfl) (by kernel_rfl) (by kernel_rfl) (by rfl) (by first | assumption | decide +kernel) (by decide +kernel) ⟨rfl, rfl, rfl, rfl, rfl, by decide +kernel⟩ ?hw ?hc
  case hw => w_witness2
  case hc =>
    refine L2.walk_ofE (l := PySem.Challenge.rw_glasskept_k60_whole_kinds_as_octets) (n := 63) (k := 43) (x := "script") (CX := L2.CX0) rfl (by decide) (by kernel_rfl) ⟨rfl, by decide, by decide⟩ ?F (fun _ _ _ _ z => z)
    intro w mg fa h Y G hmg0
    have hmg : mg ("law" : PySem.Str) = some (.ref fa) := by
      have e : (HandSHeadRun.topDef (OpenLaw.row PySem.Challenge.rw_glasskept_k60_whole_kinds_as_octets).prog 74).name = ("law" : PySem.Str) := by kernel_rfl
      rw [← e]
      exact hmg0
    exact _root_.G.law_of (N := 40) (most := 63) D.lawD D.plain_law Y G hmg

