import PyProof.Rows.All
import Wide.All
import OpenK.AllK
import Wide.FinOn
import HandS.ForMost
import HandS.Flow
import HandS.Walk
import HandS.Deep
import HandS.TupAny
import HandS.Zip
import HandS.Rev
import HandS.Wide
import HandS.Conv
import HandS.Style
import HandS.SortInts
import HandS.IsInst
import HandS.NoneIn
import HandS.TupLe
import KE.KeyNested
import KE.GoesEnum
import KE.GoesMore
import KE.GoesZip
import HandS.More
import HandS.Ends
import HandS.Words
import PySem.Challenge.RW_likemakeslike_k24_system_judges
set_option Elab.async false
set_option linter.all false
section
set_option Elab.async false
set_option linter.all false
set_option maxRecDepth 100000
/-! Ev: data D, the small language E, S, and what it computes. -/
namespace My
open PySem L2

/-- what a value is, without addresses -/
inductive D where
  | non | bl (b : Bool) | int (i : Int) | str (x : Str) | lst (l : List D) | tup (l : List D) | dct (l : List (D × D))
/-- how a value is held: for good; new and by nobody else; read only; while a loop walks it -/
inductive M where
  | val | own | bor | lck
  deriving DecidableEq
abbrev C := M × D
abbrev Sl := List (Option C)

inductive Op2 where
  | add | sub | mul | fdiv | mod | pow | eq | ne | lt | le | gt | ge | is | isnot | isin | notin | idx
  deriving DecidableEq
inductive Bi where
  | len | int | str | repr | tuple | list | sum | max | min | sorted | all | any | abs
  deriving DecidableEq
/-- the built-in types of isinstance -/
inductive Ty where
  | int | bool | str | tuple | list | seq
  deriving DecidableEq
inductive Tg where
  | nm (i : Nat) | tup (t : Tg) | nil | cons (t r : Tg)
  deriving DecidableEq
inductive E where
  | var (i : Nat) | int (k : Int) | str (x : Str) | bl (b : Bool) | non | glb (j : Nat)
  | bin (o : Op2) (a b : E) | neg (a : E) | chn (o1 o2 : Op2) (a b c : E)
  | and (es : E) | or (es : E) | not (a : E) | ite (c a b : E)
  | lst (es : E) | tup (es : E) | nil | cons (e es : E)
  | slc (a lo hi : E) | rvs (a : E)
  | call (f : Nat) (es : E) | bi (b : Bi) (es : E) | isi (t : Ty) (a : E)
  | cv (b : Bi) (a : E)
  | comp (own : List Nat) (t : Tg) (it : E) (ifs : E) (elt : E)
  | it (e : E) | rng (es : E) | enm (e : E) | zip (a b : E) | rev (e : E)

/-! ### small computations -/
abbrev SL : Nat := 16777216
def D.isMut : D → Bool
  | .lst _ => true | .dct _ => true | _ => false
/-- may be handed on: all but what is only lent -/
def vl (c : C) : Option D := match c.1 with
  | .bor => none | .lck => none | _ => some c.2
def cut {α : Type} (xs : List α) (lo hi : Option Int) : List α := (xs.drop (HT.sIx xs.length 0 lo)).take (HT.sIx xs.length xs.length hi - HT.sIx xs.length 0 lo)
def strAt (x : Str) (i : Int) : Option Str := (atI x.cps.toList i).map fun c => ⟨#[c]⟩
mutual
def D.py : D → Option PyData
  | .non => some .none | .bl b => some (.bool b) | .int i => some (.int i) | .str x => some (.str x)
  | .lst l => (D.pyL l).map .list
  | .tup l => (D.pyL l).map .tuple
  | .dct _ => none
def D.pyL : List D → Option (List PyData)
  | [] => some []
  | d :: r => (D.py d).bind fun p => (D.pyL r).map fun q => p :: q
end
/-- == -/
def eqD (d e : D) : Option Bool := d.py.bind fun p => e.py.bind fun q => if SeqAt.shaped p && SeqAt.shaped q then some (PyData.eqv p q) else none
def D.isNon : D → Bool
  | .non => true | _ => false
/-- d in l -/
def memD (d : D) (l : List D) : Option Bool := d.py.bind fun q => (D.pyL l).bind fun ps => if SeqAt.shaped q && ps.all SeqAt.shaped then some (ps.any fun z => PyData.eqv z q) else none
def opAdd : D → D → Option C
  | .int i, .int j => some (.val, .int (i + j))
  | .str x, .str y => if x.length + y.length ≤ SL then some (.val, .str (x ++ y)) else none
  | .lst x, .lst y => if x.length + y.length ≤ SL then some (.own, .lst (x ++ y)) else none
  | .tup x, .tup y => if x.length + y.length ≤ SL then some (.val, .tup (x ++ y)) else none
  | _, _ => none
def opSub : D → D → Option C
  | .int i, .int j => some (.val, .int (i - j))
  | _, _ => none
def opMul : D → D → Option C
  | .int i, .int j => if (-18446744073709551616 < i ∧ i < 18446744073709551616) ∨ (-18446744073709551616 < j ∧ j < 18446744073709551616) then some (.val, .int (i * j)) else none
  | .lst x, .int k => if -9223372036854775808 ≤ k ∧ k < 9223372036854775808 ∧ x.length * k.toNat ≤ SL then some (.own, .lst (List.replicate k.toNat x).flatten) else none
  | _, _ => none
def opDiv : D → D → Option C
  | .int i, .int j => if 0 < j ∧ j < 1073741824 then some (.val, .int (i / j)) else none
  | _, _ => none
def opMod : D → D → Option C
  | .int i, .int j => if 0 < j then some (.val, .int (i % j)) else none
  | _, _ => none
def opPow : D → D → Option C
  | .int i, .int j => if 0 ≤ j ∧ j ≤ 1000000 ∧ i.natAbs < 18446744073709551616 then some (.val, .int (i ^ j.toNat)) else none
  | _, _ => none
def opOrd (p : Int → Int → Bool) : D → D → Option C
  | .int i, .int j => some (.val, .bl (p i j))
  | _, _ => none
def opIs : D → D → Option Bool
  | d, .non => some d.isNon
  | .bl a, .bl b => some (a == b)
  | _, _ => none
def opIn : D → D → Option Bool
  | d, .lst l => memD d l
  | d, .tup l => memD d l
  | _, _ => none
def opIdx : D → D → Option C
  | .lst l, .int i => (atI l i).map fun d => (.val, d)
  | .tup l, .int i => (atI l i).map fun d => (.val, d)
  | .str x, .int i => if x.length ≤ SL then (strAt x i).map fun c => (.val, .str c) else none
  | _, _ => none
def op2 : Op2 → D → D → Option C
  | .add, d, e => opAdd d e
  | .sub, d, e => opSub d e
  | .mul, d, e => opMul d e
  | .fdiv, d, e => opDiv d e
  | .mod, d, e => opMod d e
  | .pow, d, e => opPow d e
  | .lt, d, e => opOrd (fun i j => decide (i < j)) d e
  | .le, d, e => opOrd (fun i j => decide (i ≤ j)) d e
  | .gt, d, e => opOrd (fun i j => decide (j < i)) d e
  | .ge, d, e => opOrd (fun i j => decide (j ≤ i)) d e
  | .eq, d, e => (eqD d e).map fun b => (.val, .bl b)
  | .ne, d, e => (eqD d e).map fun b => (.val, .bl (!b))
  | .is, d, e => (opIs d e).map fun b => (.val, .bl b)
  | .isnot, d, e => (opIs d e).map fun b => (.val, .bl (!b))
  | .isin, d, e => (opIn d e).map fun b => (.val, .bl b)
  | .notin, d, e => (opIn d e).map fun b => (.val, .bl (!b))
  | .idx, d, e => opIdx d e
def dInts : List D → Option (List Int)
  | [] => some []
  | .int i :: r => (dInts r).map fun q => i :: q
  | _ => none
def dBls : List D → Option (List Bool)
  | [] => some []
  | .bl i :: r => (dBls r).map fun q => i :: q
  | _ => none
def biLen : List C → Option C
  | [(_, .lst l)] => some (.val, .int l.length)
  | [(_, .tup l)] => some (.val, .int l.length)
  | [(_, .str x)] => if x.length ≤ SL then some (.val, .int x.length) else none
  | _ => none
def biInt : List C → Option C
  | [(_, .int i)] => some (.val, .int i)
  | [(_, .bl b)] => some (.val, .int (if b then 1 else 0))
  | _ => none
def biAbs : List C → Option C
  | [(_, .int i)] => some (.val, .int (if i < 0 then -i else i))
  | _ => none
def biMax : List C → Option C
  | [(_, .int i), (_, .int j)] => some (.val, .int (if j > i then j else i))
  | _ => none
def biMin : List C → Option C
  | [(_, .int i), (_, .int j)] => some (.val, .int (if j < i then j else i))
  | _ => none
def biTuple : List C → Option C
  | [(_, .lst l)] => some (.val, .tup l)
  | [(_, .tup l)] => some (.val, .tup l)
  | _ => none
def biList : List C → Option C
  | [(_, .lst l)] => some (.own, .lst l)
  | [(_, .tup l)] => some (.own, .lst l)
  | _ => none
def biSum : List C → Option C
  | [(_, .lst l)] => (dInts l).map fun ns => (.val, .int ns.sum)
  | _ => none
def biAll : List C → Option C
  | [(_, .lst l)] => (dBls l).map fun bs => (.val, .bl (bs.all id))
  | _ => none
def biAny : List C → Option C
  | [(_, .lst l)] => (dBls l).map fun bs => (.val, .bl (bs.any id))
  | _ => none
def biF : Bi → List C → Option C
  | .len, cs => biLen cs
  | .int, cs => biInt cs
  | .abs, cs => biAbs cs
  | .max, cs => biMax cs
  | .min, cs => biMin cs
  | .tuple, cs => biTuple cs
  | .list, cs => biList cs
  | .sum, cs => biSum cs
  | .all, cs => biAll cs
  | .any, cs => biAny cs
  | _, _ => none
def isTy : Ty → D → Bool
  | .int, .int _ => true | .int, .bl _ => true | .bool, .bl _ => true | .str, .str _ => true | .tuple, .tup _ => true | .list, .lst _ => true
  | .seq, .tup _ => true | .seq, .lst _ => true | _, _ => false
def optI : C → Option (Option Int)
  | (_, .int i) => some (some i)
  | _ => none
def slice (d : D) (lo hi : Option Int) : Option C := match d with
  | .lst l => some (.own, .lst (cut l lo hi))
  | .tup l => some (.val, .tup (cut l lo hi))
  | .str x => if x.length ≤ SL then some (.val, .str ⟨(cut x.cps.toList lo hi).toArray⟩) else none
  | _ => none
def range3 : List C → Option (List D)
  | [(_, .int j)] => if -4611686018427387904 ≤ j ∧ j < 4611686018427387904 then some ((List.range j.toNat).map fun i => .int (i : Nat)) else none
  | [(_, .int i), (_, .int j)] => if -4611686018427387904 ≤ i ∧ i < 4611686018427387904 ∧ -4611686018427387904 ≤ j ∧ j < 4611686018427387904 then some ((List.range (j - i).toNat).map fun (k : Nat) => .int (i + k)) else none
  | [(_, .int i), (_, .int j), (_, .int c)] => if 0 ≤ i ∧ i < 1073741824 ∧ 0 ≤ j ∧ j < 1073741824 ∧ 0 < c ∧ c < 1073741824 then some ((List.range (if i < j then (j - i - 1) / c + 1 else 0 : Int).toNat).map fun (k : Nat) => .int (i + k * c)) else none
  | _ => none
def items : D → Option (List D)
  | .lst l => some l
  | .tup l => some l
  | .str x => some (x.cps.toList.map fun c => .str ⟨#[c]⟩)
  | _ => none
def seqD : D → Option (List D)
  | .lst l => some l
  | .tup l => some l
  | _ => none
def zipD : List D → List D → List D
  | x :: xs, y :: ys => .tup [x, y] :: zipD xs ys
  | _, _ => []
def enmD (k : Nat) : List D → List D
  | [] => []
  | x :: xs => .tup [.int (k : Nat), x] :: enmD (k + 1) xs
def wipeE (env : Sl) : List Nat → Sl
  | [] => env
  | v :: vs => (wipeE env vs).set v none
mutual
def setT : Tg → D → Sl → Option Sl
  | .nm i, d, env => if i < env.length then some (env.set i (some (.val, d))) else none
  | .tup t, .tup ds, env => setTs t ds env
  | .tup t, .lst ds, env => setTs t ds env
  | _, _, _ => none
def setTs : Tg → List D → Sl → Option Sl
  | .nil, [], env => some env
  | .cons t r, d :: ds, env => (setT t d env).bind fun e1 => setTs r ds e1
  | _, _, _ => none
end
def rdV : Option (Option C) → Option C
  | some (some (m, d)) => match m with
    | .val => some (.val, d)
    | _ => some (if d.isMut then .bor else .val, d)
  | _ => none
def asB : Option C → Option Bool
  | some (_, .bl b) => some b
  | _ => none
def consO : Option D → List D → List D
  | some y, r => y :: r
  | none, r => r
def compL (f : D → Option (Option D)) : List D → Option (List D)
  | [] => some []
  | x :: xs => (f x).bind fun o => (compL f xs).map fun r => consO o r
/-- a new thing is handed to a def for good -/
def argM (c : C) : C := match c with
  | (.own, d) => (.val, d)
  | _ => c
abbrev CF := Nat → List C → Option C
section
variable (cf : CF) (gl : Nat → Option D)
mutual
def ev : E → Sl → Option C
  | .var i, env => rdV env[i]?
  | .int k, _ => some (.val, .int k)
  | .str x, _ => some (.val, .str x)
  | .bl b, _ => some (.val, .bl b)
  | .non, _ => some (.val, .non)
  | .glb j, _ => (gl j).map fun d => (.val, d)
  | .bin o a b, env => (ev a env).bind fun x => (ev b env).bind fun y => op2 o x.2 y.2
  | .neg a, env => (ev a env).bind fun x => match x.2 with | .int i => some (.val, .int (-i)) | _ => none
  | .chn o1 o2 a b c, env => (ev a env).bind fun x => (ev b env).bind fun y => match op2 o1 x.2 y.2 with
    | some (_, .bl true) => (ev c env).bind fun z => op2 o2 y.2 z.2
    | some (_, .bl false) => some (.val, .bl false)
    | _ => none
  | .and es, env => (evAnd es env).map fun b => (.val, .bl b)
  | .or es, env => (evOr es env).map fun b => (.val, .bl b)
  | .not a, env => match ev a env with
    | some (_, .bl b) => some (.val, .bl (!b))
    | _ => none
  | .ite c a b, env => match ev c env with
    | some (_, .bl true) => ev a env
    | some (_, .bl false) => ev b env
    | _ => none
  | .lst es, env => (evL es env).bind fun cs => (cs.mapM vl).bind fun ds => if ds.length ≤ SL then some (.own, .lst ds) else none
  | .tup es, env => (evL es env).bind fun cs => (cs.mapM vl).bind fun ds => if ds.length ≤ SL then some (.val, .tup ds) else none
  | .slc a lo hi, env => (ev a env).bind fun x => (evO lo env).bind fun i => (evO hi env).bind fun j => slice x.2 i j
  | .rvs a, env => (ev a env).bind fun x => match x.2 with | .lst l => some (.own, .lst l.reverse) | _ => none
  | .call f es, env => (evL es env).bind fun cs => (cf f (cs.map argM)).bind fun r => if r.1 = .val ∨ r.1 = .own then some r else none
  | .bi b es, env => (evL es env).bind fun cs => biF b cs
  | .isi t a, env => (ev a env).map fun x => (.val, .bl (isTy t x.2))
  | .cv b a, env => (ev a env).bind fun c => (range3 [c]).bind fun ds => if ds.length ≤ SL then (match b with | .tuple => some (.val, .tup ds) | .list => some (.own, .lst ds) | _ => none) else none
  | .comp own t it ifs elt, env => (evI it env).bind fun ds => (compL (fun x => (setT t x (wipeE env own)).bind fun e1 => (evT ifs e1).bind fun b => if b then ((ev elt e1).bind vl).map some else some none) ds).bind fun r =>
      if r.length ≤ SL then some (.own, .lst r) else none
  | _, _ => none
/-- a part of a slice; .nil: left out -/
def evO : E → Sl → Option (Option Int)
  | .nil, _ => some none
  | .var i, env => (rdV env[i]?).bind optI
  | .int k, _ => some (some k)
  | .bin o a b, env => ((ev a env).bind fun x => (ev b env).bind fun y => op2 o x.2 y.2).bind optI
  | .call f es, env => (((evL es env).bind fun cs => (cf f (cs.map argM)).bind fun r => if r.1 = .val ∨ r.1 = .own then some r else none)).bind optI
  | .bi b es, env => ((evL es env).bind fun cs => biF b cs).bind optI
  | .neg a, env => ((ev a env).bind fun x => match x.2 with | .int i => some (.val, .int (-i)) | _ => none).bind optI
  | _, _ => none
def evL : E → Sl → Option (List C)
  | .nil, _ => some []
  | .cons e es, env => (ev e env).bind fun c => (evL es env).map fun r => c :: r
  | _, _ => none
def evAnd : E → Sl → Option Bool
  | .nil, _ => some true
  | .cons a r, env => match ev a env with
    | some (_, .bl true) => evAnd r env
    | some (_, .bl false) => some false
    | _ => none
  | _, _ => none
def evOr : E → Sl → Option Bool
  | .nil, _ => some false
  | .cons a r, env => match ev a env with
    | some (_, .bl false) => evOr r env
    | some (_, .bl true) => some true
    | _ => none
  | _, _ => none
/-- all tests of a list hold -/
def evT : E → Sl → Option Bool
  | .nil, _ => some true
  | .cons e _, env => asB (ev e env)
  | _, _ => none
def evI : E → Sl → Option (List D)
  | .rng es, env => (evL es env).bind range3
  | .enm e, env => (ev e env).bind fun c => (seqD c.2).map (enmD 0)
  | .zip a b, env => (ev a env).bind fun x => (ev b env).bind fun y => (seqD x.2).bind fun l => (seqD y.2).map fun r => zipD l r
  | .rev e, env => (ev e env).bind fun c => (seqD c.2).map List.reverse
  | .it e, env => (ev e env).bind fun c => items c.2
  | _, _ => none
end
end
end My
end

section
set_option Elab.async false
set_option linter.all false
set_option maxRecDepth 100000
/-! Rep: how data stand in the abstract heap. -/
namespace My
open PySem L2

/-- what does not change: the program, the world, the written part -/
structure Wo where
  P : Program
  w : World
  K : PySem.W.Frag

/-- a dict whose keys are tuples at their addresses -/
def ndO (W : Wo) (a : Addr) (xs : List (NestedKey × Addr × V)) : HO := .ext fun h => xs.length ≤ sizeLine ∧ (a == sysModules) = false ∧ ∃ ys : List (NestedKey × Addr × Value),
  Paired (fun (p : NestedKey × Addr × V) (q : NestedKey × Addr × Value) => p.1 = q.1 ∧ p.2.1 = q.2.1 ∧ RelV p.2.2 q.2.2) xs ys ∧
  ∃ o es ep, h.get? a = some o ∧ o.ExactDict ∧ o.data = .dict es ep ∧ es.toList = ys.map (entryOfKey (nestedKind W.P W.w)) ∧ (ys.map (·.1)).Nodup

/-- a datum as a by-value key -/
def D.key : D → Option Key
  | .int i => some (.inl i) | .str x => some (.inr x) | _ => none
mutual
/-- a datum as a key that is a tuple -/
def D.nkey : D → Option NestedKey
  | .non => some .none | .int i => some (.num i) | .str x => some (.text x)
  | .tup l => (D.nkeyL l).map .tup
  | _ => none
def D.nkeyL : List D → Option (List NestedKey)
  | [] => some []
  | d :: r => (D.nkey d).bind fun k => (D.nkeyL r).map fun q => k :: q
end
section
variable (W : Wo) (F : Hp)
mutual
/-- v is d, by what stands in F -/
def Rp : D → V → Prop
  | .non, v => v = .non
  | .bl b, v => v = .bl b
  | .int i, v => v = .int i
  | .str x, v => v = .str x
  | .lst l, v => ∃ a vs, v = .ref a ∧ SqL W.K F a vs ∧ RpL l vs
  | .tup l, v => ∃ a vs, v = .ref a ∧ SqT W.K F a vs ∧ RpL l vs
  | .dct l, v => ∃ a, v = .ref a ∧ ((∃ kvs, F a = some (.dK kvs) ∧ RpK l kvs) ∨ (∃ xs, F a = some (ndO W a xs) ∧ RpN l xs))
def RpL : List D → List V → Prop
  | [], vs => vs = []
  | d :: r, vs => ∃ v s, vs = v :: s ∧ Rp d v ∧ RpL r s
def RpK : List (D × D) → List (Key × V) → Prop
  | [], kvs => kvs = []
  | (k, d) :: r, kvs => ∃ y v s, kvs = (y, v) :: s ∧ D.key k = some y ∧ Rp d v ∧ RpK r s
def RpN : List (D × D) → List (NestedKey × Addr × V) → Prop
  | [], xs => xs = []
  | (k, d) :: r, xs => ∃ y q v s, xs = (y, q, v) :: s ∧ D.nkey k = some y ∧ Rp k (.ref q) ∧ Rp d v ∧ RpN r s
end
/-- the changeable object o at a holds d -/
def RpO (a : Addr) (d : D) (o : HO) : Prop := match d with
  | .lst l => ∃ vs, o = .lst vs ∧ RpL W F l vs
  | .dct l => (∃ kvs, o = .dK kvs ∧ RpK W F l kvs) ∨ (∃ xs, o = ndO W a xs ∧ RpN W F l xs)
  | _ => False
end

theorem Same.sqT {K : PySem.W.Frag} {H H' : Hp} {a : Addr} {xs : List V} (e : Same H H') (h : SqT K H a xs) : SqT K H' a xs := by
  rcases h with (h | ⟨o, h⟩) | h
  · exact .inl (.inl (e _ _ h))
  · exact .inl (.inr ⟨o, e _ _ h⟩)
  · exact .inr h
section
variable {W : Wo} {F F' : Hp}
mutual
theorem Rp.mono (e : Same F F') : ∀ (d : D) {v : V}, Rp W F d v → Rp W F' d v
  | .non, _, h => by unfold Rp at h ⊢; exact h
  | .bl _, _, h => by unfold Rp at h ⊢; exact h
  | .int _, _, h => by unfold Rp at h ⊢; exact h
  | .str _, _, h => by unfold Rp at h ⊢; exact h
  | .lst l, _, h => by
    unfold Rp at h ⊢
    obtain ⟨a, vs, e1, e2, e3⟩ := h
    exact ⟨a, vs, e1, e.seq e2, RpL.mono e l e3⟩
  | .tup l, _, h => by
    unfold Rp at h ⊢
    obtain ⟨a, vs, e1, e2, e3⟩ := h
    exact ⟨a, vs, e1, Same.sqT e e2, RpL.mono e l e3⟩
  | .dct l, _, h => by
    unfold Rp at h ⊢
    obtain ⟨a, e1, h⟩ := h
    refine ⟨a, e1, ?_⟩
    rcases h with ⟨kvs, e2, e3⟩ | ⟨xs, e2, e3⟩
    · exact .inl ⟨kvs, e _ _ e2, RpK.mono e l e3⟩
    · exact .inr ⟨xs, e _ _ e2, RpN.mono e l e3⟩
theorem RpL.mono (e : Same F F') : ∀ (l : List D) {vs : List V}, RpL W F l vs → RpL W F' l vs
  | [], _, h => by unfold RpL at h ⊢; exact h
  | d :: r, _, h => by
    unfold RpL at h ⊢
    obtain ⟨v, s, e1, e2, e3⟩ := h
    exact ⟨v, s, e1, Rp.mono e d e2, RpL.mono e r e3⟩
theorem RpK.mono (e : Same F F') : ∀ (l : List (D × D)) {vs : List (Key × V)}, RpK W F l vs → RpK W F' l vs
  | [], _, h => by unfold RpK at h ⊢; exact h
  | (k, d) :: r, _, h => by
    unfold RpK at h ⊢
    obtain ⟨y, v, s, e1, e2, e3, e4⟩ := h
    exact ⟨y, v, s, e1, e2, Rp.mono e d e3, RpK.mono e r e4⟩
theorem RpN.mono (e : Same F F') : ∀ (l : List (D × D)) {vs : List (NestedKey × Addr × V)}, RpN W F l vs → RpN W F' l vs
  | [], _, h => by unfold RpN at h ⊢; exact h
  | (k, d) :: r, _, h => by
    unfold RpN at h ⊢
    obtain ⟨y, q, v, s, e1, e2, e3, e4, e5⟩ := h
    exact ⟨y, q, v, s, e1, e2, Rp.mono e k e3, Rp.mono e d e4, RpN.mono e r e5⟩
end
theorem RpO.mono (e : Same F F') {a : Addr} {d : D} {o : HO} (h : RpO W F a d o) : RpO W F' a d o := by
  cases d with
  | lst l => obtain ⟨vs, e1, e2⟩ := h; exact ⟨vs, e1, e2.mono e⟩
  | dct l =>
    rcases h with ⟨vs, e1, e2⟩ | ⟨vs, e1, e2⟩
    · exact .inl ⟨vs, e1, e2.mono e⟩
    · exact .inr ⟨vs, e1, e2.mono e⟩
  | _ => exact h
theorem RpL.length : ∀ {l : List D} {vs : List V}, RpL W F l vs → l.length = vs.length
  | [], _, h => by unfold RpL at h; subst h; rfl
  | d :: r, _, h => by
    unfold RpL at h
    obtain ⟨v, s, rfl, _, h⟩ := h
    simp [h.length]
theorem RpL.get : ∀ {l : List D} {vs : List V} {i : Nat} {d : D}, RpL W F l vs → l[i]? = some d → ∃ v, vs[i]? = some v ∧ Rp W F d v
  | [], _, _, _, h, e => by simp at e
  | d :: r, _, 0, _, h, e => by
    unfold RpL at h
    obtain ⟨v, s, rfl, h1, _⟩ := h
    simp at e
    subst e
    exact ⟨v, by simp, h1⟩
  | d :: r, _, i + 1, x, h, e => by
    unfold RpL at h
    obtain ⟨v, s, rfl, _, h⟩ := h
    obtain ⟨u, e1, e2⟩ := RpL.get (i := i) h (by simpa using e)
    exact ⟨u, by simpa using e1, e2⟩
theorem RpL.getV : ∀ {l : List D} {vs : List V} {i : Nat} {v : V}, RpL W F l vs → vs[i]? = some v → ∃ d, l[i]? = some d ∧ Rp W F d v := by
  intro l vs i v h e
  have hi : i < vs.length := (List.getElem?_eq_some_iff.mp e).1
  rw [← h.length] at hi
  obtain ⟨u, e1, e2⟩ := h.get (List.getElem?_eq_getElem hi)
  rw [e] at e1
  cases e1
  exact ⟨_, List.getElem?_eq_getElem hi, e2⟩
theorem RpL.app : ∀ {l m : List D} {vs us : List V}, RpL W F l vs → RpL W F m us → RpL W F (l ++ m) (vs ++ us)
  | [], _, _, _, h, g => by unfold RpL at h; subst h; exact g
  | d :: r, _, _, _, h, g => by
    unfold RpL at h
    obtain ⟨v, s, rfl, h1, h⟩ := h
    show RpL W F (d :: (r ++ _)) _
    unfold RpL
    exact ⟨v, _, rfl, h1, RpL.app h g⟩
theorem RpL.one {d : D} {v : V} (h : Rp W F d v) : RpL W F [d] [v] := by
  unfold RpL
  exact ⟨v, [], rfl, h, by unfold RpL; rfl⟩
theorem RpL.nil : RpL W F [] [] := by unfold RpL; rfl
theorem RpL.cons {d : D} {v : V} {l : List D} {vs : List V} (h : Rp W F d v) (g : RpL W F l vs) : RpL W F (d :: l) (v :: vs) := by
  unfold RpL
  exact ⟨v, vs, rfl, h, g⟩
theorem RpL.take : ∀ (n : Nat) {l : List D} {vs : List V}, RpL W F l vs → RpL W F (l.take n) (vs.take n)
  | 0, _, _, _ => RpL.nil
  | n + 1, [], _, h => by unfold RpL at h; subst h; exact RpL.nil
  | n + 1, d :: r, _, h => by
    unfold RpL at h
    obtain ⟨v, s, rfl, h1, h⟩ := h
    exact RpL.cons h1 (RpL.take n h)
theorem RpL.drop : ∀ (n : Nat) {l : List D} {vs : List V}, RpL W F l vs → RpL W F (l.drop n) (vs.drop n)
  | 0, _, _, h => h
  | n + 1, [], _, h => by unfold RpL at h; subst h; exact RpL.nil
  | n + 1, d :: r, _, h => by
    unfold RpL at h
    obtain ⟨v, s, rfl, h1, h⟩ := h
    exact RpL.drop n h
theorem RpL.set {d : D} {v : V} (g : Rp W F d v) : ∀ (n : Nat) {l : List D} {vs : List V}, RpL W F l vs → RpL W F (l.set n d) (vs.set n v)
  | _, [], _, h => by unfold RpL at h; subst h; exact RpL.nil
  | 0, d :: r, _, h => by
    unfold RpL at h
    obtain ⟨v, s, rfl, h1, h⟩ := h
    exact RpL.cons g h
  | n + 1, d :: r, _, h => by
    unfold RpL at h
    obtain ⟨v, s, rfl, h1, h⟩ := h
    exact RpL.cons h1 (RpL.set g n h)
theorem RpL.eraseIdx : ∀ (n : Nat) {l : List D} {vs : List V}, RpL W F l vs → RpL W F (l.eraseIdx n) (vs.eraseIdx n)
  | _, [], _, h => by unfold RpL at h; subst h; exact RpL.nil
  | 0, d :: r, _, h => by
    unfold RpL at h
    obtain ⟨v, s, rfl, h1, h⟩ := h
    exact h
  | n + 1, d :: r, _, h => by
    unfold RpL at h
    obtain ⟨v, s, rfl, h1, h⟩ := h
    exact RpL.cons h1 (RpL.eraseIdx n h)
theorem RpL.reverse : ∀ {l : List D} {vs : List V}, RpL W F l vs → RpL W F l.reverse vs.reverse
  | [], _, h => by unfold RpL at h; subst h; exact RpL.nil
  | d :: r, _, h => by
    unfold RpL at h
    obtain ⟨v, s, rfl, h1, h⟩ := h
    rw [List.reverse_cons, List.reverse_cons]
    exact RpL.app h.reverse (RpL.one h1)
theorem RpL.rep {l : List D} {vs : List V} (h : RpL W F l vs) : ∀ n : Nat, RpL W F (List.replicate n l).flatten (List.replicate n vs).flatten
  | 0 => RpL.nil
  | n + 1 => by
    rw [List.replicate_succ, List.replicate_succ, List.flatten_cons, List.flatten_cons]
    exact RpL.app h (RpL.rep h n)
theorem RpL.cut {l : List D} {vs : List V} (h : RpL W F l vs) (lo hi : Option Int) : RpL W F (My.cut l lo hi) (cutV vs lo hi) := by
  unfold My.cut cutV
  rw [h.length]
  exact (h.drop _).take _
theorem RpL.atI {l : List D} {vs : List V} {i : Int} {d : D} (h : RpL W F l vs) (e : L2.atI l i = some d) : ∃ v, L2.atI vs i = some v ∧ Rp W F d v := by
  unfold L2.atI at e ⊢
  rw [h.length] at e
  cases q : ixN vs.length i with
  | none => rw [q] at e; cases e
  | some j =>
    rw [q] at e
    exact h.get e
theorem rpL_ints : ∀ (ns : List Int), RpL W F (ns.map D.int) (ns.map V.int)
  | [] => RpL.nil
  | n :: r => RpL.cons (by unfold Rp; rfl) (rpL_ints r)
theorem rpL_dInts : ∀ {l : List D} {ns : List Int} {vs : List V}, dInts l = some ns → RpL W F l vs → vs = ns.map V.int
  | [], _, _, e, h => by
    unfold RpL at h
    subst h
    simp [dInts] at e
    subst e
    rfl
  | d :: r, _, _, e, h => by
    unfold RpL at h
    obtain ⟨v, s, rfl, h1, h⟩ := h
    cases d <;> simp [dInts] at e
    obtain ⟨q, e1, rfl⟩ := e
    unfold Rp at h1
    subst h1
    rw [rpL_dInts e1 h]
    rfl
theorem rpL_dBls : ∀ {l : List D} {ns : List Bool} {vs : List V}, dBls l = some ns → RpL W F l vs → vs = ns.map V.bl
  | [], _, _, e, h => by
    unfold RpL at h
    subst h
    simp [dBls] at e
    subst e
    rfl
  | d :: r, _, _, e, h => by
    unfold RpL at h
    obtain ⟨v, s, rfl, h1, h⟩ := h
    cases d <;> simp [dBls] at e
    obtain ⟨q, e1, rfl⟩ := e
    unfold Rp at h1
    subst h1
    rw [rpL_dBls e1 h]
    rfl
end

/-! ### equality -/
section
variable {W : Wo} {H : Hp}
mutual
theorem Rp.dp : ∀ (d : D) {v : V} {p : PyData}, Rp W H d v → d.py = some p → Dp W.K H v p
  | .non, _, _, h, e => by unfold Rp at h; subst h; simp [D.py] at e; subst e; exact .non
  | .bl _, _, _, h, e => by unfold Rp at h; subst h; simp [D.py] at e; subst e; exact .bl _
  | .int _, _, _, h, e => by unfold Rp at h; subst h; simp [D.py] at e; subst e; exact .int _
  | .str _, _, _, h, e => by unfold Rp at h; subst h; simp [D.py] at e; subst e; exact .str _
  | .lst l, _, _, h, e => by
    unfold Rp at h
    obtain ⟨a, vs, rfl, h1, h2⟩ := h
    simp [D.py] at e
    obtain ⟨ps, e, rfl⟩ := e
    exact .lst h1 (RpL.dp l h2 e)
  | .tup l, _, _, h, e => by
    unfold Rp at h
    obtain ⟨a, vs, rfl, h1, h2⟩ := h
    simp [D.py] at e
    obtain ⟨ps, e, rfl⟩ := e
    exact .tup h1 (RpL.dp l h2 e)
  | .dct _, _, _, h, e => by simp [D.py] at e
theorem RpL.dp : ∀ (l : List D) {vs : List V} {ps : List PyData}, RpL W H l vs → D.pyL l = some ps → DpAll W.K H vs ps
  | [], _, _, h, e => by unfold RpL at h; subst h; simp [D.pyL] at e; subst e; exact .nil
  | d :: r, _, _, h, e => by
    unfold RpL at h
    obtain ⟨v, s, rfl, h1, h2⟩ := h
    unfold D.pyL at e
    simp only [Option.bind_eq_some_iff, Option.map_eq_some_iff] at e
    obtain ⟨p, e1, ps, e2, rfl⟩ := e
    exact .cons (Rp.dp d h1 e1) (RpL.dp r h2 e2)
end
end

/-! ### from one state to a later one -/
/-- F: what stands for good; H: all that is tracked -/
structure Ext (F H F' H' : Hp) : Prop where
  ff : Same F F'
  hh : Same H H'
  fh : Same F' H'
  nw : ∀ a o, F' a = some o → F a = some o ∨ H a = none
section
variable {W : Wo} {F H F1 H1 F2 H2 Hs : Hp}
theorem Ext.refl (h : Same F H) : Ext F H F H := ⟨Same.refl _, Same.refl _, h, fun _ _ e => .inl e⟩
theorem Ext.trans (a : Ext F H F1 H1) (b : Ext F1 H1 F2 H2) : Ext F H F2 H2 := ⟨a.ff.trans b.ff, a.hh.trans b.hh, b.fh, fun c o e => by
  rcases b.nw c o e with q | q
  · exact a.nw c o q
  · exact .inr (a.hh.free q)⟩
theorem Ext.keeps_none (a : Ext F H F1 H1) {p : Addr} {o : HO} (h : H p = some o) (f : F p = none) : F1 p = none := by
  cases q : F1 p with
  | none => rfl
  | some u =>
    rcases a.nw p u q with z | z
    · rw [f] at z; cases z
    · rw [h] at z; cases z
/-- a new object, for good -/
theorem Ext.new (h : Same F H) {p : Addr} (hp : H p = none) (o : HO) : Ext F H (upd F p o) (upd H p o) := by
  have fp : F p = none := h.free hp
  refine ⟨fun b u e => by rw [upd_ne (ne_of_none e fp)]; exact e, fun b u e => by rw [upd_ne (ne_of_none e hp)]; exact e, fun b u e => ?_, fun b u e => ?_⟩
  · by_cases hb : b = p
    · subst hb; rw [upd_same] at e ⊢; exact e
    · rw [upd_ne hb] at e ⊢; exact h b u e
  · by_cases hb : b = p
    · subst hb; exact .inr hp
    · rw [upd_ne hb] at e; exact .inl e
/-- a new object, not yet for good -/
theorem Ext.fresh (h : Same F H) {p : Addr} (hp : H p = none) (o : HO) : Ext F H F (upd H p o) :=
  ⟨Same.refl _, fun b u e => by rw [upd_ne (ne_of_none e hp)]; exact e, fun b u e => by rw [upd_ne (ne_of_none (h b u e) hp)]; exact h b u e, fun _ _ e => .inl e⟩

/-- lent: what a list or dict holds now -/
def Bo (W : Wo) (F H : Hp) : D → V → Prop
  | .lst l, v => ∃ p vs, v = .ref p ∧ SqL W.K H p vs ∧ RpL W F l vs
  | .dct l, v => ∃ p o, v = .ref p ∧ H p = some o ∧ RpO W F p (.dct l) o
  | _, _ => False
/-- v is what an expression gave, begun at Hs, ended at F, H -/
def VOk (W : Wo) (Hs F H : Hp) (c : C) (v : V) : Prop := match c.1 with
  | .val => Rp W F c.2 v
  | .own => ∃ p o, v = .ref p ∧ H p = some o ∧ RpO W F p c.2 o ∧ F p = none ∧ Hs p = none
  | _ => Bo W F H c.2 v
/-- what it may be read as -/
def Rd (W : Wo) (F H : Hp) : D → V → Prop
  | .lst l, v => ∃ p vs, v = .ref p ∧ SqL W.K H p vs ∧ RpL W F l vs
  | .dct l, v => ∃ p o, v = .ref p ∧ H p = some o ∧ RpO W F p (.dct l) o
  | d, v => Rp W F d v
theorem VOk.rd {c : C} {v : V} (fh : Same F H) (h : VOk W Hs F H c v) : Rd W F H c.2 v := by
  obtain ⟨m, d⟩ := c
  cases m with
  | val =>
    have h : Rp W F d v := h
    cases d with
    | lst l =>
      unfold Rp at h
      obtain ⟨a, vs, e1, e2, e3⟩ := h
      exact ⟨a, vs, e1, fh.seq e2, e3⟩
    | dct l =>
      unfold Rp at h
      obtain ⟨a, e1, h⟩ := h
      rcases h with ⟨kvs, e2, e3⟩ | ⟨kvs, e2, e3⟩
      · exact ⟨a, _, e1, fh _ _ e2, .inl ⟨kvs, rfl, e3⟩⟩
      · exact ⟨a, _, e1, fh _ _ e2, .inr ⟨kvs, rfl, e3⟩⟩
    | _ => exact h
  | own =>
    obtain ⟨p, o, e1, e2, e3, _⟩ := h
    cases d with
    | lst l =>
      obtain ⟨vs, rfl, e4⟩ := e3
      exact ⟨p, vs, e1, SqL.of e2, e4⟩
    | dct l => exact ⟨p, o, e1, e2, e3⟩
    | _ => exact e3.elim
  | bor =>
    cases d with
    | lst l => exact h
    | dct l => exact h
    | _ => exact False.elim h
  | lck =>
    cases d with
    | lst l => exact h
    | dct l => exact h
    | _ => exact False.elim h
theorem Bo.ext {d : D} {v : V} (x : Ext F H F1 H1) (h : Bo W F H d v) : Bo W F1 H1 d v := by
  cases d with
  | lst l =>
    obtain ⟨p, vs, e1, e2, e3⟩ := h
    exact ⟨p, vs, e1, x.hh.seq e2, e3.mono x.ff⟩
  | dct l =>
    obtain ⟨p, o, e1, e2, e3⟩ := h
    exact ⟨p, o, e1, x.hh _ _ e2, e3.mono x.ff⟩
  | _ => exact False.elim h
theorem VOk.ext {c : C} {v : V} (x : Ext F H F1 H1) (h : VOk W Hs F H c v) : VOk W Hs F1 H1 c v := by
  obtain ⟨m, d⟩ := c
  cases m with
  | val => exact Rp.mono x.ff d h
  | own =>
    obtain ⟨p, o, e1, e2, e3, e4, e5⟩ := h
    exact ⟨p, o, e1, x.hh _ _ e2, e3.mono x.ff, x.keeps_none e2 e4, e5⟩
  | bor => exact Bo.ext x h
  | lck => exact Bo.ext x h
theorem Rd.ext {d : D} {v : V} (x : Ext F H F1 H1) (h : Rd W F H d v) : Rd W F1 H1 d v := by
  cases d with
  | lst l =>
    obtain ⟨p, vs, e1, e2, e3⟩ := h
    exact ⟨p, vs, e1, x.hh.seq e2, e3.mono x.ff⟩
  | dct l =>
    obtain ⟨p, o, e1, e2, e3⟩ := h
    exact ⟨p, o, e1, x.hh _ _ e2, e3.mono x.ff⟩
  | _ => exact Rp.mono x.ff _ h
/-- for reading alone the whole heap will do -/
theorem Rd.all {d : D} {v : V} (fh : Same F H) (h : Rd W F H d v) : Rp W H d v := by
  cases d with
  | lst l =>
    obtain ⟨p, vs, e1, e2, e3⟩ := h
    unfold Rp
    exact ⟨p, vs, e1, e2, e3.mono fh⟩
  | dct l =>
    obtain ⟨p, o, e1, e2, e3⟩ := h
    unfold Rp
    refine ⟨p, e1, ?_⟩
    rcases e3 with ⟨vs, rfl, e4⟩ | ⟨vs, rfl, e4⟩
    · exact .inl ⟨vs, e2, e4.mono fh⟩
    · exact .inr ⟨vs, e2, e4.mono fh⟩
  | _ => exact Rp.mono fh _ h
/-- an object of ours put for good -/
theorem keep1 (x : Ext F H F1 H1) {p : Addr} {o : HO} (e : H1 p = some o) (n : H p = none) : ∃ F2, Ext F H F2 H1 ∧ Same F1 F2 ∧ F2 p = some o := by
  cases q : F1 p with
  | some u =>
    have := x.fh p u q
    rw [e] at this
    cases this
    exact ⟨F1, x, Same.refl _, q⟩
  | none =>
    have s : Same F1 (upd F1 p o) := fun b u z => by rw [upd_ne (ne_of_none z q)]; exact z
    refine ⟨upd F1 p o, ⟨x.ff.trans s, x.hh, fun b u z => ?_, fun b u z => ?_⟩, s, upd_same⟩
    · by_cases hb : b = p
      · subst hb; rw [upd_same] at z; cases z; exact e
      · rw [upd_ne hb] at z; exact x.fh b u z
    · by_cases hb : b = p
      · subst hb; exact .inr n
      · rw [upd_ne hb] at z; exact x.nw b u z
theorem RpO.rp {p : Addr} {d : D} {o : HO} (e : F p = some o) (h : RpO W F p d o) : Rp W F d (.ref p) := by
  cases d with
  | lst l =>
    obtain ⟨vs, rfl, e4⟩ := h
    unfold Rp
    exact ⟨p, vs, rfl, SqL.of e, e4⟩
  | dct l =>
    unfold Rp
    refine ⟨p, rfl, ?_⟩
    rcases h with ⟨vs, rfl, e4⟩ | ⟨vs, rfl, e4⟩
    · exact .inl ⟨vs, e, e4⟩
    · exact .inr ⟨vs, e, e4⟩
  | _ => exact h.elim
/-- .. so that it may be handed on -/
theorem VOk.keep {c : C} {d : D} {v : V} (x : Ext F H F1 H1) (h : VOk W H F1 H1 c v) (e : vl c = some d) : ∃ F2, Ext F H F2 H1 ∧ Same F1 F2 ∧ Rp W F2 d v := by
  obtain ⟨m, d'⟩ := c
  cases m with
  | val => cases e; exact ⟨F1, x, Same.refl _, h⟩
  | own =>
    cases e
    obtain ⟨p, o, rfl, e2, e3, e4, e5⟩ := h
    obtain ⟨F2, x2, s, e6⟩ := keep1 x e2 e5
    exact ⟨F2, x2, s, RpO.rp e6 (e3.mono s)⟩
  | bor => cases e
  | lck => cases e
end
end My
end

section
set_option Elab.async false
set_option linter.all false
set_option maxRecDepth 100000
/-! Ops: operators and comparisons keep what op2 says. -/
namespace My
open PySem PySem.Spec L2 PyProof.Rows
abbrev wo (X : Cx) : Wo := ⟨X.prog, X.w, X.K⟩
theorem sl_eq : (SL : Nat) = sizeLine := by rw [sizeLine_eq]
section
variable {W : Wo} {F H : Hp} {v : V}
theorem rp_int {i : Int} : Rp W F (.int i) v ↔ v = .int i := by unfold Rp; exact Iff.rfl
theorem rp_bl {i : Bool} : Rp W F (.bl i) v ↔ v = .bl i := by unfold Rp; exact Iff.rfl
theorem rp_str {i : Str} : Rp W F (.str i) v ↔ v = .str i := by unfold Rp; exact Iff.rfl
theorem rp_non : Rp W F .non v ↔ v = .non := by unfold Rp; exact Iff.rfl
theorem rp_tup {l : List D} : Rp W F (.tup l) v ↔ ∃ a vs, v = .ref a ∧ SqT W.K F a vs ∧ RpL W F l vs := by unfold Rp; exact Iff.rfl
theorem rp_lst {l : List D} : Rp W F (.lst l) v ↔ ∃ a vs, v = .ref a ∧ SqL W.K F a vs ∧ RpL W F l vs := by unfold Rp; exact Iff.rfl
theorem rd_int {i : Int} : Rd W F H (.int i) v ↔ v = .int i := rp_int (W := W) (F := F)
theorem rd_bl {i : Bool} : Rd W F H (.bl i) v ↔ v = .bl i := rp_bl (W := W) (F := F)
theorem rd_str {i : Str} : Rd W F H (.str i) v ↔ v = .str i := rp_str (W := W) (F := F)
theorem rd_non : Rd W F H .non v ↔ v = .non := rp_non (W := W) (F := F)
theorem rd_tup {l : List D} : Rd W F H (.tup l) v ↔ ∃ a vs, v = .ref a ∧ SqT W.K F a vs ∧ RpL W F l vs := rp_tup (W := W) (F := F)
theorem rd_lst {l : List D} : Rd W F H (.lst l) v ↔ ∃ a vs, v = .ref a ∧ SqL W.K H a vs ∧ RpL W F l vs := Iff.rfl
end

/-- what an operator's rule asks and gives, by data -/
def rD (W : Wo) (o : Op2) : R2 := fun x y H Q => ∃ F d e c, Same F H ∧ Rd W F H d x ∧ Rd W F H e y ∧ op2 o d e = some c ∧ ∀ v H' F', Ext F H F' H' → VOk W H F' H' c v → Q v H'

section
variable {X : Cx} {F H : Hp} {Q : VK}
/-- a plain value is given -/
theorem give_val {W : Wo} {d : D} {v : V} (fh : Same F H) (q : ∀ v H' F', Ext F H F' H' → VOk W H F' H' (.val, d) v → Q v H') (h : Rp W F d v) : Q v H := q v H F (Ext.refl fh) h
theorem give_newL {W : Wo} {l : List D} {vs : List V} (fh : Same F H) (q : ∀ v H' F', Ext F H F' H' → VOk W H F' H' (.own, .lst l) v → Q v H') (h : RpL W F l vs) : ∀ p, H p = none → Q (.ref p) (upd H p (.lst vs)) := fun p hp =>
  q (.ref p) _ F (Ext.fresh fh hp _) ⟨p, _, rfl, upd_same, ⟨vs, rfl, h⟩, fh.free hp, hp⟩
theorem give_newT {W : Wo} {l : List D} {vs : List V} (fh : Same F H) (q : ∀ v H' F', Ext F H F' H' → VOk W H F' H' (.val, .tup l) v → Q v H') (h : RpL W F l vs) : ∀ p, H p = none → Q (.ref p) (upd H p (.tup vs)) := fun p hp => by
  have x := Ext.new fh hp (.tup vs)
  refine q (.ref p) _ _ x ?_
  show Rp W _ (.tup l) _
  rw [rp_tup]
  exact ⟨p, vs, rfl, SqT.of upd_same, h.mono x.ff⟩

theorem opd_sub : OpR X (binaryOp .Sub) (rD (wo X) .sub) := by
  intro pins s σ H x y v u Q I rx ry ⟨F, d, e, c, fh, hd, he, ho, q⟩
  cases d <;> cases e <;> simp [op2, opAdd, opSub, opMul, opDiv, opMod, opPow, opOrd] at ho
  subst ho
  rw [rd_int] at hd he
  subst hd he
  exact op_sub pins s σ H _ _ v u Q I rx ry ⟨_, _, rfl, rfl, give_val fh q (rp_int.mpr rfl)⟩
theorem opd_fdiv : OpR X (binaryOp .FloorDiv) (rD (wo X) .fdiv) := by
  intro pins s σ H x y v u Q I rx ry ⟨F, d, e, c, fh, hd, he, ho, q⟩
  cases d <;> cases e <;> simp [op2, opAdd, opSub, opMul, opDiv, opMod, opPow, opOrd] at ho
  obtain ⟨hb, ho⟩ := ho
  subst ho
  rw [rd_int] at hd he
  subst hd he
  exact op_fdiv pins s σ H _ _ v u Q I rx ry ⟨_, _, rfl, rfl, hb, give_val fh q (rp_int.mpr rfl)⟩
theorem opd_mod : OpR X (binaryOp .Mod) (rD (wo X) .mod) := by
  intro pins s σ H x y v u Q I rx ry ⟨F, d, e, c, fh, hd, he, ho, q⟩
  cases d <;> cases e <;> simp [op2, opAdd, opSub, opMul, opDiv, opMod, opPow, opOrd] at ho
  obtain ⟨hb, ho⟩ := ho
  subst ho
  rw [rd_int] at hd he
  subst hd he
  exact op_mod pins s σ H _ _ v u Q I rx ry ⟨_, _, rfl, rfl, hb, give_val fh q (rp_int.mpr rfl)⟩
theorem opd_pow : OpR X (binaryOp .Pow) (rD (wo X) .pow) := by
  intro pins s σ H x y v u Q I rx ry ⟨F, d, e, c, fh, hd, he, ho, q⟩
  cases d <;> cases e <;> simp [op2, opAdd, opSub, opMul, opDiv, opMod, opPow, opOrd] at ho
  obtain ⟨hb, ho⟩ := ho
  subst ho
  rw [rd_int] at hd he
  subst hd he
  exact op_pow pins s σ H _ _ v u Q I rx ry ⟨_, _, rfl, rfl, ⟨hb.1, hb.2.1, by simpa using hb.2.2⟩, give_val fh q (rp_int.mpr rfl)⟩
theorem list_mulW (l : Addr) (items : Array Value) (n : Nat) (dd : Option Addr) (sl : Array (Option Value)) (x : Int) (u : Tok) (hc0 : ¬(!Builtin.List.listFitsIndex x) = true) (hc1 : ¬items.size * x.toNat > (2 ^ 63 - 1) / 8) (hc2 : ¬Builtin.List.listTooLong (items.size * x.toNat) = true) :
    Meets (Builtin.«list.__mul__» ⟨[.ref l, .int x u], []⟩) (fun _ R s => s.heap.get? l = some { cls := .type "list", dict := dd, data := .seq items n, slots := sl } ∧ R (.ok (.ret (Value.ref s.heap.objs.size))) { s with heap := s.heap.push { cls := Value.type "list", data := Data.seq (List.foldl (fun x1 x2 => x1 ++ x2) #[] (List.replicate (if items.isEmpty = true then 0 else x.toNat) items)) }, toks := s.toks }) :=
  .of_wp fun prog w A R s h => by
    obtain ⟨hp, g, d, tk, os⟩ := s; obtain ⟨hl, h⟩ := h
    have hsz := AutoListH.joined_fits hc2
    wp_walk using wpAny_loadPart' hl; refine wpAny_ite_false (decide_eq_false (Nat.not_lt.mpr hsz)) ?_; wp_walk using wpAny_loadPart' hl; exact ⟨_, rfl, h⟩

theorem int_rmulW (a : Int) (t : Tok) (l : Addr) (items : Array Value) (n : Nat) (dd : Option Addr) (sl : Array (Option Value)) :
    Meets (Builtin.«int.__rmul__» ⟨[.int a t, .ref l], []⟩) (fun _ R s => s.heap.get? l = some { cls := .type "list", dict := dd, data := .seq items n, slots := sl } ∧ R (.ok (.ret Value.notImplemented)) s) :=
  .of_wp fun prog w A R s h => by obtain ⟨hp, g, d, tk, os⟩ := s; obtain ⟨hl, h⟩ := h; wp_walk using wpAny_loadPart' hl; exact ⟨_, rfl, h⟩
def rRepS (K : PySem.W.Frag) : R2 := fun x y H Q => ∃ l k xs, x = .ref l ∧ y = .int k ∧ SqL K H l xs ∧ -(2 ^ 63) ≤ k ∧ k < 2 ^ 63 ∧ xs.length * k.toNat ≤ sizeLine ∧
  ∀ p, H p = none → Q (.ref p) (upd H p (.lst (List.replicate k.toNat xs).flatten))
theorem op_repS : OpR X (binaryOp .Mult) (rRepS X.K) := by
  intro pins s σ H x y v u Q I rx ry h
  obtain ⟨l, k, xs, rfl, rfl, hH, h1, h2, hz, q⟩ := h
  cases rx
  obtain ⟨t, rfl⟩ := ry
  obtain ⟨its, r, pl, z⟩ := I.list hH
  have hl := r.length
  obtain ⟨⟨cls, dd, data, sl⟩, n, e, c1, c2, c3⟩ := pl
  simp only at c1 c2 c3
  subst c1 c2 c3
  have hlen : its.toArray.size * k.toNat ≤ sizeLine := by rw [List.size_toArray, ← hl]; exact hz
  have hcap : ¬ its.toArray.size * k.toNat > (2 ^ 63 - 1) / 8 := by
    have : (sizeLine : Nat) ≤ (2 ^ 63 - 1) / 8 := by decide
    omega
  have hfit : ¬ (!Builtin.List.listFitsIndex k) = true := by
    rw [fitsIndex_both h1 h2]
    exact Bool.false_ne_true
  have hlong : ¬ Builtin.List.listTooLong (its.toArray.size * k.toNat) = true := by
    rw [notLongL hlen]
    exact Bool.false_ne_true
  have hnew : List.foldl (fun x1 x2 => x1 ++ x2) #[] (List.replicate (if its.toArray.isEmpty = true then 0 else k.toNat) its.toArray) = (List.replicate k.toNat its).flatten.toArray := by
    have f0 : ∀ m : Nat, List.foldl (fun x1 x2 => x1 ++ x2) #[] (List.replicate m its.toArray) = (List.replicate m its).flatten.toArray := fun m => by
      have := foldl_rep its m []
      rw [List.nil_append] at this
      exact this
    rw [f0]
    cases its with
    | nil => simp
    | cons a r' => rw [if_neg (by simp)]
  refine wpAny_binaryOp_repeat_ref (T := "list") (U := "int") (by decide) ⟨_, e, rfl⟩ (fun s' => typeIs_int s' k t) noFill_list_mul F.fills_int_mul F.slot_int_rmul repeat_list F.slot_int_index.lookup
    (call_meets F.slot_int_rmul (typeIs_int s k t) F.entry_int_rmul (F.args_int_rmul_2 _ _) (int_rmulW k t l its.toArray n none sl)
      ⟨e, rfl, ⟨_, e, rfl⟩, call_meets F.slot_list_mul ⟨_, e, rfl⟩ F.entry_list_mul (F.args_list_mul_2 _ _) (list_mulW l its.toArray n none sl k t hfit hcap hlong) ⟨e, ?_⟩⟩)
  rw [hnew]
  exact ⟨.ref _, _, I.lnew (t' := s.toks) (r.rep k.toNat) (by rw [PyProof.Rows.lm_len_rep_flat, Nat.mul_comm]; exact hz), rfl, q _ I.fresh⟩
def rCatS (K : PySem.W.Frag) : R2 := fun x y H Q => ∃ l b xs zs, x = .ref l ∧ y = .ref b ∧ SqL K H l xs ∧ SqL K H b zs ∧ xs.length + zs.length ≤ sizeLine ∧ ∀ p, H p = none → Q (.ref p) (upd H p (.lst (xs ++ zs)))
theorem op_catS : OpR X (binaryOp .Add) (rCatS X.K) := by
  intro pins s σ H x y v u Q I rx ry h
  obtain ⟨l, b, xs, zs, rfl, rfl, hH, hB, hz, q⟩ := h
  cases rx
  cases ry
  obtain ⟨its, r, pl, z⟩ := I.list hH
  obtain ⟨its2, r2, pl2, z2⟩ := I.list hB
  have hl := r.length
  have hl2 := r2.length
  obtain ⟨⟨cls, dd, data, sl⟩, n, e, c1, c2, c3⟩ := pl
  obtain ⟨⟨cls2, dd2, data2, sl2⟩, n2, e2, c12, c22, c32⟩ := pl2
  simp only at c1 c2 c3 c12 c22 c32
  subst c1 c2 c3 c12 c22 c32
  refine concat_meets ⟨_, e, rfl⟩ ⟨_, e2, rfl⟩ noFill_list_add seq_list_add PySem.F.slot_list_add PySem.F.entry_list_add (PySem.F.args_list_add_2 _ _) (list_addW l b its.toArray its2.toArray n n2 none none sl sl2 (by rw [List.size_toArray, List.size_toArray]; omega)) ⟨e, e2, ?_⟩
  have ea : its.toArray ++ its2.toArray = (its ++ its2).toArray := by simp
  rw [ea]
  exact ⟨.ref _, _, I.lnew (t' := s.toks) (r.append r2) (by rw [List.length_append]; omega), rfl, q _ I.fresh⟩

theorem opd_add : OpR X (binaryOp .Add) (rD (wo X) .add) := by
  intro pins s σ H x y v u Q I rx ry ⟨F, d, e, c, fh, hd, he, ho, q⟩
  cases d <;> cases e <;> simp [op2, opAdd, opSub, opMul, opDiv, opMod, opPow, opOrd] at ho
  · subst ho
    rw [rd_int] at hd he
    subst hd he
    exact op_add pins s σ H _ _ v u Q I rx ry ⟨_, _, rfl, rfl, give_val fh q (rp_int.mpr rfl)⟩
  · obtain ⟨hb, ho⟩ := ho
    subst ho
    rw [rd_str] at hd he
    subst hd he
    exact op_add_str pins s σ H _ _ v u Q I rx ry ⟨_, _, rfl, rfl, by rw [← sl_eq]; exact hb, give_val fh q (rp_str.mpr rfl)⟩
  · obtain ⟨hb, ho⟩ := ho
    subst ho
    rw [rd_lst] at hd he
    obtain ⟨a, vs, rfl, h1, h2⟩ := hd
    obtain ⟨b, us, rfl, g1, g2⟩ := he
    exact op_catS pins s σ H _ _ v u Q I rx ry ⟨_, _, _, _, rfl, rfl, h1, g1, by rw [← sl_eq, ← h2.length, ← g2.length]; exact hb, give_newL fh q (h2.app g2)⟩
  · obtain ⟨hb, ho⟩ := ho
    subst ho
    rw [rd_tup] at hd he
    obtain ⟨a, vs, rfl, h1, h2⟩ := hd
    obtain ⟨b, us, rfl, g1, g2⟩ := he
    refine op_catA pins s σ H _ _ v u Q I rx ry ⟨_, _, _, _, rfl, rfl, Same.sqT fh h1, Same.sqT fh g1, by rw [← sl_eq, ← h2.length, ← g2.length]; exact hb, fun n => ?_, fun _ n => ?_, fun _ _ => give_newT fh q (h2.app g2)⟩
    · subst n
      refine give_val fh q (rp_tup.mpr ⟨b, us, rfl, g1, ?_⟩)
      have := h2.app g2
      rwa [List.nil_append] at this
    · subst n
      refine give_val fh q (rp_tup.mpr ⟨a, vs, rfl, h1, ?_⟩)
      have := h2.app g2
      rwa [List.append_nil] at this
theorem opd_mul : OpR X (binaryOp .Mult) (rD (wo X) .mul) := by
  intro pins s σ H x y v u Q I rx ry ⟨F, d, e, c, fh, hd, he, ho, q⟩
  cases d <;> cases e <;> simp [op2, opAdd, opSub, opMul, opDiv, opMod, opPow, opOrd] at ho
  · obtain ⟨hb, ho⟩ := ho
    subst ho
    rw [rd_int] at hd he
    subst hd he
    exact op_mul pins s σ H _ _ v u Q I rx ry ⟨_, _, rfl, rfl, hb, give_val fh q (rp_int.mpr rfl)⟩
  · obtain ⟨hb, ho⟩ := ho
    subst ho
    rw [rd_int] at he
    subst he
    rw [rd_lst] at hd
    obtain ⟨a, vs, rfl, h1, h2⟩ := hd
    exact op_repS pins s σ H _ _ v u Q I rx ry ⟨_, _, _, rfl, rfl, h1, hb.1, hb.2.1, by rw [← sl_eq, ← h2.length]; exact hb.2.2, give_newL fh q (h2.rep _)⟩
theorem opd_lt : OpR X (compareOp .Lt) (rD (wo X) .lt) := by
  intro pins s σ H x y v u Q I rx ry ⟨F, d, e, c, fh, hd, he, ho, q⟩
  cases d <;> cases e <;> simp [op2, opAdd, opSub, opMul, opDiv, opMod, opPow, opOrd] at ho
  subst ho
  rw [rd_int] at hd he
  subst hd he
  exact op_lt pins s σ H _ _ v u Q I rx ry ⟨_, _, rfl, rfl, give_val fh q (rp_bl.mpr rfl)⟩
theorem opd_le : OpR X (compareOp .LtE) (rD (wo X) .le) := by
  intro pins s σ H x y v u Q I rx ry ⟨F, d, e, c, fh, hd, he, ho, q⟩
  cases d <;> cases e <;> simp [op2, opAdd, opSub, opMul, opDiv, opMod, opPow, opOrd] at ho
  subst ho
  rw [rd_int] at hd he
  subst hd he
  exact op_le pins s σ H _ _ v u Q I rx ry ⟨_, _, rfl, rfl, give_val fh q (rp_bl.mpr rfl)⟩
theorem opd_gt : OpR X (compareOp .Gt) (rD (wo X) .gt) := by
  intro pins s σ H x y v u Q I rx ry ⟨F, d, e, c, fh, hd, he, ho, q⟩
  cases d <;> cases e <;> simp [op2, opAdd, opSub, opMul, opDiv, opMod, opPow, opOrd] at ho
  subst ho
  rw [rd_int] at hd he
  subst hd he
  exact op_gt pins s σ H _ _ v u Q I rx ry ⟨_, _, rfl, rfl, give_val fh q (rp_bl.mpr rfl)⟩
theorem opd_ge : OpR X (compareOp .GtE) (rD (wo X) .ge) := by
  intro pins s σ H x y v u Q I rx ry ⟨F, d, e, c, fh, hd, he, ho, q⟩
  cases d <;> cases e <;> simp [op2, opAdd, opSub, opMul, opDiv, opMod, opPow, opOrd] at ho
  subst ho
  rw [rd_int] at hd he
  subst hd he
  exact op_ge pins s σ H _ _ v u Q I rx ry ⟨_, _, rfl, rfl, give_val fh q (rp_bl.mpr rfl)⟩
theorem eqD_some {d e : D} {b : Bool} (h : eqD d e = some b) : ∃ p q, d.py = some p ∧ e.py = some q ∧ SeqAt.shaped p = true ∧ SeqAt.shaped q = true ∧ b = PyData.eqv p q := by
  unfold eqD at h
  simp only [Option.bind_eq_some_iff] at h
  obtain ⟨p, hp, r, hr, h⟩ := h
  split at h
  · rename_i hs
    rw [Bool.and_eq_true] at hs
    cases h
    exact ⟨p, r, hp, hr, hs.1, hs.2, rfl⟩
  · cases h
theorem opd_eq (hu : X.A.units + 64 < cLine) : OpR X (compareOp .Eq) (rD (wo X) .eq) := by
  intro pins s σ H x y v u Q I rx ry ⟨F, d, e, c, fh, hd, he, ho, q⟩
  simp only [op2, Option.map_eq_some_iff] at ho
  obtain ⟨b, hb, rfl⟩ := ho
  obtain ⟨p, r, hp, hr, s1, s2, rfl⟩ := eqD_some hb
  exact op_eqD hu pins s σ H _ _ v u Q I rx ry ⟨p, r, Rp.dp _ (hd.all fh) hp, Rp.dp _ (he.all fh) hr, s1, s2, give_val fh q (rp_bl.mpr rfl)⟩
theorem opd_ne (hu : X.A.units + 64 < cLine) : OpR X (compareOp .NotEq) (rD (wo X) .ne) := by
  intro pins s σ H x y v u Q I rx ry ⟨F, d, e, c, fh, hd, he, ho, q⟩
  simp only [op2, Option.map_eq_some_iff] at ho
  obtain ⟨b, hb, rfl⟩ := ho
  obtain ⟨p, r, hp, hr, s1, s2, rfl⟩ := eqD_some hb
  exact op_neD hu pins s σ H _ _ v u Q I rx ry ⟨p, r, Rp.dp _ (hd.all fh) hp, Rp.dp _ (he.all fh) hr, s1, s2, give_val fh q (rp_bl.mpr rfl)⟩
theorem rd_nonV {W : Wo} {F H : Hp} {d : D} {x : V} (h : Rd W F H d x) : decide (x = .non) = d.isNon := by
  cases d with
  | non => rw [rd_non] at h; subst h; rfl
  | bl b => rw [rd_bl] at h; subst h; rfl
  | int b => rw [rd_int] at h; subst h; rfl
  | str b => rw [rd_str] at h; subst h; rfl
  | lst l => obtain ⟨a, vs, rfl, _⟩ := h; rfl
  | tup l => rw [rd_tup] at h; obtain ⟨a, vs, rfl, _⟩ := h; rfl
  | dct l => obtain ⟨a, vs, rfl, _⟩ := h; rfl
theorem opd_is : OpR X (compareOp .Is) (rD (wo X) .is) := by
  intro pins s σ H x y v u Q I rx ry ⟨F, d, e, c, fh, hd, he, ho, q⟩
  simp only [op2, Option.map_eq_some_iff] at ho
  obtain ⟨k, ho, rfl⟩ := ho
  unfold opIs at ho
  split at ho
  · cases ho
    cases rd_non.mp he
    exact op_isN pins s σ H _ _ v u Q I rx ry ⟨rfl, give_val fh q (rp_bl.mpr (by rw [rd_nonV hd]))⟩
  · cases ho
    cases rd_bl.mp he
    cases rd_bl.mp hd
    exact op_isBl pins s σ H _ _ v u Q I rx ry ⟨_, _, rfl, rfl, give_val fh q (rp_bl.mpr (by rw [Bool.beq_eq_decide_eq]))⟩
  · cases ho
theorem opd_isnot : OpR X (compareOp .IsNot) (rD (wo X) .isnot) := by
  intro pins s σ H x y v u Q I rx ry ⟨F, d, e, c, fh, hd, he, ho, q⟩
  simp only [op2, Option.map_eq_some_iff] at ho
  obtain ⟨k, ho, rfl⟩ := ho
  unfold opIs at ho
  split at ho
  · cases ho
    cases rd_non.mp he
    exact op_notN pins s σ H _ _ v u Q I rx ry ⟨rfl, give_val fh q (rp_bl.mpr (by rw [rd_nonV hd]))⟩
  · cases ho
    cases rd_bl.mp he
    cases rd_bl.mp hd
    exact op_isnot_bl pins s σ H _ _ v u Q I rx ry ⟨_, _, rfl, rfl, give_val fh q (rp_bl.mpr (by rw [Bool.beq_eq_decide_eq]))⟩
  · cases ho
theorem memD_some {d : D} {l : List D} {b : Bool} (h : memD d l = some b) : ∃ q ps, d.py = some q ∧ D.pyL l = some ps ∧ SeqAt.shaped q = true ∧ (∀ p ∈ ps, SeqAt.shaped p = true) ∧ b = ps.any fun z => PyData.eqv z q := by
  unfold memD at h
  simp only [Option.bind_eq_some_iff] at h
  obtain ⟨q, hq, ps, hp, h⟩ := h
  split at h
  · rename_i hs
    rw [Bool.and_eq_true, List.all_eq_true] at hs
    cases h
    exact ⟨q, ps, hq, hp, hs.1, hs.2, rfl⟩
  · cases h
theorem layAll_of : ∀ {ps : List PyData}, (∀ p ∈ ps, SeqAt.shaped p = true) → PyData.canLayAll0 ps = true
  | [], _ => rfl
  | p :: r, h => by
    unfold PyData.canLayAll0
    rw [SeqAt.canLay_of_shaped (h p List.mem_cons_self), layAll_of fun q hq => h q (List.mem_cons_of_mem _ hq)]
    rfl
/-- what stands behind a membership test -/
theorem mem_items {pins : List (Addr × Obj)} {s : Shared} {σ : L2.St} {l : List D} {ps : List PyData} {vs : List V} {its : List Value} {d : D} {q : PyData} {x : V} {v : Value} (hu : X.A.units + 65 < cLine) (I : Inv X pins σ H s) (hr : RpL (wo X) H l vs) (hp : D.pyL l = some ps) (hs : ∀ p ∈ ps, SeqAt.shaped p = true)
    (rv : Vals vs its) (hd : Rp (wo X) H d x) (hq : d.py = some q) (sq : SeqAt.shaped q = true) (rx : RelV x v) :
    (∀ y, y ∈ its.toArray → SeqAt.EqAt X.A.in1 s y v (PyData.eqv (SeqAt.readOf s.heap y) q)) ∧ its.toArray.any (fun y => PyData.eqv (SeqAt.readOf s.heap y) q) = ps.any fun z => PyData.eqv z q := by
  obtain ⟨bs, r1⟩ := Dp.reads I q x v (Rp.dp d hd hq) rx
  have hxs := layAll_of hs
  obtain ⟨as, h4⟩ := Dp.readsAll I ps vs its (RpL.dp l hr hp) rv
  have hmap : its.map (SeqAt.readOf s.heap) = ps := SeqAt.readsAll_map ps its as hxs h4
  refine ⟨SeqAt.items_eqAt (vs := its.toArray) (show ReadsAll s.heap its.toArray.toList ps as from h4) r1 hxs (SeqAt.canLay_of_shaped sq) (room_in_shaped sq hu), ?_⟩
  rw [← hmap, List.any_map]
  simp [Function.comp_def]
theorem opd_in (hu : X.A.units + 65 < cLine) : OpR X (compareOp .In) (rD (wo X) .isin) := by
  intro pins s σ H x y v u Q I rx ry ⟨F, d, e, c, fh, hd, he, ho, q⟩
  simp only [op2, Option.map_eq_some_iff] at ho
  obtain ⟨b, ho, rfl⟩ := ho
  cases e <;> simp only [opIn, reduceCtorEq] at ho
  · rename_i l
    have hb := ho
    obtain ⟨k, ps, hk, hp, sk, sp, rfl⟩ := memD_some hb
    rw [rd_lst] at he
    obtain ⟨a, vs, rfl, h1, h2⟩ := he
    cases ry
    obtain ⟨its, r, pl, z⟩ := I.list h1
    obtain ⟨e1, e2⟩ := mem_items hu I (h2.mono fh) hp sp r (hd.all fh) hk sk rx
    exact SeqAt.in_listAt _ pl.isList e1 ⟨.bl _, H, I, rfl, by rw [e2]; exact give_val fh q (rp_bl.mpr rfl)⟩
  · rename_i l
    have hb := ho
    obtain ⟨k, ps, hk, hp, sk, sp, rfl⟩ := memD_some hb
    rw [rd_tup] at he
    obtain ⟨a, vs, rfl, h1, h2⟩ := he
    cases ry
    obtain ⟨its, r, pl, z⟩ := I.tuple (Same.sqT fh h1)
    obtain ⟨e1, e2⟩ := mem_items hu I (h2.mono fh) hp sp r (hd.all fh) hk sk rx
    exact SeqAt.in_tupleAt _ pl e1 ⟨.bl _, H, I, rfl, by rw [e2]; exact give_val fh q (rp_bl.mpr rfl)⟩
theorem opd_notin (hu : X.A.units + 65 < cLine) : OpR X (compareOp .NotIn) (rD (wo X) .notin) := by
  intro pins s σ H x y v u Q I rx ry ⟨F, d, e, c, fh, hd, he, ho, q⟩
  simp only [op2, Option.map_eq_some_iff] at ho
  obtain ⟨b, ho, rfl⟩ := ho
  cases e <;> simp only [opIn, reduceCtorEq] at ho
  · rename_i l
    have hb := ho
    obtain ⟨k, ps, hk, hp, sk, sp, rfl⟩ := memD_some hb
    rw [rd_lst] at he
    obtain ⟨a, vs, rfl, h1, h2⟩ := he
    cases ry
    obtain ⟨its, r, pl, z⟩ := I.list h1
    obtain ⟨e1, e2⟩ := mem_items hu I (h2.mono fh) hp sp r (hd.all fh) hk sk rx
    exact SeqAt.notIn_listAt _ pl.isList e1 ⟨.bl _, H, I, rfl, by rw [e2]; exact give_val fh q (rp_bl.mpr rfl)⟩
  · rename_i l
    have hb := ho
    obtain ⟨k, ps, hk, hp, sk, sp, rfl⟩ := memD_some hb
    rw [rd_tup] at he
    obtain ⟨a, vs, rfl, h1, h2⟩ := he
    cases ry
    obtain ⟨its, r, pl, z⟩ := I.tuple (Same.sqT fh h1)
    obtain ⟨e1, e2⟩ := mem_items hu I (h2.mono fh) hp sp r (hd.all fh) hk sk rx
    exact SeqAt.notIn_tupleAt _ pl e1 ⟨.bl _, H, I, rfl, by rw [e2]; exact give_val fh q (rp_bl.mpr rfl)⟩
theorem ixd : IxR X (rD (wo X) .idx) := by
  intro value slice pins s σ H x y v u Q I rx ry ⟨F, d, e, c, fh, hd, he, ho, q⟩ hs
  cases d <;> cases e <;> simp only [op2, opIdx, Option.map_eq_some_iff, reduceCtorEq] at ho
  · rename_i z i
    split at ho
    · rename_i hz
      simp only [strAt, Option.map_eq_some_iff] at ho
      obtain ⟨w, ⟨cc, h1, rfl⟩, rfl⟩ := ho
      rw [rd_int] at he
      rw [rd_str] at hd
      subst hd he
      exact ix_str value slice pins s σ H _ _ v u Q I rx ry ⟨_, _, _, rfl, rfl, by rw [← sl_eq]; exact hz, h1, give_val fh q (rp_str.mpr rfl)⟩ hs
    · cases ho
  · rename_i l i
    obtain ⟨dd, h1, rfl⟩ := ho
    rw [rd_int] at he
    rw [rd_lst] at hd
    obtain ⟨a, vs, rfl, g1, g2⟩ := hd
    subst he
    obtain ⟨w, e1, e2⟩ := g2.atI h1
    exact ix_list value slice pins s σ H _ _ v u Q I rx ry ⟨_, _, _, _, rfl, rfl, g1, e1, give_val fh q e2⟩ hs
  · rename_i l i
    obtain ⟨dd, h1, rfl⟩ := ho
    rw [rd_int] at he
    rw [rd_tup] at hd
    obtain ⟨a, vs, rfl, g1, g2⟩ := hd
    subst he
    obtain ⟨w, e1, e2⟩ := g2.atI h1
    exact ix_tup value slice pins s σ H _ _ v u Q I rx ry ⟨_, _, _, _, rfl, rfl, Same.sqT fh g1, e1, give_val fh q e2⟩ hs
end
end My
end

section
set_option Elab.async false
set_option linter.all false
set_option maxRecDepth 100000
/-! Sound1: the slots, expressions' readings. -/
namespace My
open PySem PySem.Spec L2 PyProof.Rows

/-- what loops walk, and the heap as the def was entered -/
structure Lk where
  ad : Nat → Option Addr
  hb : Hp
def CellOk (W : Wo) (H0 : Hp) (L : Lk) (F H : Hp) (i : Nat) (c : C) (v : V) : Prop := match c.1 with
  | .val => Rp W F c.2 v
  | .own => ∃ p o, v = .ref p ∧ H p = some o ∧ RpO W F p c.2 o ∧ F p = none ∧ H0 p = none
  | .bor => Bo W F L.hb c.2 v
  | .lck => ∃ p o, v = .ref p ∧ L.ad i = some p ∧ H0 p = some o ∧ RpO W F p c.2 o ∧ F p = none
/-- the slots σ hold what env says. H0: what must stay as it is; L: what loops walk -/
structure R (W : Wo) (H0 : Hp) (L : Lk) (F H : Hp) (env : Sl) (σ : L2.St) : Prop where
  fh : Same F H
  h0 : Same H0 H
  len : env.length = σ.length
  cell : ∀ (i : Nat) (c : C), env[i]? = some (some c) → ∃ v, σ[i]? = some (some v) ∧ CellOk W H0 L F H i c v
  sep : ∀ (i j : Nat) (d e : D) (p : Addr), env[i]? = some (some (M.own, d)) → env[j]? = some (some (M.own, e)) → σ[i]? = some (some (V.ref p)) → σ[j]? = some (some (V.ref p)) → i = j
  hb : Same L.hb H0
  la : ∀ (j : Nat) (q : Addr), L.ad j = some q → H0 q ≠ none
section
variable {W : Wo} {H0 : Hp} {L : Lk} {F H F1 H1 Hs Hs' : Hp} {env : Sl} {σ : L2.St}
theorem CellOk.ext {i : Nat} {c : C} {v : V} (x : Ext F H F1 H1) (h0 : Same H0 H) (h : CellOk W H0 L F H i c v) : CellOk W H0 L F1 H1 i c v := by
  obtain ⟨m, d⟩ := c
  cases m with
  | val => exact Rp.mono x.ff d h
  | own =>
    obtain ⟨p, o, e1, e2, e3, e4, e5⟩ := h
    exact ⟨p, o, e1, x.hh _ _ e2, e3.mono x.ff, x.keeps_none e2 e4, e5⟩
  | bor =>
    have h : Bo W F L.hb d v := h
    cases d with
    | lst l => obtain ⟨p, vs, e1, e2, e3⟩ := h; exact ⟨p, vs, e1, e2, e3.mono x.ff⟩
    | dct l => obtain ⟨p, vs, e1, e2, e3⟩ := h; exact ⟨p, vs, e1, e2, e3.mono x.ff⟩
    | _ => exact False.elim h
  | lck =>
    obtain ⟨p, o, e1, e2, e3, e4, e5⟩ := h
    exact ⟨p, o, e1, e2, e3, e4.mono x.ff, x.keeps_none (h0 _ _ e3) e5⟩
theorem R.ext (r : R W H0 L F H env σ) (x : Ext F H F1 H1) : R W H0 L F1 H1 env σ :=
  ⟨x.fh, r.h0.trans x.hh, r.len, fun i c e => let ⟨v, e1, e2⟩ := r.cell i c e; ⟨v, e1, e2.ext x r.h0⟩, r.sep, r.hb, r.la⟩
theorem VOk.back {c : C} {v : V} (s : Same Hs Hs') (h : VOk W Hs' F H c v) : VOk W Hs F H c v := by
  obtain ⟨m, d⟩ := c
  cases m with
  | own =>
    obtain ⟨p, o, e1, e2, e3, e4, e5⟩ := h
    exact ⟨p, o, e1, e2, e3, e4, s.free e5⟩
  | _ => exact h
theorem rpo_bo {p : Addr} {d : D} {o : HO} (e : H p = some o) (h : RpO W F p d o) : d.isMut = true ∧ Bo W F H d (.ref p) := by
  cases d with
  | lst l =>
    obtain ⟨vs, rfl, e4⟩ := h
    exact ⟨rfl, p, vs, rfl, SqL.of e, e4⟩
  | dct l => exact ⟨rfl, p, o, rfl, e, h⟩
  | _ => exact h.elim
theorem Bo.up {d : D} {v : V} (s : Same H0 H) (h : Bo W F H0 d v) : d.isMut = true ∧ Bo W F H d v := by
  cases d with
  | lst l => obtain ⟨p, vs, e1, e2, e3⟩ := h; exact ⟨rfl, p, vs, e1, s.seq e2, e3⟩
  | dct l => obtain ⟨p, vs, e1, e2, e3⟩ := h; exact ⟨rfl, p, vs, e1, s _ _ e2, e3⟩
  | _ => exact False.elim h
/-- a name read -/
theorem R.var (r : R W H0 L F H env σ) {i : Nat} {c : C} (e : rdV env[i]? = some c) : ∃ v, σ[i]? = some (some v) ∧ VOk W Hs F H c v := by
  cases q : env[i]? with
  | none => rw [q] at e; cases e
  | some oc =>
    cases oc with
    | none => rw [q] at e; cases e
    | some md =>
      obtain ⟨m, d⟩ := md
      rw [q] at e
      obtain ⟨v, e1, e2⟩ := r.cell i _ q
      refine ⟨v, e1, ?_⟩
      cases m with
      | val => cases e; exact e2
      | own =>
        obtain ⟨p, o, rfl, z1, z2, _⟩ := e2
        obtain ⟨z3, z4⟩ := rpo_bo z1 z2
        simp only [rdV, z3, if_true, Option.some.injEq] at e
        subst e
        exact z4
      | bor =>
        obtain ⟨z3, z4⟩ := Bo.up (r.hb.trans r.h0) e2
        simp only [rdV, z3, if_true, Option.some.injEq] at e
        subst e
        exact z4
      | lck =>
        obtain ⟨p, o, rfl, _, z1, z2, _⟩ := e2
        obtain ⟨z3, z4⟩ := rpo_bo (r.h0 _ _ z1) z2
        simp only [rdV, z3, if_true, Option.some.injEq] at e
        subst e
        exact z4
theorem vint {i : Int} : VOk W Hs F H (.val, .int i) (.int i) := (rp_int (W := W) (F := F)).mpr rfl
theorem vbl {i : Bool} : VOk W Hs F H (.val, .bl i) (.bl i) := (rp_bl (W := W) (F := F)).mpr rfl
theorem vstr {i : Str} : VOk W Hs F H (.val, .str i) (.str i) := (rp_str (W := W) (F := F)).mpr rfl
theorem vnon : VOk W Hs F H (.val, .non) .non := (rp_non (W := W) (F := F)).mpr rfl
/-- values in a row -/
def VL (W : Wo) (Hs F H : Hp) : List C → List V → Prop
  | [], vs => vs = []
  | c :: cs, vs => ∃ v r, vs = v :: r ∧ VOk W Hs F H c v ∧ VL W Hs F H cs r
theorem VL.ext (x : Ext F H F1 H1) : ∀ {cs : List C} {vs : List V}, VL W Hs F H cs vs → VL W Hs F1 H1 cs vs
  | [], _, h => h
  | c :: cs, _, ⟨v, r, e, h1, h2⟩ => ⟨v, r, e, h1.ext x, VL.ext x h2⟩
theorem VL.back (s : Same Hs Hs') : ∀ {cs : List C} {vs : List V}, VL W Hs' F H cs vs → VL W Hs F H cs vs
  | [], _, h => h
  | c :: cs, _, ⟨v, r, e, h1, h2⟩ => ⟨v, r, e, h1.back s, VL.back s h2⟩
/-- all kept for good -/
theorem VOk.keep2 {c : C} {d : D} {v : V} {F2 : Hp} (x : Ext F H F1 H1) (s : Same F2 F1) (h : VOk W H F2 H1 c v) (e : vl c = some d) : ∃ F3, Ext F H F3 H1 ∧ Same F1 F3 ∧ Rp W F3 d v := by
  obtain ⟨m, d'⟩ := c
  cases m with
  | val => cases e; exact ⟨F1, x, Same.refl _, Rp.mono s _ h⟩
  | own =>
    cases e
    obtain ⟨p, o, rfl, e2, e3, e4, e5⟩ := h
    obtain ⟨F3, x2, s2, e6⟩ := keep1 x e2 e5
    exact ⟨F3, x2, s2, RpO.rp e6 (e3.mono (s.trans s2))⟩
  | bor => cases e
  | lck => cases e
theorem VL.keep {F2 : Hp} : ∀ {cs : List C} {ds : List D} {vs : List V} {F1 : Hp}, Ext F H F1 H1 → Same F2 F1 → VL W H F2 H1 cs vs → cs.mapM vl = some ds → ∃ F3, Ext F H F3 H1 ∧ Same F1 F3 ∧ RpL W F3 ds vs
  | [], ds, vs, F1, x, s, h, e => by
    cases (show vs = [] from h)
    simp at e
    subst e
    exact ⟨F1, x, Same.refl _, RpL.nil⟩
  | c :: cs, ds, vs, F1, x, s, h, e => by
    obtain ⟨v, r, rfl, h1, h2⟩ := h
    simp only [List.mapM_cons, bind, Option.bind_eq_some_iff, pure, Option.some.injEq] at e
    obtain ⟨d, e1, ds', e2, rfl⟩ := e
    obtain ⟨F3, x3, s3, p3⟩ := h1.keep2 x s e1
    obtain ⟨F4, x4, s4, p4⟩ := VL.keep (F1 := F3) x3 (s.trans s3) h2 e2
    exact ⟨F4, x4, s3.trans s4, RpL.cons (Rp.mono s4 _ p3) p4⟩
end

section
variable (W : Wo) (cf : CF) (gl : Nat → Option D)
def tE (e : E) : TE := fun σ H Q => ∃ H0 L F env c, R W H0 L F H env σ ∧ ev cf gl e env = some c ∧ ∀ v H' F', Ext F H F' H' → VOk W H F' H' c v → Q v H'
def tT (e : E) : TT := fun σ H Q => ∃ H0 L F env m b, R W H0 L F H env σ ∧ ev cf gl e env = some (m, .bl b) ∧ ∀ H' F', Ext F H F' H' → Q b H'
def tA (e : E) : TA := fun σ H Q => ∃ H0 L F env cs, R W H0 L F H env σ ∧ evL cf gl e env = some cs ∧ ∀ vs H' F', Ext F H F' H' → VL W H F' H' cs vs → Q vs H'
/-- and, or in a row -/
def tBo (o : BoolOp) (e : E) : TT := fun σ H Q => ∃ H0 L F env b, R W H0 L F H env σ ∧ (match o with | .And => evAnd cf gl e env | .Or => evOr cf gl e env) = some b ∧ ∀ H' F', Ext F H F' H' → Q b H'
def tBoV (o : BoolOp) (e : E) : TE := fun σ H Q => tBo W cf gl o e σ H fun b H' => Q (.bl b) H'
end
section
variable {X : Cx} {cf : CF} {gl : Nat → Option D}
theorem _root_.L2.PE.imp {x : Expr} {t t' : TE} (h : PE X x t) (f : ∀ σ H Q, t' σ H Q → t σ H Q) : PE X x t' := ⟨fun pins s σ H Q I q => h.run pins s σ H Q I (f σ H Q q)⟩
theorem _root_.L2.PT.imp {x : Expr} {t t' : TT} (h : PT X x t) (f : ∀ σ H Q, t' σ H Q → t σ H Q) : PT X x t' := ⟨fun pins s σ H Q I q => h.run pins s σ H Q I (f σ H Q q)⟩
theorem _root_.L2.PW.imp {x : Expr} {t t' : TT} (h : PW X x t) (f : ∀ σ H Q, t' σ H Q → t σ H Q) : PW X x t' := ⟨fun wh pins s σ H Q I q => h.run wh pins s σ H Q I (f σ H Q q)⟩
theorem _root_.L2.PA.imp {x : List Expr} {t t' : TA} (h : PA X x t) (f : ∀ σ H Q, t' σ H Q → t σ H Q) : PA X x t' := ⟨fun pos pins s σ H Q I q => h.run pos pins s σ H Q I (f σ H Q q)⟩
theorem _root_.L2.PE.or {x : Expr} {t t' : TE} (h : PE X x t) (h' : PE X x t') : PE X x (fun σ H Q => t σ H Q ∨ t' σ H Q) := ⟨fun pins s σ H Q I q => q.elim (h.run pins s σ H Q I) (h'.run pins s σ H Q I)⟩
theorem _root_.L2.PE.ex {x : Expr} {α : Type} {t : α → TE} (h : ∀ a, PE X x (t a)) : PE X x (fun σ H Q => ∃ a, t a σ H Q) := ⟨fun pins s σ H Q I ⟨a, q⟩ => (h a).run pins s σ H Q I q⟩

abbrev TEx (X : Cx) (cf : CF) (gl : Nat → Option D) (e : E) : TE := tE (wo X) cf gl e
abbrev TTx (X : Cx) (cf : CF) (gl : Nat → Option D) (e : E) : TT := tT (wo X) cf gl e

/-- from the value to the test -/
theorem tT_of_tE {e : E} {σ : L2.St} {H : Hp} {Q : Bool → Hp → Prop} (h : TTx X cf gl e σ H Q) : TEx X cf gl e σ H fun v H' => ∃ k, v = .bl k ∧ Q k H' := by
  obtain ⟨H0, L, F, env, m, b, r, he, q⟩ := h
  refine ⟨H0, L, F, env, _, r, he, fun v H' F' x hv => ⟨b, ?_, q H' F' x⟩⟩
  have := hv.rd x.fh
  rwa [rd_bl] at this
theorem val_bl {Hs F H : Hp} {W : Wo} {m : M} {b : Bool} {v : V} (fh : Same F H) (h : VOk W Hs F H (m, .bl b) v) : v = .bl b := by
  have := h.rd fh
  rwa [rd_bl] at this

theorem s_const {x : Expr} {e : E} {d : D} {v : V} (h : PE X x (tC v)) (he : ∀ env, ev cf gl e env = some (.val, d)) (hv : ∀ F, Rp (wo X) F d v) : PE X x (TEx X cf gl e) :=
  h.imp fun σ H Q ⟨H0, L, F, env, c, r, e1, q⟩ => by
    rw [he env] at e1
    cases e1
    exact q v H F (Ext.refl r.fh) (hv F)
theorem s_var {i : Nat} {x : Expr} (h : PE X x (tVar i)) : PE X x (TEx X cf gl (.var i)) :=
  h.imp fun σ H Q ⟨H0, L, F, env, c, r, e1, q⟩ => by
    unfold ev at e1
    obtain ⟨v, e2, e3⟩ := r.var e1
    exact ⟨v, e2, q v H F (Ext.refl r.fh) e3⟩
theorem r_bin {o : Op2} {a b : E} {σ : L2.St} {H : Hp} {Q : VK} (h : TEx X cf gl (.bin o a b) σ H Q) : tOp (rD (wo X) o) (TEx X cf gl a) (TEx X cf gl b) σ H Q := by
  obtain ⟨H0, L, F, env, c, r, he, q⟩ := h
  unfold ev at he
  simp only [Option.bind_eq_some_iff] at he
  obtain ⟨ca, ha, cb, hb, ho⟩ := he
  refine ⟨H0, L, F, env, ca, r, ha, fun x H1 F1 x1 v1 => ⟨H0, L, F1, env, cb, r.ext x1, hb, fun y H2 F2 x2 v2 => ⟨F2, ca.2, cb.2, c, x2.fh, (v1.rd x1.fh).ext x2, v2.rd x2.fh, ho, fun v H3 F3 x3 v3 => ?_⟩⟩⟩
  exact q v H3 F3 ((x1.trans x2).trans x3) (v3.back (x1.hh.trans x2.hh))
theorem r_neg {a : E} {σ : L2.St} {H : Hp} {Q : VK} (h : TEx X cf gl (.neg a) σ H Q) : tUn (rU fun i => .int (-i)) (TEx X cf gl a) σ H Q := by
  obtain ⟨H0, L, F, env, c, r, he, q⟩ := h
  unfold ev at he
  simp only [Option.bind_eq_some_iff] at he
  obtain ⟨⟨m, d⟩, ha, he⟩ := he
  cases d <;> simp at he
  subst he
  refine ⟨H0, L, F, env, _, r, ha, fun x H1 F1 x1 v1 => ?_⟩
  have := v1.rd x1.fh
  rw [rd_int] at this
  subst this
  exact ⟨_, rfl, q _ H1 F1 x1 vint⟩
theorem r_chn {o1 o2 : Op2} {a b c : E} {σ : L2.St} {H : Hp} {Q : VK} (h : TEx X cf gl (.chn o1 o2 a b c) σ H Q) : tChain (rD (wo X) o1) (rD (wo X) o2) (TEx X cf gl a) (TEx X cf gl b) (TEx X cf gl c) σ H Q := by
  obtain ⟨H0, L, F, env, cc, r, he, q⟩ := h
  unfold ev at he
  simp only [Option.bind_eq_some_iff] at he
  obtain ⟨ca, ha, cb, hb, ho⟩ := he
  refine ⟨H0, L, F, env, ca, r, ha, fun x H1 F1 x1 v1 => ⟨H0, L, F1, env, cb, r.ext x1, hb, fun y H2 F2 x2 v2 => ?_⟩⟩
  cases h1 : op2 o1 ca.2 cb.2 with
  | none => rw [h1] at ho; cases ho
  | some c1 =>
    obtain ⟨m1, d1⟩ := c1
    rw [h1] at ho
    refine ⟨F2, ca.2, cb.2, (m1, d1), x2.fh, (v1.rd x1.fh).ext x2, v2.rd x2.fh, h1, fun v H3 F3 x3 v3 => ?_⟩
    have y1 := (x1.trans x2).trans x3
    cases d1 with
    | bl k =>
      refine ⟨k, val_bl x3.fh v3, ?_⟩
      cases k with
      | false =>
        simp at ho
        subst ho
        exact q _ H3 F3 y1 vbl
      | true =>
        simp only [Option.bind_eq_some_iff] at ho
        obtain ⟨cd, hd, ho⟩ := ho
        refine ⟨H0, L, F3, env, cd, r.ext y1, hd, fun z H4 F4 x4 v4 => ⟨F4, cb.2, cd.2, cc, x4.fh, ((v2.rd x2.fh).ext x3).ext x4, v4.rd x4.fh, ho, fun v' H5 F5 x5 v5 => ?_⟩⟩
        exact q v' H5 F5 ((y1.trans x4).trans x5) (v5.back (y1.hh.trans x4.hh))
    | _ => cases ho
theorem r_not {a : E} {σ : L2.St} {H : Hp} {Q : VK} (h : TEx X cf gl (.not a) σ H Q) : tNotV (TEx X cf gl a) σ H Q := by
  obtain ⟨H0, L, F, env, c, r, he, q⟩ := h
  unfold ev at he
  split at he
  · rename_i m b ha
    cases he
    refine ⟨H0, L, F, env, _, r, ha, fun x H1 F1 x1 v1 => ⟨b, val_bl x1.fh v1, q _ H1 F1 x1 vbl⟩⟩
  · cases he
theorem rt_not {a : E} {σ : L2.St} {H : Hp} {Q : Bool → Hp → Prop} (h : TTx X cf gl (.not a) σ H Q) : tNot (TTx X cf gl a) σ H Q := by
  obtain ⟨H0, L, F, env, m, b, r, he, q⟩ := h
  unfold ev at he
  split at he
  · rename_i m' b' ha
    cases he
    exact ⟨H0, L, F, env, _, _, r, ha, fun H1 F1 x1 => q H1 F1 x1⟩
  · cases he
theorem r_ite {c a b : E} {σ : L2.St} {H : Hp} {Q : VK} (h : TEx X cf gl (.ite c a b) σ H Q) : tIf (TTx X cf gl c) (TEx X cf gl a) (TEx X cf gl b) σ H Q := by
  obtain ⟨H0, L, F, env, cc, r, he, q⟩ := h
  unfold ev at he
  split at he
  · rename_i m hc
    refine ⟨H0, L, F, env, _, _, r, hc, fun H1 F1 x1 => ?_⟩
    exact ⟨H0, L, F1, env, cc, r.ext x1, he, fun v H2 F2 x2 v2 => q v H2 F2 (x1.trans x2) (v2.back x1.hh)⟩
  · rename_i m hc
    refine ⟨H0, L, F, env, _, _, r, hc, fun H1 F1 x1 => ?_⟩
    exact ⟨H0, L, F1, env, cc, r.ext x1, he, fun v H2 F2 x2 v2 => q v H2 F2 (x1.trans x2) (v2.back x1.hh)⟩
  · cases he
/-- a ? b : c as a test -/
def tIfT (t : TT) (ta tb : TT) : TT := fun σ H Q => t σ H fun c H1 => if c = true then ta σ H1 Q else tb σ H1 Q
theorem pt_ifExp {c a b : Expr} {pos : Pos} {tc ta tb : TT} (hc : PT X c tc) (ha : PT X a ta) (hb : PT X b tb) : PT X (.IfExp c a b pos) (tIfT tc ta tb) := by
  refine ⟨fun pins s σ H Q I h => ?_⟩
  unfold PySem.isTrue
  refine wpAny_bind (thn (hc.run pins s σ H _ I h) fun k s1 ⟨H1, I1, q1⟩ => ?_)
  cases k with
  | true => exact ha.run pins s1 σ H1 Q I1 q1
  | false => exact hb.run pins s1 σ H1 Q I1 q1
theorem rt_ite {c a b : E} {σ : L2.St} {H : Hp} {Q : Bool → Hp → Prop} (h : TTx X cf gl (.ite c a b) σ H Q) : tIfT (TTx X cf gl c) (TTx X cf gl a) (TTx X cf gl b) σ H Q := by
  obtain ⟨H0, L, F, env, m, k, r, he, q⟩ := h
  unfold ev at he
  split at he
  · rename_i m hc
    refine ⟨H0, L, F, env, _, _, r, hc, fun H1 F1 x1 => ?_⟩
    exact ⟨H0, L, F1, env, _, _, r.ext x1, he, fun H2 F2 x2 => q H2 F2 (x1.trans x2)⟩
  · rename_i m hc
    refine ⟨H0, L, F, env, _, _, r, hc, fun H1 F1 x1 => ?_⟩
    exact ⟨H0, L, F1, env, _, _, r.ext x1, he, fun H2 F2 x2 => q H2 F2 (x1.trans x2)⟩
  · cases he
/-! ### rows -/
theorem s_nil : PA X [] (tA (wo X) cf gl .nil) := pa_nil.imp fun σ H Q ⟨H0, L, F, env, cs, r, he, q⟩ => by
  unfold evL at he
  cases he
  exact q [] H F (Ext.refl r.fh) rfl
theorem r_cons {e es : E} {σ : L2.St} {H : Hp} {Q : List V → Hp → Prop} (h : tA (wo X) cf gl (.cons e es) σ H Q) : tCons (TEx X cf gl e) (tA (wo X) cf gl es) σ H Q := by
  obtain ⟨H0, L, F, env, cs, r, he, q⟩ := h
  unfold evL at he
  simp only [Option.bind_eq_some_iff, Option.map_eq_some_iff] at he
  obtain ⟨c, hc, rs, hr, rfl⟩ := he
  refine ⟨H0, L, F, env, c, r, hc, fun x H1 F1 x1 v1 => ⟨H0, L, F1, env, rs, r.ext x1, hr, fun xs H2 F2 x2 v2 => ?_⟩⟩
  exact q _ H2 F2 (x1.trans x2) ⟨x, xs, rfl, v1.ext x2, v2.back x1.hh⟩
theorem r_lst {es : E} {σ : L2.St} {H : Hp} {Q : VK} (h : TEx X cf gl (.lst es) σ H Q) : tLst (tA (wo X) cf gl es) σ H Q := by
  obtain ⟨H0, L, F, env, c, r, he, q⟩ := h
  unfold ev at he
  simp only [Option.bind_eq_some_iff] at he
  obtain ⟨cs, hc, ds, hd, he⟩ := he
  split at he
  · rename_i hz
    cases he
    refine ⟨H0, L, F, env, cs, r, hc, fun vs H1 F1 x1 v1 => ?_⟩
    obtain ⟨F3, x3, s3, p3⟩ := v1.keep x1 (Same.refl _) hd
    refine ⟨by rw [← sl_eq, ← p3.length]; exact hz, fun p hp => ?_⟩
    exact q _ _ F3 (x3.trans (Ext.fresh x3.fh hp _)) ⟨p, _, rfl, upd_same, ⟨vs, rfl, p3⟩, x3.fh.free hp, x3.hh.free hp⟩
  · cases he
theorem r_tup {es : E} {σ : L2.St} {H : Hp} {Q : VK} (h : TEx X cf gl (.tup es) σ H Q) : tTup (tA (wo X) cf gl es) σ H Q := by
  obtain ⟨H0, L, F, env, c, r, he, q⟩ := h
  unfold ev at he
  simp only [Option.bind_eq_some_iff] at he
  obtain ⟨cs, hc, ds, hd, he⟩ := he
  split at he
  · rename_i hz
    cases he
    refine ⟨H0, L, F, env, cs, r, hc, fun vs H1 F1 x1 v1 => ?_⟩
    obtain ⟨F3, x3, s3, p3⟩ := v1.keep x1 (Same.refl _) hd
    refine ⟨by rw [← sl_eq, ← p3.length]; exact hz, fun p hp => ?_⟩
    have x4 := Ext.new x3.fh hp (.tup vs)
    refine q _ _ _ (x3.trans x4) ?_
    show Rp _ _ (.tup ds) _
    rw [rp_tup]
    exact ⟨p, vs, rfl, SqT.of upd_same, p3.mono x4.ff⟩
  · cases he
end
end My
end

section
set_option Elab.async false
set_option linter.all false
set_option maxRecDepth 100000
/-! Sound2: calls, built-ins, slices, isinstance. -/
namespace My
open PySem PySem.Spec L2 PyProof.Rows
section
variable {W : Wo} {F H F1 H1 F2 Hs : Hp}
theorem Bo.mono {d : D} {v : V} (s : Same F F1) (t : Same H H1) (h : Bo W F H d v) : Bo W F1 H1 d v := by
  cases d with
  | lst l => obtain ⟨p, vs, e1, e2, e3⟩ := h; exact ⟨p, vs, e1, t.seq e2, e3.mono s⟩
  | dct l => obtain ⟨p, vs, e1, e2, e3⟩ := h; exact ⟨p, vs, e1, t _ _ e2, e3.mono s⟩
  | _ => exact False.elim h
/-- arguments: for good, or lent -/
def AL (W : Wo) (F H : Hp) : List C → List V → Prop
  | [], vs => vs = []
  | c :: cs, vs => ∃ v r, vs = v :: r ∧ ((c.1 = .val ∧ Rp W F c.2 v) ∨ (c.1 = .bor ∧ Bo W F H c.2 v)) ∧ AL W F H cs r
theorem AL.length : ∀ {cs : List C} {vs : List V}, AL W F H cs vs → cs.length = vs.length
  | [], _, h => by cases (show _ = [] from h); rfl
  | c :: cs, _, ⟨v, r, e, _, h⟩ => by subst e; simp [AL.length h]
theorem AL.mono (s : Same F F1) (t : Same H H1) : ∀ {cs : List C} {vs : List V}, AL W F H cs vs → AL W F1 H1 cs vs
  | [], _, h => h
  | c :: cs, _, ⟨v, r, e, h1, h2⟩ => ⟨v, r, e, h1.imp (fun z => ⟨z.1, Rp.mono s _ z.2⟩) (fun z => ⟨z.1, Bo.mono s t z.2⟩), AL.mono s t h2⟩
theorem VL.args : ∀ {cs : List C} {vs : List V} {F1 : Hp}, Ext F H F1 H1 → Same F2 F1 → VL W H F2 H1 cs vs → (∀ c ∈ cs, c.1 ≠ .lck) → ∃ F3, Ext F H F3 H1 ∧ Same F1 F3 ∧ AL W F3 H1 (cs.map argM) vs
  | [], vs, F1, x, s, h, _ => ⟨F1, x, Same.refl _, h⟩
  | (m, d) :: cs, vs, F1, x, s, h, e => by
    obtain ⟨v, r, rfl, h1, h2⟩ := h
    have e2 : ∀ c ∈ cs, c.1 ≠ .lck := fun c hc => e c (List.mem_cons_of_mem _ hc)
    cases m with
    | lck => exact absurd rfl (e _ List.mem_cons_self)
    | bor =>
      obtain ⟨F3, x3, s3, p3⟩ := VL.args (F1 := F1) x s h2 e2
      exact ⟨F3, x3, s3, v, r, rfl, .inr ⟨rfl, Bo.mono (s.trans s3) (Same.refl _) h1⟩, p3⟩
    | val =>
      obtain ⟨F3, x3, s3, p3⟩ := VL.args (F1 := F1) x s h2 e2
      exact ⟨F3, x3, s3, v, r, rfl, .inl ⟨rfl, Rp.mono (s.trans s3) _ h1⟩, p3⟩
    | own =>
      obtain ⟨F3, x3, s3, p3⟩ := VOk.keep2 (d := d) x s h1 rfl
      obtain ⟨F4, x4, s4, p4⟩ := VL.args (F1 := F3) x3 (s.trans s3) h2 e2
      exact ⟨F4, x4, s3.trans s4, v, r, rfl, .inl ⟨rfl, Rp.mono s4 _ p3⟩, p4⟩
/-- rows read -/
def RL (W : Wo) (F H : Hp) : List C → List V → Prop
  | [], vs => vs = []
  | c :: cs, vs => ∃ v r, vs = v :: r ∧ Rd W F H c.2 v ∧ RL W F H cs r
theorem VL.rl (fh : Same F H) : ∀ {cs : List C} {vs : List V}, VL W Hs F H cs vs → RL W F H cs vs
  | [], _, h => h
  | c :: cs, _, ⟨v, r, e, h1, h2⟩ => ⟨v, r, e, h1.rd fh, VL.rl fh h2⟩
theorem RL.one {c : C} {vs : List V} (h : RL W F H [c] vs) : ∃ v, vs = [v] ∧ Rd W F H c.2 v := by
  obtain ⟨v, r, e, h1, h2⟩ := h
  cases (show r = [] from h2)
  exact ⟨v, e, h1⟩
theorem RL.two {c c' : C} {vs : List V} (h : RL W F H [c, c'] vs) : ∃ v v', vs = [v, v'] ∧ Rd W F H c.2 v ∧ Rd W F H c'.2 v' := by
  obtain ⟨v, r, e, h1, h2⟩ := h
  obtain ⟨v', e2, h3⟩ := RL.one h2
  subst e2
  exact ⟨v, v', e, h1, h3⟩
end

/-! ### an expression gives no lck -/
theorem rdV_nolck {o : Option (Option C)} {c : C} (h : rdV o = some c) : c.1 ≠ .lck := by
  unfold rdV at h
  split at h
  · rename_i m d
    split at h
    · cases h; exact fun z => nomatch z
    · cases h; cases d.isMut <;> exact fun z => nomatch z
  · cases h
theorem two_map {α : Type} {o : Option α} {f : α → C} {c : C} (h : o.map f = some c) (hf : ∀ x, (f x).1 = .val ∨ (f x).1 = .own) : c.1 = .val ∨ c.1 = .own := by
  obtain ⟨x, _, rfl⟩ := Option.map_eq_some_iff.mp h
  exact hf x
theorem two_if {p : Prop} [Decidable p] {o : Option C} {c : C} (h : (if p then o else none) = some c) : o = some c := by
  split at h
  · exact h
  · cases h
theorem op2_m {o : Op2} {d e : D} {c : C} (h : op2 o d e = some c) : c.1 = .val ∨ c.1 = .own := by
  cases o <;> simp only [op2] at h <;> try exact two_map h fun _ => .inl rfl
  case add =>
    unfold opAdd at h
    split at h
    · cases h; exact .inl rfl
    · cases two_if h; exact .inl rfl
    · cases two_if h; exact .inr rfl
    · cases two_if h; exact .inl rfl
    · cases h
  case sub => unfold opSub at h; split at h <;> cases h; exact .inl rfl
  case mul =>
    unfold opMul at h
    split at h
    · cases two_if h; exact .inl rfl
    · cases two_if h; exact .inr rfl
    · cases h
  case fdiv =>
    unfold opDiv at h
    split at h
    · cases two_if h; exact .inl rfl
    · cases h
  case mod =>
    unfold opMod at h
    split at h
    · cases two_if h; exact .inl rfl
    · cases h
  case pow =>
    unfold opPow at h
    split at h
    · cases two_if h; exact .inl rfl
    · cases h
  case idx =>
    unfold opIdx at h
    split at h
    · exact two_map h fun _ => .inl rfl
    · exact two_map h fun _ => .inl rfl
    · exact two_map (two_if h) fun _ => .inl rfl
    · cases h
  all_goals (unfold opOrd at h; split at h <;> cases h; exact .inl rfl)
theorem biF_m {b : Bi} {cs : List C} {c : C} (h : biF b cs = some c) : c.1 = .val ∨ c.1 = .own := by
  cases b <;> simp only [biF] at h
  case len =>
    unfold biLen at h
    split at h
    · cases h; exact .inl rfl
    · cases h; exact .inl rfl
    · cases two_if h; exact .inl rfl
    · cases h
  case int => unfold biInt at h; split at h <;> cases h <;> exact .inl rfl
  case abs => unfold biAbs at h; split at h <;> cases h <;> exact .inl rfl
  case max => unfold biMax at h; split at h <;> cases h <;> exact .inl rfl
  case min => unfold biMin at h; split at h <;> cases h <;> exact .inl rfl
  case tuple => unfold biTuple at h; split at h <;> cases h <;> exact .inl rfl
  case list => unfold biList at h; split at h <;> cases h <;> exact .inr rfl
  case sum => unfold biSum at h; split at h; exact two_map h fun _ => .inl rfl; cases h
  case all => unfold biAll at h; split at h; exact two_map h fun _ => .inl rfl; cases h
  case any => unfold biAny at h; split at h; exact two_map h fun _ => .inl rfl; cases h
  all_goals cases h
theorem slice_m {d : D} {i j : Option Int} {c : C} (h : slice d i j = some c) : c.1 = .val ∨ c.1 = .own := by
  unfold slice at h
  split at h
  · cases h; exact .inr rfl
  · cases h; exact .inl rfl
  · cases two_if h; exact .inl rfl
  · cases h
theorem ev_nolck {cf : CF} {gl : Nat → Option D} : ∀ (e : E) {env : Sl} {c : C}, ev cf gl e env = some c → c.1 ≠ .lck := by
  have two : ∀ {c : C}, c.1 = .val ∨ c.1 = .own → c.1 ≠ .lck := fun h => by rcases h with h | h <;> rw [h] <;> exact fun z => nomatch z
  intro e
  induction e <;> intro env c h <;> unfold ev at h
  case var i => exact rdV_nolck h
  case bin o a b iha ihb =>
    simp only [Option.bind_eq_some_iff] at h
    obtain ⟨_, _, _, _, h⟩ := h
    exact two (op2_m h)
  case neg a ih =>
    simp only [Option.bind_eq_some_iff] at h
    obtain ⟨_, _, h⟩ := h
    split at h
    · cases h; exact fun z => nomatch z
    · cases h
  case chn o1 o2 a b c iha ihb ihc =>
    simp only [Option.bind_eq_some_iff] at h
    obtain ⟨_, _, _, _, h⟩ := h
    split at h
    · simp only [Option.bind_eq_some_iff] at h
      obtain ⟨_, _, h⟩ := h
      exact two (op2_m h)
    · cases h; exact fun z => nomatch z
    · cases h
  case ite c a b ihc iha ihb =>
    split at h
    · exact iha h
    · exact ihb h
    · cases h
  case not a ih =>
    split at h
    · cases h; exact fun z => nomatch z
    · cases h
  case slc a lo hi iha ihb ihc =>
    simp only [Option.bind_eq_some_iff] at h
    obtain ⟨_, _, _, _, _, _, h⟩ := h
    exact two (slice_m h)
  case rvs a ih =>
    simp only [Option.bind_eq_some_iff] at h
    obtain ⟨_, _, h⟩ := h
    split at h
    · cases h; exact fun z => nomatch z
    · cases h
  case call f es ih =>
    simp only [Option.bind_eq_some_iff] at h
    obtain ⟨_, _, _, _, h⟩ := h
    split at h
    · rename_i hm
      cases h
      exact two hm
    · cases h
  case bi b es ih =>
    simp only [Option.bind_eq_some_iff] at h
    obtain ⟨_, _, h⟩ := h
    exact two (biF_m h)
  case isi t a ih =>
    simp only [Option.map_eq_some_iff] at h
    obtain ⟨_, _, rfl⟩ := h
    exact fun z => nomatch z
  case lst es ih =>
    simp only [Option.bind_eq_some_iff] at h
    obtain ⟨_, _, _, _, h⟩ := h
    split at h
    · cases h; exact fun z => nomatch z
    · cases h
  case tup es ih =>
    simp only [Option.bind_eq_some_iff] at h
    obtain ⟨_, _, _, _, h⟩ := h
    split at h
    · cases h; exact fun z => nomatch z
    · cases h
  case cv b it ih =>
    simp only [Option.bind_eq_some_iff] at h
    obtain ⟨_, _, _, _, h⟩ := h
    split at h
    · split at h
      · cases h; exact fun z => nomatch z
      · cases h; exact fun z => nomatch z
      · cases h
    · cases h
  case comp own t it ifs elt iha ihb ihc =>
    simp only [Option.bind_eq_some_iff] at h
    obtain ⟨_, _, _, _, h⟩ := h
    split at h
    · cases h; exact fun z => nomatch z
    · cases h
  all_goals first
    | (cases h; exact fun z => nomatch z)
    | (simp only [Option.map_eq_some_iff] at h; obtain ⟨_, _, rfl⟩ := h; exact fun z => nomatch z)
    | cases h
theorem evL_nolck {cf : CF} {gl : Nat → Option D} : ∀ (e : E) {env : Sl} {cs : List C}, evL cf gl e env = some cs → ∀ c ∈ cs, c.1 ≠ .lck := by
  intro e
  induction e <;> intro env cs h <;> unfold evL at h
  case nil => cases h; intro c hc; cases hc
  case cons a r iha ihr =>
    simp only [Option.bind_eq_some_iff, Option.map_eq_some_iff] at h
    obtain ⟨c, hc, rs, hr, rfl⟩ := h
    intro x hx
    rcases List.mem_cons.mp hx with rfl | hx
    · exact ev_nolck a hc
    · exact ihr hr x hx
  all_goals cases h

/-! ### a def's call -/
/-- what a def promises, by what cff says -/
def spC (W : Wo) (cff : List C → Option C) : Sp := fun vs H Q _ => ∃ F cs r, Same F H ∧ AL W F H cs vs ∧ cff cs = some r ∧ ∀ v H' F', Ext F H F' H' → VOk W H F' H' r v → Q v H'
section
variable {X : Cx} {cf : CF} {gl : Nat → Option D}
theorem r_call {f : Nat} {es : E} {E : XK} {σ : L2.St} {H : Hp} {Q : VK} (h : TEx X cf gl (.call f es) σ H Q) : tCall (spC (wo X) (cf f)) [] E (tA (wo X) cf gl es) σ H Q := by
  obtain ⟨H0, L, F, env, c, r, he, q⟩ := h
  unfold ev at he
  simp only [Option.bind_eq_some_iff] at he
  obtain ⟨cs, hc, rr, hf, he⟩ := he
  split at he
  · cases he
    refine ⟨H0, L, F, env, cs, r, hc, fun vs H1 F1 x1 v1 => ?_⟩
    obtain ⟨F3, x3, s3, p3⟩ := v1.args x1 (Same.refl _) (evL_nolck es hc)
    refine ⟨F3, _, _, x3.fh, by rw [List.append_nil]; exact p3, hf, fun v H2 F2 x2 v2 => ?_⟩
    exact q v H2 F2 (x3.trans x2) (v2.back x3.hh)
  · cases he
/-- a built-in by values -/
def rBi (W : Wo) (b : Bi) : List V → Hp → VK → Prop := fun xs H Q => ∃ F cs c, Same F H ∧ RL W F H cs xs ∧ biF b cs = some c ∧ ∀ v H' F', Ext F H F' H' → VOk W H F' H' c v → Q v H'
theorem r_bi {b : Bi} {es : E} {σ : L2.St} {H : Hp} {Q : VK} (h : TEx X cf gl (.bi b es) σ H Q) : tCB (rBi (wo X) b) (tA (wo X) cf gl es) σ H Q := by
  obtain ⟨H0, L, F, env, c, r, he, q⟩ := h
  unfold ev at he
  simp only [Option.bind_eq_some_iff] at he
  obtain ⟨cs, hc, hb⟩ := he
  refine ⟨H0, L, F, env, cs, r, hc, fun vs H1 F1 x1 v1 => ⟨F1, cs, c, x1.fh, v1.rl x1.fh, hb, fun v H2 F2 x2 v2 => q v H2 F2 (x1.trans x2) (v2.back x1.hh)⟩⟩
section
variable {F H : Hp} {Q : VK}
theorem give {W : Wo} {d : D} {v : V} (fh : Same F H) (q : ∀ v H' F', Ext F H F' H' → VOk W H F' H' (.val, d) v → Q v H') (h : Rp W F d v) : Q v H := q v H F (Ext.refl fh) h
theorem giveI {W : Wo} {i : Int} (fh : Same F H) (q : ∀ v H' F', Ext F H F' H' → VOk W H F' H' (.val, .int i) v → Q v H') : Q (.int i) H := q _ H F (Ext.refl fh) vint
theorem giveB {W : Wo} {i : Bool} (fh : Same F H) (q : ∀ v H' F', Ext F H F' H' → VOk W H F' H' (.val, .bl i) v → Q v H') : Q (.bl i) H := q _ H F (Ext.refl fh) vbl
theorem giveS {W : Wo} {i : Str} (fh : Same F H) (q : ∀ v H' F', Ext F H F' H' → VOk W H F' H' (.val, .str i) v → Q v H') : Q (.str i) H := q _ H F (Ext.refl fh) vstr
end
theorem cb_len : CallR X (.builtin "len") (rBi (wo X) .len) := by
  intro pins s σ H xs us Q I r ⟨F, cs, c, fh, hl, hb, q⟩
  simp only [biF] at hb
  unfold biLen at hb
  split at hb
  · obtain ⟨v, rfl, a, vs, rfl, g1, g2⟩ := RL.one hl
    cases hb
    exact call_len_seq pins s σ H _ us Q I r ⟨a, vs, rfl, .inl g1, by rw [← g2.length]; exact giveI fh q⟩
  · obtain ⟨v, rfl, g⟩ := RL.one hl
    obtain ⟨a, vs, rfl, g1, g2⟩ := rd_tup.mp g
    cases hb
    exact call_len_seq pins s σ H _ us Q I r ⟨a, vs, rfl, .inr (Same.sqT fh g1), by rw [← g2.length]; exact giveI fh q⟩
  · obtain ⟨v, rfl, g⟩ := RL.one hl
    split at hb
    · rename_i hz
      cases hb
      cases rd_str.mp g
      exact call_len_str pins s σ H _ us Q I r ⟨_, rfl, by rw [← sl_eq]; exact hz, giveI fh q⟩
    · cases hb
  · cases hb
theorem cb_int : CallR X (.type "int") (rBi (wo X) .int) := by
  intro pins s σ H xs us Q I r ⟨F, cs, c, fh, hl, hb, q⟩
  simp only [biF] at hb
  unfold biInt at hb
  split at hb
  · obtain ⟨v, rfl, g⟩ := RL.one hl
    cases hb
    cases rd_int.mp g
    exact call_int1 pins s σ H _ us Q I r (.inl ⟨_, rfl, giveI fh q⟩)
  · obtain ⟨v, rfl, g⟩ := RL.one hl
    cases hb
    cases rd_bl.mp g
    exact call_int1 pins s σ H _ us Q I r (.inr ⟨_, rfl, giveI fh q⟩)
  · cases hb
theorem cb_abs : CallR X (.builtin "abs") (rBi (wo X) .abs) := by
  intro pins s σ H xs us Q I r ⟨F, cs, c, fh, hl, hb, q⟩
  simp only [biF] at hb
  unfold biAbs at hb
  split at hb
  · obtain ⟨v, rfl, g⟩ := RL.one hl
    cases hb
    cases rd_int.mp g
    exact call_abs pins s σ H _ us Q I r ⟨_, rfl, giveI fh q⟩
  · cases hb
theorem cb_max (hc : X.calm = true) : CallR X (.builtin "max") (rBi (wo X) .max) := by
  intro pins s σ H xs us Q I r ⟨F, cs, c, fh, hl, hb, q⟩
  simp only [biF] at hb
  unfold biMax at hb
  split at hb
  · obtain ⟨v, v', rfl, g, g'⟩ := RL.two hl
    cases hb
    cases rd_int.mp g
    cases rd_int.mp g'
    exact call_max2 hc pins s σ H _ us Q I r ⟨_, _, rfl, giveI fh q⟩
  · cases hb
theorem cb_min (hc : X.calm = true) : CallR X (.builtin "min") (rBi (wo X) .min) := by
  intro pins s σ H xs us Q I r ⟨F, cs, c, fh, hl, hb, q⟩
  simp only [biF] at hb
  unfold biMin at hb
  split at hb
  · obtain ⟨v, v', rfl, g, g'⟩ := RL.two hl
    cases hb
    cases rd_int.mp g
    cases rd_int.mp g'
    exact call_min2 hc pins s σ H _ us Q I r ⟨_, _, rfl, giveI fh q⟩
  · cases hb
theorem cb_tuple : CallR X (.type "tuple") (rBi (wo X) .tuple) := by
  intro pins s σ H xs us Q I r ⟨F, cs, c, fh, hl, hb, q⟩
  simp only [biF] at hb
  unfold biTuple at hb
  split at hb
  · obtain ⟨v, rfl, a, vs, rfl, g1, g2⟩ := RL.one hl
    cases hb
    exact call_tuple_of pins s σ H _ us Q I r ⟨a, vs, rfl, .inl ⟨g1, give_newT fh q g2⟩⟩
  · obtain ⟨v, rfl, g⟩ := RL.one hl
    obtain ⟨a, vs, rfl, g1, g2⟩ := rd_tup.mp g
    cases hb
    exact call_tuple_of pins s σ H _ us Q I r ⟨a, vs, rfl, .inr ⟨Same.sqT fh g1, give fh q g⟩⟩
  · cases hb
theorem cb_list : CallR X (.type "list") (rBi (wo X) .list) := by
  intro pins s σ H xs us Q I r ⟨F, cs, c, fh, hl, hb, q⟩
  simp only [biF] at hb
  unfold biList at hb
  split at hb
  · obtain ⟨v, rfl, a, vs, rfl, g1, g2⟩ := RL.one hl
    cases hb
    exact call_list_of pins s σ H _ us Q I r ⟨a, vs, rfl, .inl g1, give_newL fh q g2⟩
  · obtain ⟨v, rfl, g⟩ := RL.one hl
    obtain ⟨a, vs, rfl, g1, g2⟩ := rd_tup.mp g
    cases hb
    exact call_list_of pins s σ H _ us Q I r ⟨a, vs, rfl, .inr (Same.sqT fh g1), give_newL fh q g2⟩
  · cases hb
theorem cb_sum (hc : X.calm = true) : CallR X (.builtin "sum") (rBi (wo X) .sum) := by
  intro pins s σ H xs us Q I r ⟨F, cs, c, fh, hl, hb, q⟩
  simp only [biF] at hb
  unfold biSum at hb
  split at hb
  · obtain ⟨v, rfl, a, vs, rfl, g1, g2⟩ := RL.one hl
    simp only [Option.map_eq_some_iff] at hb
    obtain ⟨ns, e, rfl⟩ := hb
    exact cr_sum hc pins s σ H _ us Q I r ⟨a, ns, rfl, by rw [← rpL_dInts e g2]; exact g1, giveI fh q⟩
  · cases hb
theorem cb_all (hc : X.calm = true) : CallR X (.builtin "all") (rBi (wo X) .all) := by
  intro pins s σ H xs us Q I r ⟨F, cs, c, fh, hl, hb, q⟩
  simp only [biF] at hb
  unfold biAll at hb
  split at hb
  · obtain ⟨v, rfl, a, vs, rfl, g1, g2⟩ := RL.one hl
    simp only [Option.map_eq_some_iff] at hb
    obtain ⟨ns, e, rfl⟩ := hb
    exact cr_all hc pins s σ H _ us Q I r ⟨a, ns, rfl, by rw [← rpL_dBls e g2]; exact g1, giveB fh q⟩
  · cases hb
theorem cb_any (hc : X.calm = true) : CallR X (.builtin "any") (rBi (wo X) .any) := by
  intro pins s σ H xs us Q I r ⟨F, cs, c, fh, hl, hb, q⟩
  simp only [biF] at hb
  unfold biAny at hb
  split at hb
  · obtain ⟨v, rfl, a, vs, rfl, g1, g2⟩ := RL.one hl
    simp only [Option.map_eq_some_iff] at hb
    obtain ⟨ns, e, rfl⟩ := hb
    exact cr_any hc pins s σ H _ us Q I r ⟨a, ns, rfl, by rw [← rpL_dBls e g2]; exact g1, giveB fh q⟩
  · cases hb

/-! ### slices -/
def rSd (W : Wo) : V → Option Int → Option Int → Hp → VK → Prop := fun x lo hi H Q => ∃ F d c, Same F H ∧ Rd W F H d x ∧ slice d lo hi = some c ∧ ∀ v H' F', Ext F H F' H' → VOk W H F' H' c v → Q v H'
theorem sld : SlR X (rSd (wo X)) := by
  intro pins s σ H x v vl vu lo hi sl Q I rx hs pl pu ⟨F, d, c, fh, hd, ho, q⟩
  cases d <;> simp only [slice, Option.some.injEq, reduceCtorEq] at ho
  · split at ho
    · rename_i hz
      cases ho
      cases rd_str.mp hd
      exact sl_str pins s σ H _ v vl vu lo hi sl Q I rx hs pl pu ⟨_, rfl, by rw [← sl_eq]; exact hz, giveS fh q⟩
    · cases ho
  · subst ho
    obtain ⟨a, vs, rfl, g1, g2⟩ := hd
    exact sl_list pins s σ H _ v vl vu lo hi sl Q I rx hs pl pu ⟨a, vs, rfl, g1, give_newL fh q (g2.cut lo hi)⟩
  · subst ho
    obtain ⟨a, vs, rfl, g1, g2⟩ := rd_tup.mp hd
    refine sl_tupA pins s σ H _ v vl vu lo hi sl Q I rx hs pl pu ⟨a, vs, rfl, Same.sqT fh g1, fun hw => give fh q (rp_tup.mpr ⟨a, vs, rfl, g1, ?_⟩), fun _ => give_newT fh q (g2.cut lo hi)⟩
    have e := g2.cut lo hi
    have e2 : cutV vs lo hi = vs := by
      unfold cutV
      rw [hw.1, hw.2]
      simp
    rw [e2] at e
    exact e
def tO (W : Wo) (cf : CF) (gl : Nat → Option D) (e : E) : TO := fun σ H Q => ∃ H0 L F env o, R W H0 L F H env σ ∧ evO cf gl e env = some o ∧ ∀ H' F', Ext F H F' H' → Q o H'
/-- what may stand in a slice -/
def intE : E → Bool
  | .var _ | .int _ | .bin _ _ _ | .call _ _ | .bi _ _ | .neg _ => true
  | _ => false
theorem evO_of {e : E} {env : Sl} (h : intE e = true) : evO cf gl e env = (ev cf gl e env).bind optI := by
  cases e <;> first | (cases h; done) | (simp only [evO, ev, optI, Option.bind_some]; done) | (simp only [evO, ev, optI, Option.bind_some]; rfl)
theorem s_po {x : Expr} {e : E} (hi : intE e = true) (h : PE X x (TEx X cf gl e)) : PO X (some x) (tO (wo X) cf gl e) := by
  have q := po_some h
  refine ⟨fun pins s σ H Q I w => q.run pins s σ H Q I ?_⟩
  obtain ⟨H0, L, F, env, o, r, he, w⟩ := w
  rw [evO_of hi] at he
  simp only [Option.bind_eq_some_iff] at he
  obtain ⟨⟨m, d⟩, hc, ho⟩ := he
  refine ⟨H0, L, F, env, _, r, hc, fun v H1 F1 x1 v1 => ?_⟩
  cases d <;> simp only [optI, Option.some.injEq, reduceCtorEq] at ho
  subst ho
  have g := v1.rd x1.fh
  cases rd_int.mp g
  exact ⟨_, rfl, w H1 F1 x1⟩
theorem s_pon : PO X none (tO (wo X) cf gl .nil) := by
  refine ⟨fun pins s σ H Q I w => po_none.run pins s σ H Q I ?_⟩
  obtain ⟨H0, L, F, env, o, r, he, w⟩ := w
  unfold evO at he
  cases he
  exact w H F (Ext.refl r.fh)
theorem r_slc {a lo hi : E} {σ : L2.St} {H : Hp} {Q : VK} (h : TEx X cf gl (.slc a lo hi) σ H Q) : tSl (rSd (wo X)) (TEx X cf gl a) (tO (wo X) cf gl lo) (tO (wo X) cf gl hi) σ H Q := by
  obtain ⟨H0, L, F, env, c, r, he, q⟩ := h
  unfold ev at he
  simp only [Option.bind_eq_some_iff] at he
  obtain ⟨ca, ha, i, hi', j, hj, hs⟩ := he
  refine ⟨H0, L, F, env, ca, r, ha, fun x H1 F1 x1 v1 => ⟨H0, L, F1, env, i, r.ext x1, hi', fun H2 F2 x2 => ⟨H0, L, F2, env, j, r.ext (x1.trans x2), hj, fun H3 F3 x3 => ?_⟩⟩⟩
  exact ⟨F3, ca.2, c, x3.fh, ((v1.rd x1.fh).ext x2).ext x3, hs, fun v H4 F4 x4 v4 => q v H4 F4 (((x1.trans x2).trans x3).trans x4) (v4.back ((x1.trans x2).trans x3).hh)⟩
theorem r_rvs {a : E} {σ : L2.St} {H : Hp} {Q : VK} (h : TEx X cf gl (.rvs a) σ H Q) : tRevL X.K (TEx X cf gl a) σ H Q := by
  obtain ⟨H0, L, F, env, c, r, he, q⟩ := h
  unfold ev at he
  simp only [Option.bind_eq_some_iff] at he
  obtain ⟨⟨m, d⟩, ha, he⟩ := he
  cases d <;> simp at he
  subst he
  refine ⟨H0, L, F, env, _, r, ha, fun x H1 F1 x1 v1 => ?_⟩
  obtain ⟨p, vs, rfl, g1, g2⟩ := v1.rd x1.fh
  exact ⟨p, vs, rfl, g1, fun p hp => q _ _ F1 (x1.trans (Ext.fresh x1.fh hp _)) ⟨p, _, rfl, upd_same, ⟨_, rfl, g2.reverse⟩, x1.fh.free hp, x1.hh.free hp⟩⟩

/-! ### isinstance -/
def D.tyName : D → String
  | .non => "NoneType" | .bl _ => "bool" | .int _ => "int" | .str _ => "str" | .lst _ => "list" | .tup _ => "tuple" | .dct _ => "dict"
theorem rd_kit {pins : List (Addr × Obj)} {σ : L2.St} {H : Hp} {s : Shared} {F : Hp} {d : D} {x : V} {u : Value} (fh : Same F H) (I : Inv X pins σ H s) (h : Rd (wo X) F H d x) (rx : RelV x u) :
    ∃ P : Heap → Prop, PySem.W.KitX X.K u (.type d.tyName) P ∧ P s.heap ∧ u ≠ .builtin "__main__.__loader__#opaque" := by
  cases d with
  | non => cases rd_non.mp h; exact kit_of I rx (.base .non)
  | bl b => cases rd_bl.mp h; exact kit_of I rx (.base (.bl _))
  | int b => cases rd_int.mp h; exact kit_of I rx (.base (.int _))
  | str b => cases rd_str.mp h; exact kit_of I rx (.base (.str _))
  | lst l =>
    obtain ⟨a, vs, rfl, g1, g2⟩ := h
    cases rx
    obtain ⟨its, r, ⟨o, n, e1, e2, _⟩, _⟩ := I.list g1
    exact ⟨_, PySem.W.kitx_list, ⟨o, e1, e2⟩, fun z => nomatch z⟩
  | tup l =>
    obtain ⟨a, vs, rfl, g1, g2⟩ := rd_tup.mp h
    cases rx
    obtain ⟨its, r, ⟨o, e1, e2, _⟩, _⟩ := I.tuple (Same.sqT fh g1)
    exact ⟨_, PySem.W.kitx_tuple, ⟨o, e1, e2⟩, fun z => nomatch z⟩
  | dct l =>
    obtain ⟨a, o, rfl, g1, g2⟩ := h
    cases rx
    rcases g2 with ⟨kvs, rfl, _⟩ | ⟨xs, rfl, _⟩
    · exact kit_of I (show RelV (.ref a) (.ref a) from rfl) (.base (.dK g1))
    · obtain ⟨⟨_, _, ys, _, o, es, ep, e1, e2, _⟩, _⟩ := (show ObjOk X.prog X.w H s.heap a (ndO (wo X) a xs) from I.hok a _ g1)
      exact ⟨_, PySem.W.kitx_dict, ⟨o, e1, e2.1⟩, fun z => nomatch z⟩
def Ty.names : Ty → List String
  | .int => ["int"] | .bool => ["bool"] | .str => ["str"] | .tuple => ["tuple"] | .list => ["list"] | .seq => ["list", "tuple"]
def tyB (d : D) (n : String) : Bool := d.tyName == n || (d.tyName == "bool" && n == "int")
theorem kitB_all : ∀ a ∈ ["NoneType", "bool", "int", "str", "list", "tuple", "dict"], ∀ n ∈ ["int", "bool", "str", "tuple", "list"], kitB a n = some (a == n || (a == "bool" && n == "int")) := by decide +kernel
theorem tyName_in (d : D) : d.tyName ∈ ["NoneType", "bool", "int", "str", "list", "tuple", "dict"] := by cases d <;> simp [D.tyName]
theorem kitB_ty (d : D) (n : String) (hn : n ∈ ["int", "bool", "str", "tuple", "list"]) : kitB d.tyName n = some (tyB d n) := kitB_all _ (tyName_in d) n hn
theorem call_isD : CallR X (.builtin "isinstance") (fun xs H Q => ∃ F d x n, Same F H ∧ xs = [x, .ty n] ∧ Rd (wo X) F H d x ∧ n ∈ ["int", "bool", "str", "tuple", "list"] ∧ Q (.bl (tyB d n)) H) := by
  intro pins s σ H xs us Q I r h
  obtain ⟨F, d, x, n, fh, rfl, hd, hn, q⟩ := h
  obtain ⟨u1, u2, rfl, r1, r2⟩ := vals2 r
  cases (show u2 = Value.type n from r2)
  obtain ⟨P, Z, p, hx⟩ := rd_kit fh I hd r1
  exact PySem.W.kia_one Z I.kIn p (kit_ty (kitB_ty d n hn)) hx fun tk => ⟨.bl _, H, I.tok tk, rfl, q⟩
theorem call_isDT : CallR X (.builtin "isinstance") (fun xs H Q => ∃ F d x tp, Same F H ∧ xs = [x, .ref tp] ∧ H tp = some (.tup [.ty "list", .ty "tuple"]) ∧ Rd (wo X) F H d x ∧ Q (.bl (tyB d "list" || tyB d "tuple")) H) := by
  intro pins s σ H xs us Q I r h
  obtain ⟨F, d, x, tp, fh, rfl, hT, hd, q⟩ := h
  obtain ⟨u1, u2, rfl, r1, r2⟩ := vals2 r
  cases (show u2 = Value.ref tp from r2)
  obtain ⟨P, Z, p, hx⟩ := rd_kit fh I hd r1
  obtain ⟨_, its, rv, o, h1, h2, n, h3⟩ := (show ObjOk X.prog X.w H s.heap tp (.tup [.ty "list", .ty "tuple"]) from I.hok tp _ hT)
  have e3 : its = [.type "list", .type "tuple"] := ClsV.all (us := [.type "list", .type "tuple"]) (.cons (.ty _) (.cons (.ty _) .nil)) rv
  subst e3
  obtain ⟨oc, od, dt, sl⟩ := o
  simp only at h2 h3
  subst h2 h3
  have k1 := kit_ty (K := X.K) (kitB_ty d "list" (by simp))
  have k2 := kit_ty (K := X.K) (kitB_ty d "tuple" (by simp))
  have e : PySem.W.kitAny X.K (.type d.tyName) [.type "list", .type "tuple"] = some (tyB d "list" || tyB d "tuple") := by
    unfold PySem.W.kitAny
    rw [k1]
    cases h : tyB d "list"
    · simp only [Bool.false_or]
      unfold PySem.W.kitAny
      rw [k2]
      cases h' : tyB d "tuple"
      · rfl
      · rfl
    · rfl
  exact PySem.W.kia_tup Z I.kIn p h1 e hx fun tk => ⟨.bl _, H, I.tok tk, rfl, q⟩
theorem isTy_names (d : D) : isTy .int d = tyB d "int" ∧ isTy .bool d = tyB d "bool" ∧ isTy .str d = tyB d "str" ∧ isTy .tuple d = tyB d "tuple" ∧ isTy .list d = tyB d "list" ∧ isTy .seq d = (tyB d "list" || tyB d "tuple") := by
  cases d <;> simp [isTy, tyB, D.tyName]
def Ty.name : Ty → Option String
  | .int => some "int" | .bool => some "bool" | .str => some "str" | .tuple => some "tuple" | .list => some "list" | .seq => none
theorem r_isi {t : Ty} {n : String} {a : E} {σ : L2.St} {H : Hp} {Q : VK} (ht : t.name = some n) (h : TEx X cf gl (.isi t a) σ H Q) :
    tCB (fun xs H Q => ∃ F d x n, Same F H ∧ xs = [x, .ty n] ∧ Rd (wo X) F H d x ∧ n ∈ ["int", "bool", "str", "tuple", "list"] ∧ Q (.bl (tyB d n)) H) (tCons (TEx X cf gl a) (tCons (tC (.ty n)) tNil)) σ H Q := by
  obtain ⟨H0, L, F, env, c, r, he, q⟩ := h
  unfold ev at he
  simp only [Option.map_eq_some_iff] at he
  obtain ⟨ca, ha, rfl⟩ := he
  refine ⟨H0, L, F, env, ca, r, ha, fun x H1 F1 x1 v1 => ?_⟩
  refine ⟨F1, ca.2, x, n, x1.fh, rfl, v1.rd x1.fh, by cases t <;> simp [Ty.name] at ht <;> subst ht <;> simp, ?_⟩
  have e : isTy t ca.2 = tyB ca.2 n := by
    obtain ⟨i1, i2, i3, i4, i5, i6⟩ := isTy_names ca.2
    cases t <;> simp [Ty.name] at ht <;> subst ht <;> assumption
  rw [← e]
  exact q _ H1 F1 x1 vbl
theorem r_isiT {a : E} {σ : L2.St} {H : Hp} {Q : VK} (h : TEx X cf gl (.isi .seq a) σ H Q) :
    tCB (fun xs H Q => ∃ F d x tp, Same F H ∧ xs = [x, .ref tp] ∧ H tp = some (.tup [.ty "list", .ty "tuple"]) ∧ Rd (wo X) F H d x ∧ Q (.bl (tyB d "list" || tyB d "tuple")) H) (tCons (TEx X cf gl a) (tCons (tTup (tCons (tC (.ty "list")) (tCons (tC (.ty "tuple")) tNil))) tNil)) σ H Q := by
  obtain ⟨H0, L, F, env, c, r, he, q⟩ := h
  unfold ev at he
  simp only [Option.map_eq_some_iff] at he
  obtain ⟨ca, ha, rfl⟩ := he
  refine ⟨H0, L, F, env, ca, r, ha, fun x H1 F1 x1 v1 => ⟨by rw [← sl_eq]; decide, fun p hp => ?_⟩⟩
  have x2 := Ext.fresh x1.fh hp (.tup [.ty "list", .ty "tuple"])
  refine ⟨F1, ca.2, x, p, x2.fh, rfl, upd_same, (v1.rd x1.fh).ext x2, ?_⟩
  rw [← (isTy_names ca.2).2.2.2.2.2]
  exact q _ _ F1 (x1.trans x2) vbl
end
end My
end

section
set_option Elab.async false
set_option linter.all false
set_option maxRecDepth 100000
/-! Sound3: targets, what is walked, comprehensions. -/
namespace My
open PySem PySem.Spec L2 PyProof.Rows
def Tg.len? : Tg → Option Nat
  | .nil => some 0 | .cons _ r => r.len?.map (· + 1) | _ => none
def Tg.ix : Tg → List Nat
  | .nm i => [i] | .tup t => t.ix | .nil => [] | .cons t r => t.ix ++ r.ix
section
variable {W : Wo} {H0 : Hp} {L : Lk} {F H F1 H1 Hs : Hp} {env : Sl} {σ : L2.St}
theorem getElem?_set_some {α : Type} {l : List α} {i j : Nat} {x y : α} (h : (l.set i x)[j]? = some y) : (i = j ∧ y = x) ∨ (i ≠ j ∧ l[j]? = some y) := by
  by_cases e : i = j
  · subst e
    rw [List.getElem?_set] at h
    simp only [if_true] at h
    split at h
    · cases h; exact .inl ⟨rfl, rfl⟩
    · cases h
  · rw [List.getElem?_set_ne e] at h
    exact .inr ⟨e, h⟩
/-- a slot set -/
theorem R.setC (r : R W H0 L F H env σ) {i : Nat} {c : C} {v : V} (hi : i < env.length) (hc : CellOk W H0 L F H i c v) (hn : c.1 = .own → ∀ (j : Nat) (d : D) (p : Addr), v = .ref p → j ≠ i → env[j]? = some (some (M.own, d)) → σ[j]? = some (some (V.ref p)) → False) :
    R W H0 L F H (env.set i (some c)) (σ.set i (some v)) := by
  refine ⟨r.fh, r.h0, by rw [List.length_set, List.length_set]; exact r.len, fun j c' e => ?_, fun j k d e p h1 h2 h3 h4 => ?_, r.hb, r.la⟩
  · rcases getElem?_set_some e with ⟨rfl, e2⟩ | ⟨ne, e2⟩
    · cases e2
      exact ⟨v, by rw [List.getElem?_set_self (by rw [← r.len]; exact hi)], hc⟩
    · obtain ⟨u, e3, e4⟩ := r.cell j c' e2
      exact ⟨u, by rw [List.getElem?_set_ne ne]; exact e3, e4⟩
  · rcases getElem?_set_some h1 with ⟨rfl, e1⟩ | ⟨n1, e1⟩
    · rcases getElem?_set_some h2 with ⟨rfl, e2⟩ | ⟨n2, e2⟩
      · rfl
      · exfalso
        cases e1
        rw [List.getElem?_set_self (by rw [← r.len]; exact hi)] at h3
        rw [List.getElem?_set_ne n2] at h4
        have hv : v = .ref p := Option.some.inj (Option.some.inj h3)
        exact hn rfl k e p hv (Ne.symm n2) e2 h4
    · rcases getElem?_set_some h2 with ⟨rfl, e2⟩ | ⟨n2, e2⟩
      · exfalso
        cases e2
        rw [List.getElem?_set_self (by rw [← r.len]; exact hi)] at h4
        rw [List.getElem?_set_ne n1] at h3
        have hv : v = .ref p := Option.some.inj (Option.some.inj h4)
        exact hn rfl j d p hv (Ne.symm n1) e1 h3
      · rw [List.getElem?_set_ne n1] at h3
        rw [List.getElem?_set_ne n2] at h4
        exact r.sep j k d e p e1 e2 h3 h4
theorem R.setV (r : R W H0 L F H env σ) {i : Nat} {d : D} {v : V} (hi : i < env.length) (hv : Rp W F d v) : R W H0 L F H (env.set i (some (.val, d))) (σ.set i (some v)) :=
  r.setC hi hv fun z => nomatch z
theorem wipeE_length (env : Sl) : ∀ vs : List Nat, (wipeE env vs).length = env.length
  | [] => rfl
  | v :: vs => by unfold wipeE; rw [List.length_set, wipeE_length env vs]
theorem wipeE_some {c : C} {i : Nat} : ∀ {vs : List Nat}, (wipeE env vs)[i]? = some (some c) → env[i]? = some (some c) ∧ i ∉ vs
  | [], h => ⟨h, by simp⟩
  | v :: vs, h => by
    unfold wipeE at h
    rcases getElem?_set_some h with ⟨rfl, e⟩ | ⟨ne, e⟩
    · cases e
    · obtain ⟨e1, e2⟩ := wipeE_some e
      exact ⟨e1, by simp only [List.mem_cons, not_or]; exact ⟨fun z => ne z.symm, e2⟩⟩
theorem wipe_keep {i : Nat} : ∀ {vs : List Nat}, i ∉ vs → (wipe σ vs)[i]? = σ[i]? := fun h => wipe_out h
theorem R.wipe (r : R W H0 L F H env σ) (vs : List Nat) : R W H0 L F H (wipeE env vs) (wipe σ vs) := by
  refine ⟨r.fh, r.h0, by rw [wipeE_length, wipe_length]; exact r.len, fun j c e => ?_, fun j k d e p h1 h2 h3 h4 => ?_, r.hb, r.la⟩
  · obtain ⟨e1, e2⟩ := wipeE_some e
    obtain ⟨v, e3, e4⟩ := r.cell j c e1
    exact ⟨v, by rw [wipe_keep e2]; exact e3, e4⟩
  · obtain ⟨e1, n1⟩ := wipeE_some h1
    obtain ⟨e2, n2⟩ := wipeE_some h2
    rw [wipe_keep n1] at h3
    rw [wipe_keep n2] at h4
    exact r.sep j k d e p e1 e2 h3 h4
theorem wipe_set {i : Nat} {x : Option V} : ∀ {vs : List Nat}, i ∈ vs → wipe (σ.set i x) vs = wipe σ vs
  | [], h => by cases h
  | v :: vs, h => by
    show (wipe (σ.set i x) vs).set v none = (wipe σ vs).set v none
    by_cases hv : i ∈ vs
    · rw [wipe_set hv]
    · have e : i = v := by
        rcases List.mem_cons.mp h with e | e
        · exact e
        · exact absurd e hv
      subst e
      refine List.ext_getElem? fun j => ?_
      by_cases hj : i = j
      · subst hj
        rw [List.getElem?_set, List.getElem?_set]
        simp only [if_true, wipe_length, List.length_set]
      · rw [List.getElem?_set_ne hj, List.getElem?_set_ne hj]
        by_cases hjv : j ∈ vs
        · clear h
          -- both are wiped at j
          have w : ∀ (τ : L2.St) (us : List Nat), j ∈ us → (wipe τ us)[j]? = if j < τ.length then some none else none := by
            intro τ us
            induction us with
            | nil => intro h; cases h
            | cons u us ih =>
              intro h
              show ((wipe τ us).set u none)[j]? = _
              by_cases hu : u = j
              · subst hu
                rw [List.getElem?_set]
                simp only [if_true, wipe_length]
              · rw [List.getElem?_set_ne hu]
                rcases List.mem_cons.mp h with e | e
                · exact absurd e.symm hu
                · exact ih e
          rw [w _ _ hjv, w _ _ hjv, List.length_set]
        · rw [wipe_keep hjv, wipe_keep hjv, List.getElem?_set_ne hj]
end
/-- a target's reading -/
def tG (W : Wo) (t : Tg) : TG := fun v σ H Q => ∃ H0 L F env d env', R W H0 L F H env σ ∧ Rp W F d v ∧ setT t d env = some env' ∧
  ∀ σ', R W H0 L F H env' σ' → (∀ vs, (∀ i ∈ t.ix, i ∈ vs) → wipe σ' vs = wipe σ vs) → Q σ' H
def tGs (W : Wo) (t : Tg) : TGs := fun us σ H Q => ∃ H0 L F env ds env', R W H0 L F H env σ ∧ RpL W F ds us ∧ setTs t ds env = some env' ∧
  ∀ σ', R W H0 L F H env' σ' → (∀ vs, (∀ i ∈ t.ix, i ∈ vs) → wipe σ' vs = wipe σ vs) → Q σ' H
section
variable {X : Cx}
theorem _root_.L2.PG.imp {x : Expr} {t t' : TG} (h : PG X x t) (f : ∀ v σ H Q, t' v σ H Q → t v σ H Q) : PG X x t' := ⟨fun pins s σ H v u Q I r w => h.run pins s σ H v u Q I r (f v σ H Q w)⟩
theorem _root_.L2.PGs.imp {x : List Expr} {t t' : TGs} (h : PGs X x t) (f : ∀ v σ H Q, t' v σ H Q → t v σ H Q) : PGs X x t' := ⟨fun pins s σ H v u Q I r w => h.run pins s σ H v u Q I r (f v σ H Q w)⟩
theorem r_nm {i : Nat} {v : V} {σ : L2.St} {H : Hp} {Q : L2.St → Hp → Prop} (h : tG (wo X) (.nm i) v σ H Q) : gName i v σ H Q := by
  obtain ⟨H0, L, F, env, d, env', r, hd, hs, q⟩ := h
  unfold setT at hs
  split at hs
  · rename_i hi
    cases hs
    exact q _ (r.setV hi hd) fun vs hv => wipe_set (hv i (by simp [Tg.ix]))
  · cases hs
theorem setTs_len {ds : List D} : ∀ {t : Tg} {env env' : Sl} {n : Nat}, setTs t ds env = some env' → (t.len? = some n) → ds.length = n := by
  induction ds with
  | nil => intro t env env' n h e; cases t <;> simp [setTs] at h; simp [Tg.len?] at e; exact e
  | cons d r ih =>
    intro t env env' n h e
    cases t <;> simp [setTs] at h
    rename_i t r'
    simp [Tg.len?] at e
    obtain ⟨k, e1, rfl⟩ := e
    simp only [Option.bind_eq_some_iff] at h
    obtain ⟨e1', h1, h2⟩ := h
    simp [ih h2 e1]
theorem _root_.L2.PG.or {x : Expr} {t t' : TG} (h : PG X x t) (h' : PG X x t') : PG X x (fun v σ H Q => t v σ H Q ∨ t' v σ H Q) := ⟨fun pins s σ H v u Q I r q => q.elim (h.run pins s σ H v u Q I r) (h'.run pins s σ H v u Q I r)⟩
theorem r_ttup {t : Tg} {n : Nat} (hn : t.len? = some n) {v : V} {σ : L2.St} {H : Hp} {Q : L2.St → Hp → Prop} (h : tG (wo X) (.tup t) v σ H Q) : gTup X.K n (tGs (wo X) t) v σ H Q ∨ gUnl X.K n (tGs (wo X) t) v σ H Q := by
  obtain ⟨H0, L, F, env, d, env', r, hd, hs, q⟩ := h
  unfold setT at hs
  cases d <;> simp only [reduceCtorEq] at hs
  · obtain ⟨a, vs, rfl, g1, g2⟩ := rp_lst.mp hd
    exact .inr ⟨a, vs, rfl, r.fh.seq g1, by rw [← g2.length]; exact setTs_len hs hn, H0, L, F, env, _, env', r, g2, hs, q⟩
  · obtain ⟨a, vs, rfl, g1, g2⟩ := rp_tup.mp hd
    exact .inl ⟨a, vs, rfl, Same.sqT r.fh g1, by rw [← g2.length]; exact setTs_len hs hn, H0, L, F, env, _, env', r, g2, hs, q⟩
theorem r_tnil {us : List V} {σ : L2.St} {H : Hp} {Q : L2.St → Hp → Prop} (h : tGs (wo X) .nil us σ H Q) : gNil us σ H Q := by
  obtain ⟨H0, L, F, env, ds, env', r, hd, hs, q⟩ := h
  cases ds <;> simp [setTs] at hs
  subst hs
  cases (show us = [] by unfold RpL at hd; exact hd)
  exact ⟨rfl, q σ r fun _ _ => rfl⟩
theorem r_tcons {t u : Tg} {us : List V} {σ : L2.St} {H : Hp} {Q : L2.St → Hp → Prop} (h : tGs (wo X) (.cons t u) us σ H Q) : gCons (tG (wo X) t) (tGs (wo X) u) us σ H Q := by
  obtain ⟨H0, L, F, env, ds, env', r, hd, hs, q⟩ := h
  cases ds <;> simp only [setTs, Option.bind_eq_some_iff, reduceCtorEq] at hs
  rename_i d ds
  obtain ⟨e1, h1, h2⟩ := hs
  unfold RpL at hd
  obtain ⟨v, s, rfl, g1, g2⟩ := hd
  refine ⟨v, s, rfl, H0, L, F, env, d, e1, r, g1, h1, fun σ1 r1 w1 => ⟨H0, L, F, e1, ds, env', r1, g2, h2, fun σ2 r2 w2 => q σ2 r2 fun vs hv => ?_⟩⟩
  rw [w2 vs fun i hi => hv i (by simp [Tg.ix, hi]), w1 vs fun i hi => hv i (by simp [Tg.ix, hi])]
end

/-! ### what is walked -/
/-- J walks ds while F and Pz stand -/
def Wk (W : Wo) (F Pz : Hp) (J : It) (ds : List D) : Prop := ∀ i F2 H2, Same F F2 → Same F2 H2 → Same Pz H2 →
  (∀ d, ds[i]? = some d → J.go i H2 ∧ ∀ x H3, J.yld i H2 x H3 → ∃ F3, Ext F2 H2 F3 H3 ∧ Rp W F3 d x) ∧ (i = ds.length → J.stop i H2)
/-- a list or tuple that stands while F and Pz stand -/
def Src (W : Wo) (F Pz : Hp) (l : List D) (p : Addr) (vs : List V) : Prop := RpL W F l vs ∧ ∀ H2, Same F H2 → Same Pz H2 → SqL W.K H2 p vs
def SrcT (W : Wo) (F : Hp) (l : List D) (p : Addr) (vs : List V) : Prop := RpL W F l vs ∧ SqT W.K F p vs
section
variable {W : Wo} {F Pz : Hp}
theorem Wk.of {J : It} {n : Nat} {G : Hp → Prop} {Y : Nat → Hp → V → Hp → Prop} {ds : List D} (w : Walk J n G Y) (hn : n = ds.length) (hg : ∀ H2, Same F H2 → Same Pz H2 → G H2)
    (hy : ∀ i F2 H2 x H3 d, Same F F2 → Same F2 H2 → Y i H2 x H3 → ds[i]? = some d → ∃ F3, Ext F2 H2 F3 H3 ∧ Rp W F3 d x) : Wk W F Pz J ds := by
  intro i F2 H2 s1 s2 s3
  have g := hg H2 (s1.trans s2) s3
  refine ⟨fun d hd => ?_, fun e => ?_⟩
  · have hi : i < n := by rw [hn]; exact (List.getElem?_eq_some_iff.mp hd).1
    exact ⟨w.goes i H2 hi g, fun x H3 y => hy i F2 H2 x H3 d s1 s2 (w.yields i H2 x H3 hi g y) hd⟩
  · rw [e, ← hn]
    exact w.stops H2 g
theorem wk_list {l : List D} {p : Addr} {vs : List V} (h : Src W F Pz l p vs) : Wk W F Pz (Itl W.K p) l :=
  Wk.of walk_list h.1.length.symm h.2 fun i F2 H2 x H3 d s1 s2 y hd => by
    obtain ⟨rfl, e⟩ := y
    obtain ⟨v, e1, e2⟩ := h.1.get hd
    rw [e] at e1
    cases e1
    exact ⟨F2, Ext.refl s2, Rp.mono s1 _ e2⟩
theorem wk_tup {l : List D} {p : Addr} {vs : List V} (h : SrcT W F l p vs) : Wk W F Pz (Itt W.K p) l :=
  Wk.of walk_tup h.1.length.symm (fun H2 s1 _ => Same.sqT s1 h.2) fun i F2 H2 x H3 d s1 s2 y hd => by
    obtain ⟨rfl, e⟩ := y
    obtain ⟨v, e1, e2⟩ := h.1.get hd
    rw [e] at e1
    cases e1
    exact ⟨F2, Ext.refl s2, Rp.mono s1 _ e2⟩
theorem wk_str {x : Str} : Wk W F Pz (Its x) (x.cps.toList.map fun c => D.str ⟨#[c]⟩) :=
  Wk.of walk_str (by simp) (fun _ _ _ => trivial) fun i F2 H2 v H3 d s1 s2 y hd => by
    obtain ⟨rfl, c, e, rfl⟩ := y
    rw [List.getElem?_map] at hd
    have e' : x.cps.toList[i]? = some c := by simpa using e
    rw [e'] at hd
    cases hd
    exact ⟨F2, Ext.refl s2, (rp_str (W := W) (F := F2)).mpr rfl⟩
theorem wk_rng {lo : Int} {n : Nat} : Wk W F Pz (Itr lo n) ((List.range n).map fun (k : Nat) => D.int (lo + k)) :=
  Wk.of walk_range (by simp) (fun _ _ _ => trivial) fun i F2 H2 v H3 d s1 s2 y hd => by
    obtain ⟨rfl, rfl⟩ := y
    rw [List.getElem?_map] at hd
    obtain ⟨k, e, rfl⟩ := Option.map_eq_some_iff.mp hd
    rw [List.getElem?_range (by simpa using (List.getElem?_eq_some_iff.mp e).1)] at e
    cases e
    exact ⟨F2, Ext.refl s2, (rp_int (W := W) (F := F2)).mpr rfl⟩
theorem wk_rngC {lo c : Int} {n : Nat} : Wk W F Pz (Itc lo c n) ((List.range n).map fun (k : Nat) => D.int (lo + k * c)) :=
  Wk.of walk_rangeC (by simp) (fun _ _ _ => trivial) fun i F2 H2 v H3 d s1 s2 y hd => by
    obtain ⟨rfl, rfl⟩ := y
    rw [List.getElem?_map] at hd
    obtain ⟨k, e, rfl⟩ := Option.map_eq_some_iff.mp hd
    rw [List.getElem?_range (by simpa using (List.getElem?_eq_some_iff.mp e).1)] at e
    cases e
    exact ⟨F2, Ext.refl s2, (rp_int (W := W) (F := F2)).mpr rfl⟩
theorem wk_rev {l : List D} {p : Addr} {vs : List V} (h : Src W F Pz l p vs) : Wk W F Pz (Itv W.K p vs.length) l.reverse :=
  Wk.of walk_rev (by rw [List.length_reverse, h.1.length]) h.2 fun i F2 H2 x H3 d s1 s2 y hd => by
    obtain ⟨rfl, e⟩ := y
    have hi : i < vs.length := by
      have := (List.getElem?_eq_some_iff.mp hd).1
      rwa [List.length_reverse, h.1.length] at this
    rw [List.getElem?_reverse (by rw [h.1.length]; exact hi), h.1.length] at hd
    obtain ⟨v, e1, e2⟩ := h.1.get hd
    rw [e] at e1
    cases e1
    exact ⟨F2, Ext.refl s2, Rp.mono s1 _ e2⟩
theorem wk_revT {l : List D} {p : Addr} {vs : List V} (h : SrcT W F l p vs) : Wk W F Pz (RT.ItvT W.K p vs.length) l.reverse := by
  intro i F2 H2 s1 s2 s3
  have hq := Same.sqT (s1.trans s2) h.2
  refine ⟨fun d hd => ?_, fun e => by rw [e, List.length_reverse, h.1.length]; exact Nat.le_refl _⟩
  have hi : i < vs.length := by
    have := (List.getElem?_eq_some_iff.mp hd).1
    rwa [List.length_reverse, h.1.length] at this
  rw [List.getElem?_reverse (by rw [h.1.length]; exact hi), h.1.length] at hd
  obtain ⟨v, e1, e2⟩ := h.1.get hd
  refine ⟨⟨hi, vs, v, hq, e1⟩, fun x H3 y => ?_⟩
  obtain ⟨rfl, y⟩ := y
  have := y vs hq
  rw [e1] at this
  cases this
  exact ⟨F2, Ext.refl s2, Rp.mono s1 _ e2⟩
theorem enmD_get : ∀ {l : List D} {k i : Nat} {d : D}, (enmD k l)[i]? = some d → ∃ x, l[i]? = some x ∧ d = .tup [.int ((k + i : Nat) : Int), x]
  | [], _, _, _, h => by simp [enmD] at h
  | x :: l, k, 0, d, h => by
    simp [enmD] at h
    subst h
    exact ⟨x, rfl, rfl⟩
  | x :: l, k, i + 1, d, h => by
    simp only [enmD, List.getElem?_cons_succ] at h
    obtain ⟨y, e1, e2⟩ := enmD_get h
    exact ⟨y, by simpa using e1, by rw [e2]; congr 4; omega⟩
theorem enmD_length : ∀ (l : List D) (k : Nat), (enmD k l).length = l.length
  | [], _ => rfl
  | x :: l, k => by simp [enmD, enmD_length l (k + 1)]
theorem pair_new {F2 H2 H3 : Hp} {T : Addr} {x y : V} {d e : D} (s2 : Same F2 H2) (hT : H2 T = none) (e3 : H3 = upd H2 T (.tup [x, y])) (hx : Rp W F2 d x) (hy : Rp W F2 e y) : ∃ F3, Ext F2 H2 F3 H3 ∧ Rp W F3 (.tup [d, e]) (.ref T) := by
  subst e3
  have x4 := Ext.new s2 hT (.tup [x, y])
  refine ⟨_, x4, rp_tup.mpr ⟨T, [x, y], rfl, SqT.of upd_same, RpL.cons (Rp.mono x4.ff _ hx) (RpL.one (Rp.mono x4.ff _ hy))⟩⟩
theorem wk_enum {l : List D} {p : Addr} {vs : List V} (h : Src W F Pz l p vs) : Wk W F Pz (Ite W.K p) (enmD 0 l) :=
  Wk.of walk_enum (by rw [enmD_length, h.1.length]) h.2 fun i F2 H2 x H3 d s1 s2 y hd => by
    obtain ⟨T, a, b, rfl, hT, e3, e4, e5⟩ := y
    obtain ⟨z, e6, rfl⟩ := enmD_get hd
    obtain ⟨v, e7, e8⟩ := h.1.get e6
    have e5 : vs[i]? = some b := e5
    rw [e5] at e7
    cases e7
    cases e4
    rw [Nat.zero_add]
    exact pair_new s2 hT e3 (rp_int.mpr rfl) (Rp.mono s1 _ e8)
theorem zipD_get : ∀ {l m : List D} {i : Nat} {d : D}, (zipD l m)[i]? = some d → ∃ x y, l[i]? = some x ∧ m[i]? = some y ∧ d = .tup [x, y]
  | [], _, _, _, h => by simp [zipD] at h
  | _ :: _, [], _, _, h => by simp [zipD] at h
  | x :: l, y :: m, 0, d, h => by
    simp [zipD] at h
    subst h
    exact ⟨x, y, rfl, rfl, rfl⟩
  | x :: l, y :: m, i + 1, d, h => by
    simp only [zipD, List.getElem?_cons_succ] at h
    obtain ⟨a, b, e1, e2, e3⟩ := zipD_get h
    exact ⟨a, b, by simpa using e1, by simpa using e2, e3⟩
theorem zipD_length : ∀ (l m : List D), (zipD l m).length = min l.length m.length
  | [], _ => by simp [zipD]
  | _ :: _, [] => by simp [zipD]
  | x :: l, y :: m => by simp [zipD, zipD_length l m]
theorem wk_zip {l m : List D} {p q : Addr} {vs us : List V} (h : Src W F Pz l p vs) (g : Src W F Pz m q us) : Wk W F Pz (Itz W.K p q) (zipD l m) :=
  Wk.of (walk_zip (n := min vs.length us.length) rfl) (by rw [zipD_length, h.1.length, g.1.length]) (fun H2 s1 s2 => ⟨h.2 H2 s1 s2, g.2 H2 s1 s2⟩) fun i F2 H2 x H3 d s1 s2 y hd => by
    obtain ⟨T, a, b, rfl, hT, e3, e4, e5⟩ := y
    obtain ⟨z, z', e6, e7, rfl⟩ := zipD_get hd
    obtain ⟨v, e8, e9⟩ := h.1.get e6
    obtain ⟨v', e10, e11⟩ := g.1.get e7
    have e4 : vs[i]? = some a := e4
    have e5 : us[i]? = some b := e5
    rw [e4] at e8
    cases e8
    rw [e5] at e10
    cases e10
    exact pair_new s2 hT e3 (Rp.mono s1 _ e9) (Rp.mono s1 _ e11)
end

/-! ### what an iterable gives -/
/-- walked within a loop that changes things: no list of ours that a slot holds -/
def safeS (e : E) (env : Sl) : Bool := match e with
  | .var i => (match env[i]? with | some (some (.own, _)) => false | _ => true)
  | .ite _ _ _ => false
  | _ => true
def safeI (e : E) (env : Sl) : Bool := match e with
  | .it a => safeS a env
  | .enm a => safeS a env
  | .rev a => safeS a env
  | .zip a b => safeS a env && safeS b env
  | _ => true
def SrcD (W : Wo) (F Pz : Hp) (d : D) (v : V) : Prop := match d with
  | .lst l => ∃ p vs, v = .ref p ∧ Src W F Pz l p vs
  | .tup l => ∃ p vs, v = .ref p ∧ SrcT W F l p vs
  | .str x => v = .str x
  | _ => True
def isVar : E → Option Nat
  | .var i => some i | _ => none
/-- a source's reading -/
def tZ (W : Wo) (cf : CF) (gl : Nat → Option D) (e : E) : TE := match isVar e with
  | some i => tVar i
  | none => tE W cf gl e
section
variable {cf : CF} {gl : Nat → Option D}
theorem ev_own {e : E} {env : Sl} {c : C} (h1 : isVar e = none) (h2 : ∀ a b d, e ≠ .ite a b d) (h : ev cf gl e env = some c) : c.1 = .val ∨ c.1 = .own := by
  cases e <;> unfold ev at h
  case var i => cases h1
  case ite a b d => exact absurd rfl (h2 _ _ _)
  case bin o a b =>
    simp only [Option.bind_eq_some_iff] at h
    obtain ⟨_, _, _, _, h⟩ := h
    exact op2_m h
  case neg a =>
    simp only [Option.bind_eq_some_iff] at h
    obtain ⟨_, _, h⟩ := h
    split at h
    · cases h; exact .inl rfl
    · cases h
  case chn o1 o2 a b c =>
    simp only [Option.bind_eq_some_iff] at h
    obtain ⟨_, _, _, _, h⟩ := h
    split at h
    · simp only [Option.bind_eq_some_iff] at h
      obtain ⟨_, _, h⟩ := h
      exact op2_m h
    · cases h; exact .inl rfl
    · cases h
  case not a =>
    split at h
    · cases h; exact .inl rfl
    · cases h
  case slc a lo hi =>
    simp only [Option.bind_eq_some_iff] at h
    obtain ⟨_, _, _, _, _, _, h⟩ := h
    exact slice_m h
  case rvs a =>
    simp only [Option.bind_eq_some_iff] at h
    obtain ⟨_, _, h⟩ := h
    split at h
    · cases h; exact .inr rfl
    · cases h
  case call f es =>
    simp only [Option.bind_eq_some_iff] at h
    obtain ⟨_, _, _, _, h⟩ := h
    split at h
    · rename_i hm
      cases h
      exact hm
    · cases h
  case bi b es =>
    simp only [Option.bind_eq_some_iff] at h
    obtain ⟨_, _, h⟩ := h
    exact biF_m h
  case isi t a =>
    simp only [Option.map_eq_some_iff] at h
    obtain ⟨_, _, rfl⟩ := h
    exact .inl rfl
  case lst es =>
    simp only [Option.bind_eq_some_iff] at h
    obtain ⟨_, _, _, _, h⟩ := h
    split at h
    · cases h; exact .inr rfl
    · cases h
  case tup es =>
    simp only [Option.bind_eq_some_iff] at h
    obtain ⟨_, _, _, _, h⟩ := h
    split at h
    · cases h; exact .inl rfl
    · cases h
  case cv b it =>
    simp only [Option.bind_eq_some_iff] at h
    obtain ⟨_, _, _, _, h⟩ := h
    split at h
    · split at h
      · cases h; exact .inl rfl
      · cases h; exact .inr rfl
      · cases h
    · cases h
  case comp own t it ifs elt =>
    simp only [Option.bind_eq_some_iff] at h
    obtain ⟨_, _, _, _, h⟩ := h
    split at h
    · cases h; exact .inr rfl
    · cases h
  all_goals first
    | (cases h; exact .inl rfl)
    | (simp only [Option.map_eq_some_iff] at h; obtain ⟨_, _, rfl⟩ := h; exact .inl rfl)
    | cases h
theorem VOk.src {W : Wo} {F H F1 H1 : Hp} {c : C} {v : V} (x : Ext F H F1 H1) (h : VOk W H F1 H1 c v) : SrcD W F1 H1 c.2 v := by
  have g := h.rd x.fh
  obtain ⟨m, d⟩ := c
  cases d with
  | lst l =>
    obtain ⟨p, vs, e, g1, g2⟩ := g
    exact ⟨p, vs, e, g2, fun H2 _ s => s.seq g1⟩
  | tup l =>
    obtain ⟨p, vs, e, g1, g2⟩ := rd_tup.mp g
    exact ⟨p, vs, e, g2, g1⟩
  | str x => exact rd_str.mp g
  | _ => trivial
theorem Rp.src {W : Wo} {F Pz : Hp} {d : D} {v : V} (h : Rp W F d v) : SrcD W F Pz d v := by
  cases d with
  | lst l =>
    obtain ⟨p, vs, e, g1, g2⟩ := rp_lst.mp h
    exact ⟨p, vs, e, g2, fun H2 s _ => s.seq g1⟩
  | tup l =>
    obtain ⟨p, vs, e, g1, g2⟩ := rp_tup.mp h
    exact ⟨p, vs, e, g2, g1⟩
  | str x => exact rp_str.mp h
  | _ => trivial
/-- a source read -/
theorem r_src {W : Wo} {lk : Bool} {H0 : Hp} {L : Lk} {F H : Hp} {env : Sl} {σ : L2.St} {e : E} {c : C} {Q : VK} (r : R W H0 L F H env σ) (he : ev cf gl e env = some c) (hs : lk = true → safeS e env = true)
    (q : ∀ v H1 F1, Ext F H F1 H1 → SrcD W F1 (if lk = true then H0 else H1) c.2 v → Q v H1) : tZ W cf gl e σ H Q := by
  unfold tZ
  cases hv : isVar e with
  | some i =>
    cases e <;> simp [isVar] at hv
    subst hv
    unfold ev at he
    cases lk with
    | false =>
      obtain ⟨v, e1, e2⟩ := r.var (Hs := H) he
      exact ⟨v, e1, q v H F (Ext.refl r.fh) (VOk.src (Ext.refl r.fh) e2)⟩
    | true =>
      rename_i i
      have hs := hs rfl
      unfold safeS at hs
      cases qq : env[i]? with
      | none => rw [qq] at he; cases he
      | some oc =>
        cases oc with
        | none => rw [qq] at he; cases he
        | some md =>
          obtain ⟨m, d⟩ := md
          rw [qq] at he
          simp only [qq] at hs
          obtain ⟨v, e1, e2⟩ := r.cell i _ qq
          refine ⟨v, e1, q v H F (Ext.refl r.fh) ?_⟩
          rw [if_pos rfl]
          cases m with
          | val => cases he; exact Rp.src e2
          | own => cases hs
          | bor =>
            have z3 := (Bo.up (r.hb.trans r.h0) e2).1
            simp only [rdV, z3, if_true, Option.some.injEq] at he
            subst he
            cases d with
            | lst l => obtain ⟨p, vs, g1, g2, g3⟩ := e2; exact ⟨p, vs, g1, g3, fun H2 _ s => (r.hb.trans s).seq g2⟩
            | dct l => trivial
            | _ => exact False.elim e2
          | lck =>
            obtain ⟨p, o, rfl, _, z1, z2, _⟩ := e2
            have z3 := (rpo_bo z1 z2).1
            simp only [rdV, z3, if_true, Option.some.injEq] at he
            subst he
            cases d with
            | lst l =>
              obtain ⟨vs, rfl, g⟩ := z2
              exact ⟨p, vs, rfl, g, fun H2 _ s => SqL.of (s _ _ z1)⟩
            | dct l => trivial
            | _ => exact z2.elim
  | none =>
    refine ⟨H0, L, F, env, c, r, he, fun v H1 F1 x1 v1 => ?_⟩
    cases lk with
    | false => exact q v H1 F1 x1 (VOk.src x1 v1)
    | true =>
      have hs := hs rfl
      have hm := ev_own hv (fun a b d z => by subst z; cases hs) he
      have hvl : vl c = some c.2 := by
        obtain ⟨m, d⟩ := c
        rcases hm with hm | hm <;> (simp only at hm; subst hm; rfl)
      obtain ⟨F3, x3, s3, p3⟩ := v1.keep x1 hvl
      exact q v H1 F3 x3 (Rp.src p3)
end
/-- an iterable's reading -/
def tI (W : Wo) (cf : CF) (gl : Nat → Option D) (lk : Bool) (e : E) : TI := fun σ H Rr => ∃ H0 L F env ds, R W H0 L F H env σ ∧ evI cf gl e env = some ds ∧ (lk = true → safeI e env = true) ∧
  ∀ J H' F', Ext F H F' H' → Wk W F' (if lk = true then H0 else H') J ds → Rr J H'
section
variable {X : Cx} {cf : CF} {gl : Nat → Option D} {lk : Bool}
theorem _root_.L2.PI.imp {tg x : Expr} {t t' : TI} (h : PI X tg x t) (f : ∀ σ H Q, t' σ H Q → t σ H Q) : PI X tg x t' := ⟨fun pins s σ H Q I q => h.run pins s σ H Q I (f σ H Q q)⟩
theorem _root_.L2.PI.or {tg x : Expr} {t t' : TI} (h : PI X tg x t) (h' : PI X tg x t') : PI X tg x (fun σ H Q => t σ H Q ∨ t' σ H Q) := ⟨fun pins s σ H Q I q => q.elim (h.run pins s σ H Q I) (h'.run pins s σ H Q I)⟩
abbrev TZx (X : Cx) (cf : CF) (gl : Nat → Option D) (e : E) : TE := tZ (wo X) cf gl e
theorem r_it {e : E} {σ : L2.St} {H : Hp} {Q : It → Hp → Prop} (h : tI (wo X) cf gl lk (.it e) σ H Q) : iList X.K (TZx X cf gl e) σ H Q ∨ iTup X.K (TZx X cf gl e) σ H Q ∨ iStr (TZx X cf gl e) σ H Q := by
  obtain ⟨H0, L, F, env, ds, r, he, hs, q⟩ := h
  unfold evI at he
  simp only [Option.bind_eq_some_iff] at he
  obtain ⟨c, hc, hi⟩ := he
  have go := fun (Q' : VK) (k : ∀ v H1 F1, Ext F H F1 H1 → SrcD (wo X) F1 (if lk = true then H0 else H1) c.2 v → Q' v H1) => r_src (lk := lk) r hc hs k
  obtain ⟨m, d⟩ := c
  cases d <;> simp only [items, Option.some.injEq, reduceCtorEq] at hi
  · subst hi
    refine .inr (.inr (go _ fun v H1 F1 x1 s1 => ?_))
    cases (show v = _ from s1)
    exact ⟨_, rfl, q _ H1 F1 x1 wk_str⟩
  · subst hi
    refine .inl (go _ fun v H1 F1 x1 s1 => ?_)
    obtain ⟨p, vs, rfl, s⟩ := s1
    exact ⟨p, rfl, ⟨vs, s.2 H1 x1.fh (by cases lk with | true => exact r.h0.trans x1.hh | false => exact Same.refl _)⟩, q _ H1 F1 x1 (wk_list s)⟩
  · subst hi
    refine .inr (.inl (go _ fun v H1 F1 x1 s1 => ?_))
    obtain ⟨p, vs, rfl, s⟩ := s1
    exact ⟨p, rfl, ⟨vs, Same.sqT x1.fh s.2⟩, q _ H1 F1 x1 (wk_tup s)⟩
theorem r_rev {e : E} {σ : L2.St} {H : Hp} {Q : It → Hp → Prop} (h : tI (wo X) cf gl lk (.rev e) σ H Q) : RT.iRevA X.K (TZx X cf gl e) σ H Q := by
  obtain ⟨H0, L, F, env, ds, r, he, hs, q⟩ := h
  unfold evI at he
  simp only [Option.bind_eq_some_iff, Option.map_eq_some_iff] at he
  obtain ⟨c, hc, l', hi, rfl⟩ := he
  have go := fun (Q' : VK) (k : ∀ v H1 F1, Ext F H F1 H1 → SrcD (wo X) F1 (if lk = true then H0 else H1) c.2 v → Q' v H1) => r_src (lk := lk) r hc hs k
  obtain ⟨m, d⟩ := c
  cases d <;> simp only [seqD, Option.some.injEq, reduceCtorEq] at hi
  · subst hi
    refine go _ fun v H1 F1 x1 s1 => ?_
    obtain ⟨p, vs, rfl, s⟩ := s1
    exact ⟨p, vs, rfl, .inl ⟨s.2 H1 x1.fh (by cases lk with | true => exact r.h0.trans x1.hh | false => exact Same.refl _), q _ H1 F1 x1 (wk_rev s)⟩⟩
  · subst hi
    refine go _ fun v H1 F1 x1 s1 => ?_
    obtain ⟨p, vs, rfl, s⟩ := s1
    exact ⟨p, vs, rfl, .inr ⟨Same.sqT x1.fh s.2, q _ H1 F1 x1 (wk_revT s)⟩⟩
theorem evL_1 {a : E} {env : Sl} {cs : List C} (h : evL cf gl (.cons a .nil) env = some cs) : ∃ c, cs = [c] := by
  simp only [evL, Option.bind_eq_some_iff, Option.map_eq_some_iff] at h
  obtain ⟨c, _, r, e, rfl⟩ := h
  cases e
  exact ⟨c, rfl⟩
theorem evL_2 {a b : E} {env : Sl} {cs : List C} (h : evL cf gl (.cons a (.cons b .nil)) env = some cs) : ∃ c d, cs = [c, d] := by
  simp only [evL, Option.bind_eq_some_iff, Option.map_eq_some_iff] at h
  obtain ⟨c, _, r, ⟨d, _, r2, e, rfl⟩, rfl⟩ := h
  cases e
  exact ⟨c, d, rfl⟩
theorem evL_3 {a b c : E} {env : Sl} {cs : List C} (h : evL cf gl (.cons a (.cons b (.cons c .nil))) env = some cs) : ∃ x y z, cs = [x, y, z] := by
  simp only [evL, Option.bind_eq_some_iff, Option.map_eq_some_iff] at h
  obtain ⟨c, _, r, ⟨d, _, r2, ⟨e3, _, r3, e, rfl⟩, rfl⟩, rfl⟩ := h
  cases e
  exact ⟨c, d, e3, rfl⟩
/-- the ranges -/
theorem r_rng1 {a : E} {σ : L2.St} {H : Hp} {Q : It → Hp → Prop} (h : tI (wo X) cf gl lk (.rng (.cons a .nil)) σ H Q) : iRng1 (tA (wo X) cf gl (.cons a .nil)) σ H Q := by
  obtain ⟨H0, L, F, env, ds, r, he, hs, q⟩ := h
  unfold evI at he
  simp only [Option.bind_eq_some_iff] at he
  obtain ⟨cs, hc, hr⟩ := he
  refine ⟨H0, L, F, env, cs, r, hc, fun vs H1 F1 x1 v1 => ?_⟩
  have g := v1.rl x1.fh
  obtain ⟨⟨m, d⟩, rfl⟩ := evL_1 hc
  cases d <;> simp only [range3, reduceCtorEq] at hr
  rename_i j
  split at hr
  · rename_i hb
    cases hr
    obtain ⟨v, rfl, g2⟩ := RL.one g
    cases rd_int.mp g2
    refine ⟨j, rfl, by simpa using hb.1, by simpa using hb.2, q _ H1 F1 x1 ?_⟩
    have := wk_rng (W := wo X) (F := F1) (Pz := if lk = true then H0 else H1) (lo := 0) (n := j.toNat)
    simpa using this
  · cases hr
theorem r_rng2 {a b : E} {σ : L2.St} {H : Hp} {Q : It → Hp → Prop} (h : tI (wo X) cf gl lk (.rng (.cons a (.cons b .nil))) σ H Q) : iRng2 (tA (wo X) cf gl (.cons a (.cons b .nil))) σ H Q := by
  obtain ⟨H0, L, F, env, ds, r, he, hs, q⟩ := h
  unfold evI at he
  simp only [Option.bind_eq_some_iff] at he
  obtain ⟨cs, hc, hr⟩ := he
  refine ⟨H0, L, F, env, cs, r, hc, fun vs H1 F1 x1 v1 => ?_⟩
  have g := v1.rl x1.fh
  obtain ⟨⟨m, d⟩, ⟨m', d'⟩, rfl⟩ := evL_2 hc
  cases d <;> cases d' <;> simp only [range3, reduceCtorEq] at hr
  rename_i i j
  split at hr
  · rename_i hb
    cases hr
    obtain ⟨v, v', rfl, g, g'⟩ := RL.two g
    cases rd_int.mp g
    cases rd_int.mp g'
    refine ⟨i, j, rfl, ?_, q _ H1 F1 x1 wk_rng⟩
    have e : (2 : Int) ^ 62 = 4611686018427387904 := by decide
    rw [e]
    exact hb
  · cases hr
theorem rgC_up {i j c : Int} (h : 0 ≤ i ∧ i < 1073741824 ∧ 0 ≤ j ∧ j < 1073741824 ∧ 0 < c ∧ c < 1073741824) : RgC i j c (if i < j then (j - i - 1) / c + 1 else 0 : Int).toNat := by
  obtain ⟨h1, h2, h3, h4, h5, h6⟩ := h
  have e : Builtin.Range.rangeSize i j c = if i < j then (j - i - 1) / c + 1 else 0 := by
    unfold Builtin.Range.rangeSize
    rw [if_pos h5]
  have e0 : i < j → 0 ≤ (j - i - 1) / c := fun q => Int.ediv_nonneg (by omega) (by omega)
  have e1 : i < j → (j - i - 1) / c ≤ j - i - 1 := fun q => Int.ediv_le_self _ (by omega)
  refine ⟨by omega, by omega, ?_, ?_⟩
  · unfold Builtin.Range.small
    rw [e]
    simp only [Builtin.Range.rangeFitsLong, Bool.and_eq_true, Bool.or_eq_true, decide_eq_true_eq, beq_iff_eq, h5, if_true, gt_iff_lt]
    have e2 : i < j → (j - i - 1) / c * c ≤ j - i - 1 := fun q => Int.ediv_mul_le _ (by omega)
    split
    · rename_i q
      have q0 := e0 q
      have q1 := e1 q
      have q2 := e2 q
      have q3 : ((j - i - 1) / c + 1) * c = (j - i - 1) / c * c + c := by rw [Int.add_mul, Int.one_mul]
      omega
    · omega
  · rw [e]
    split
    · rename_i q
      have q0 := e0 q
      omega
    · rfl
theorem r_rng3 {a b c : E} {σ : L2.St} {H : Hp} {Q : It → Hp → Prop} (h : tI (wo X) cf gl lk (.rng (.cons a (.cons b (.cons c .nil)))) σ H Q) : iRng3 (tA (wo X) cf gl (.cons a (.cons b (.cons c .nil)))) σ H Q := by
  obtain ⟨H0, L, F, env, ds, r, he, hs, q⟩ := h
  unfold evI at he
  simp only [Option.bind_eq_some_iff] at he
  obtain ⟨cs, hc, hr⟩ := he
  refine ⟨H0, L, F, env, cs, r, hc, fun vs H1 F1 x1 v1 => ?_⟩
  have g := v1.rl x1.fh
  obtain ⟨⟨m, d⟩, ⟨m', d'⟩, ⟨m2, d2⟩, rfl⟩ := evL_3 hc
  cases d <;> cases d' <;> cases d2 <;> simp only [range3, reduceCtorEq] at hr
  rename_i i j c
  split at hr
  · rename_i hb
    cases hr
    obtain ⟨v, w, rfl, g, g'⟩ := g
    obtain ⟨v', v2, rfl, g', g2⟩ := RL.two g'
    cases rd_int.mp g
    cases rd_int.mp g'
    cases rd_int.mp g2
    exact ⟨i, j, c, _, rfl, rgC_up hb, q _ H1 F1 x1 wk_rngC⟩
  · cases hr
end
end My
end

section
set_option Elab.async false
set_option linter.all false
set_option maxRecDepth 100000
/-! Sound4: comprehensions. -/
namespace My
open PySem PySem.Spec L2 PyProof.Rows
section
variable {W : Wo} {F H F1 H1 : Hp}
/-- an object of ours, made since, is changed -/
theorem Ext.mut (x : Ext F H F1 H1) {p : Addr} (hp : H p = none) (fp : F1 p = none) (o : HO) : Ext F H F1 (upd H1 p o) :=
  ⟨x.ff, fun b u e => by rw [upd_ne (ne_of_none e hp)]; exact x.hh b u e, fun b u e => by rw [upd_ne (ne_of_none e fp)]; exact x.fh b u e, x.nw⟩
end
theorem wipe_at (τ : L2.St) {j : Nat} : ∀ {us : List Nat}, j ∈ us → (wipe τ us)[j]? = if j < τ.length then some none else none
  | [], h => by cases h
  | u :: us, h => by
    show ((wipe τ us).set u none)[j]? = _
    by_cases hu : u = j
    · subst hu
      rw [List.getElem?_set]
      simp only [if_true, wipe_length]
    · rw [List.getElem?_set_ne hu]
      rcases List.mem_cons.mp h with e | e
      · exact absurd e.symm hu
      · exact wipe_at τ e
theorem wipe_wipe (τ : L2.St) (us : List Nat) : wipe (wipe τ us) us = wipe τ us := by
  refine List.ext_getElem? fun j => ?_
  by_cases h : j ∈ us
  · rw [wipe_at _ h, wipe_at _ h, wipe_length]
  · rw [wipe_keep h]
/-- the tests of a comprehension -/
def tF (W : Wo) (cf : CF) (gl : Nat → Option D) (e : E) : TT := fun σ H Q => ∃ H0 L F env b, R W H0 L F H env σ ∧ evT cf gl e env = some b ∧ ∀ H' F', Ext F H F' H' → Q b H'
section
variable {X : Cx} {cf : CF} {gl : Nat → Option D}
theorem _root_.L2.PTs.imp {x : List Expr} {t t' : TT} (h : PTs X x t) (f : ∀ σ H Q, t' σ H Q → t σ H Q) : PTs X x t' := ⟨fun pins s σ H Q I q => h.run pins s σ H Q I (f σ H Q q)⟩
theorem s_fnil : PTs X [] (tF (wo X) cf gl .nil) := pts_nil.imp fun σ H Q ⟨H0, L, F, env, b, r, he, q⟩ => by
  unfold evT at he
  cases he
  exact q H F (Ext.refl r.fh)
theorem r_fone {e r : E} {σ : L2.St} {H : Hp} {Q : Bool → Hp → Prop} (h : tF (wo X) cf gl (.cons e r) σ H Q) : TTx X cf gl e σ H Q := by
  obtain ⟨H0, L, F, env, b, r, he, q⟩ := h
  unfold evT asB at he
  split at he
  · rename_i m b' hh
    cases he
    exact ⟨H0, L, F, env, _, _, r, hh, q⟩
  · cases he
theorem compL_cons {f : D → Option (Option D)} {x : D} {xs rs : List D} (h : compL f (x :: xs) = some rs) : ∃ o r, f x = some o ∧ compL f xs = some r ∧ rs = consO o r := by
  simp only [compL, Option.bind_eq_some_iff, Option.map_eq_some_iff] at h
  obtain ⟨o, h1, r, h2, rfl⟩ := h
  exact ⟨o, r, h1, h2, rfl⟩
theorem r_comp {own : List Nat} {t : Tg} {it ifs elt : E} (hown : ∀ i ∈ t.ix, i ∈ own) {σ : L2.St} {H : Hp} {Q : VK} (h : TEx X cf gl (.comp own t it ifs elt) σ H Q) :
    tLc (tI (wo X) cf gl false it) (tG (wo X) t) (tF (wo X) cf gl ifs) (TEx X cf gl elt) own σ H Q := by
  obtain ⟨H0, L, F, env, c, r, he, q⟩ := h
  unfold ev at he
  simp only [Option.bind_eq_some_iff] at he
  obtain ⟨ds, hds, res, hres, he⟩ := he
  split at he
  · rename_i hz
    cases he
    generalize hf : (fun x => (setT t x (wipeE env own)).bind fun e1 => (evT cf gl ifs e1).bind fun b => if b = true then ((ev cf gl elt e1).bind vl).map some else some none) = f at hres
    refine ⟨H0, L, F, env, ds, r, hds, (fun z => nomatch z), fun J H1 F1 x1 wk D hD => ?_⟩
    simp only [Bool.false_eq_true, if_false] at wk
    have hHD : H D = none := x1.hh.free hD
    refine ⟨fun i m H2 => m = ds.length - i ∧ i ≤ ds.length ∧ ∃ F2 dn acc rs, Ext F1 H1 F2 H2 ∧ F2 D = none ∧ H2 D = some (.lst acc) ∧ RpL (wo X) F2 dn acc ∧ compL f (ds.drop i) = some rs ∧ dn ++ rs = res, ⟨ds.length, by simp, Nat.zero_le _, F1, [], [], res, Ext.fresh x1.fh hD _, x1.fh.free hD, upd_same, RpL.nil, by rw [List.drop_zero]; exact hres, rfl⟩, ?_⟩
    rintro i m H2 ⟨rfl, hi, F2, dn, acc, rs, x2, hFD, hD2, rp, hrest, hfin⟩
    have w := wk i F2 H2 x2.ff x2.fh x2.hh
    by_cases hlt : i < ds.length
    · refine .inr ?_
      have hd : ds[i]? = some ds[i] := List.getElem?_eq_getElem hlt
      obtain ⟨go, yl⟩ := w.1 _ hd
      refine ⟨go, fun H' => i + 1 ≤ ds.length ∧ ∃ F2 dn acc rs, Ext F1 H1 F2 H' ∧ F2 D = none ∧ H' D = some (.lst acc) ∧ RpL (wo X) F2 dn acc ∧ compL f (ds.drop (i + 1)) = some rs ∧ dn ++ rs = res, fun H' n => ⟨ds.length - (i + 1), by omega, rfl, n⟩, fun x H3 y => ?_⟩
      obtain ⟨F3, x3, rpx⟩ := yl x H3 y
      rw [List.drop_eq_getElem_cons hlt] at hrest
      obtain ⟨o, r', h1, h2, h3⟩ := compL_cons hrest
      rw [← hf] at h1
      simp only [Option.bind_eq_some_iff] at h1
      obtain ⟨e1, hs, b, hb, ho⟩ := h1
      have x13 := x2.trans x3
      have rr := (r.ext (x1.trans x13)).wipe own
      refine ⟨H0, L, F3, wipeE env own, _, e1, rr, rpx, hs, fun σ2 r2 w2 => ⟨(w2 own hown).trans (wipe_wipe σ own), H0, L, F3, e1, b, r2, hb, fun H4 F4 x4 => ?_⟩⟩
      have hD4 := x4.hh _ _ (x3.hh _ _ hD2)
      have hF3 := x3.keeps_none hD2 hFD
      have hF4 := x4.keeps_none (x3.hh _ _ hD2) hF3
      cases b with
      | false =>
        simp only [Bool.false_eq_true, if_false, Option.some.injEq] at ho ⊢
        subst ho
        exact ⟨hlt, F4, dn, acc, r', x13.trans x4, hF4, hD4, rp.mono (x3.ff.trans x4.ff), h2, by rw [← hfin, h3]; rfl⟩
      | true =>
        simp only [if_true, Option.map_eq_some_iff, Option.bind_eq_some_iff] at ho ⊢
        obtain ⟨dy, ⟨cy, hcy, hvl⟩, rfl⟩ := ho
        refine ⟨H0, L, F4, e1, cy, r2.ext x4, hcy, fun yv H5 F5 x5 v5 => ?_⟩
        obtain ⟨F6, x6, s6, p6⟩ := v5.keep x5 hvl
        have hD5 := x6.hh _ _ hD4
        have hF6 := x6.keeps_none hD4 hF4
        refine ⟨acc, hD5, ?_, hlt, F6, dn ++ [dy], acc ++ [yv], r', ?_, hF6, upd_same, (rp.mono ((x3.ff.trans x4.ff).trans x6.ff)).app (RpL.one p6), h2, ?_⟩
        · have l1 := rp.length
          have l2 : res.length = dn.length + rs.length := by rw [← hfin, List.length_append]
          have l3 : rs.length = r'.length + 1 := by rw [h3]; rfl
          have l4 := sl_eq
          omega
        · exact ((x13.trans x4).trans x6).mut hD hF6 _
        · rw [← hfin, h3, List.append_assoc]
          rfl
    · have e : i = ds.length := by omega
      refine .inl ⟨w.2 e, ?_⟩
      rw [e, List.drop_length] at hrest
      cases hrest
      rw [List.append_nil] at hfin
      subst hfin
      exact q _ H2 F2 (x1.trans x2) ⟨D, _, rfl, hD2, ⟨acc, rfl, rp⟩, hFD, hHD⟩
  · cases he
end
end My
end

section
set_option Elab.async false
set_option linter.all false
set_option maxRecDepth 100000
/-! Walks: enumerate and zip over lists and tuples alike. -/
namespace My
open PySem PySem.Spec L2 PyProof.Rows
inductive SK where
  | L | T
def SK.it (k : SK) (h : Heap) (it a : Addr) (i : Nat) : Prop := match k with
  | .L => h.IsListIter it a i | .T => h.IsTupleIter it a i
def SK.sq (k : SK) (h : Heap) (a : Addr) (items : Array Value) : Prop := match k with
  | .L => h.IsList a items | .T => h.IsTuple a items
def SK.Sq (k : SK) (K : PySem.W.Frag) (H : Hp) (a : Addr) (xs : List V) : Prop := match k with
  | .L => SqL K H a xs | .T => SqT K H a xs
def SK.ob (k : SK) (a : Addr) : Obj := match k with
  | .L => { cls := .type "list_iterator", data := .fields #[.ref a, .int 0 0] }
  | .T => { cls := .type "tuple_iterator", data := .fields #[.ref a, .int 0 0] }
theorem SK.draws (k : SK) {prog : Program} {w : World} {A : Around} (hh : A.handled = none) (it a : Addr) (hne : a ≠ it) (items : Array Value) :
    Draws prog w A it [it, a] items.size (fun i v => items[i]? = some v) (fun i h => k.it h it a i ∧ k.sq h a items) := by
  cases k with
  | L => exact Draws.list hh it a hne items
  | T => exact Draws.tuple hh it a hne items
theorem SK.begins (k : SK) (a : Addr) (items : Array Value) : Begins (.ref a) (k.ob a) fun h => k.sq h a items := by
  cases k with
  | L => exact begins_list a items
  | T => exact begins_tuple a items
theorem SK.it_obj {k : SK} {h : Heap} {it a : Addr} {i : Nat} (x : k.it h it a i) : ∃ o, h.get? it = some o ∧ ∀ v, o.data ≠ .cell v := by
  cases k with
  | L => obtain ⟨o, e, _, d⟩ := x; exact ⟨o, e, fun v q => by rw [d] at q; cases q⟩
  | T => obtain ⟨o, e, _, d⟩ := x; exact ⟨o, e, fun v q => by rw [d] at q; cases q⟩
theorem SK.it_at {k : SK} {h h' : Heap} {it a : Addr} {i : Nat} (x : k.it h it a i) (f : ∀ o, h.get? it = some o → h'.get? it = some o) : k.it h' it a i := by
  cases k with
  | L => exact Heap.IsListIter.at x f
  | T => exact Heap.IsTupleIter.at x f
theorem SK.it_of {k : SK} {h : Heap} {it a : Addr} (e : h.get? it = some (k.ob a)) : k.it h it a 0 := by
  cases k with
  | L => exact ⟨_, e, rfl, rfl⟩
  | T => exact ⟨_, e, rfl, rfl⟩
section
variable {X : Cx} {pins : List (Addr × Obj)} {σ : L2.St} {H : Hp} {s : Shared}
theorem SK.read {k : SK} (I : Inv X pins σ H s) {a : Addr} {xs : List V} (h : k.Sq X.K H a xs) : ∃ its : List Value, Vals xs its ∧ k.sq s.heap a its.toArray ∧ xs.length ≤ sizeLine ∧ a < s.heap.objs.size := by
  cases k with
  | L =>
    obtain ⟨its, r, p, z⟩ := I.list h
    exact ⟨its, r, p.isList, z, p.lt⟩
  | T =>
    obtain ⟨its, r, p, z⟩ := I.tuple h
    exact ⟨its, r, p, z, p.lt⟩
theorem SK.inj {k : SK} (I : Inv X pins σ H s) {a : Addr} {xs ys : List V} (h : k.Sq X.K H a xs) (g : k.Sq X.K H a ys) : xs = ys := by
  cases k with
  | L => exact I.list_inj h g
  | T => exact I.tuple_inj h g
/-- what is walked is no iterator of ours -/
theorem SK.apart {k : SK} (I : Inv X pins σ H s) {a it : Addr} {xs : List V} (h : k.Sq X.K H a xs) {o : Obj} {n : String} (e : s.heap.get? it = some o) (hc : o.cls = .type n) (hn : n ≠ "list" ∧ n ≠ "tuple") : a ≠ it := by
  intro z
  subst z
  cases k with
  | L =>
    obtain ⟨its, r, ⟨o', _, e1, e2, _⟩, _⟩ := I.list h
    rw [e] at e1
    cases e1
    rw [hc] at e2
    cases e2
    exact hn.1 rfl
  | T =>
    obtain ⟨its, r, ⟨o', e1, e2, _⟩, _⟩ := I.tuple h
    rw [e] at e1
    cases e1
    rw [hc] at e2
    cases e2
    exact hn.2 rfl
theorem SK.it_cls {k : SK} {h : Heap} {it a : Addr} {i : Nat} (x : k.it h it a i) : ∃ o n, h.get? it = some o ∧ o.cls = .type n ∧ n ≠ "list" ∧ n ≠ "tuple" := by
  cases k with
  | L => obtain ⟨o, e, c, _⟩ := x; exact ⟨o, _, e, c, by decide, by decide⟩
  | T => obtain ⟨o, e, c, _⟩ := x; exact ⟨o, _, e, c, by decide, by decide⟩
end

/-! ### enumerate -/
def ItE (K : PySem.W.Frag) (k : SK) (a : Addr) : It :=
  ⟨fun i H => ∃ xs x, k.Sq K H a xs ∧ xs[i]? = some x, fun i H v H' => ∃ T x, v = .ref T ∧ H T = none ∧ H' = upd H T (.tup [.int (i : Nat), x]) ∧ ∀ xs, k.Sq K H a xs → xs[i]? = some x, fun i H => ∃ xs, k.Sq K H a xs ∧ xs.length = i⟩
theorem turnE {P : Program} {w : World} {K : PySem.W.Frag} {elts : List Expr} {kk : Nat} {tpos : Pos} (k : SK) (a e it : Addr) :
    Turn P w K (.Tuple elts kk tpos) (ItE K k a) [e, it] e (fun i h => (∃ old, IsEnum h e it ((i : Nat) : Int) old) ∧ k.it h it a i ∧ e ≠ it) where
  mem := by simp
  obj := fun i h st b hb => by
    obtain ⟨⟨old, he⟩, hit, _⟩ := st
    rcases (show b = e ∨ b = it by simpa using hb) with z | z
    · subst z; exact ⟨_, he, fun v q => nomatch q⟩
    · subst z; exact SK.it_obj (k := k) hit
  keep := fun i h h' st f => ⟨st.1.imp fun old he => f e (by simp) _ he, SK.it_at (k := k) st.2.1 fun o q => f it (by simp) o q, st.2.2⟩
  item := by
    intro X hP hw hK hc i pins s σ H E I hf st hg
    subst hP hw hK
    obtain ⟨⟨old, he⟩, hit, hne⟩ := st
    obtain ⟨xs, x, hq, hx⟩ := hg
    obtain ⟨its, rv, p, hz, _⟩ := k.read I hq
    obtain ⟨u, hu, ru⟩ := rv.get hx
    have hel : e < s.heap.objs.size := Heap.lt_size he
    obtain ⟨oi, ni, gi, ci, li⟩ := SK.it_cls (k := k) hit
    have nai := k.apart I hq gi ci li
    have nae := k.apart I hq he (n := "enumerate") rfl (by decide)
    refine wpAny_pyNext_enum_itemD (k.draws (A := X.A.in1) (I.ok.hd hc) it a nai its.toArray) he ⟨hit, p⟩ (by have := (List.getElem?_eq_some_iff.mp hu).1; simpa using this) hne (by simp; exact ⟨hne, Ne.symm nae⟩) fun y h' tk hy ho hit' hT hsz hk => ?_
    have ey : y = u := by
      have : its[i]? = some y := by simpa using hy
      rw [hu] at this
      exact (Option.some.inj this).symm
    subst ey
    refine ⟨_, rfl, wpAny_letOwnedTupleGo_enum (s := { s with heap := h', toks := tk + 1 }) ho fun h'' he' sb => ?_⟩
    have hT2 := (sb.2 _ (Nat.ne_of_gt hel)).trans hT
    have new : ObjOk X.prog X.w (upd H s.heap.objs.size (.tup [.int (i : Nat), x])) h'' s.heap.objs.size (.tup [.int (i : Nat), x]) :=
      ⟨by show 2 ≤ sizeLine; decide, [.int i tk, y], .cons ⟨_, rfl⟩ (.cons ru .nil), ⟨_, hT2, rfl, _, rfl⟩⟩
    have I1 := I.turnedNew (t' := tk + 1) (ch := [e, it]) (fun b ob hb q => (sb.2 b (fun z => hb (by simp [z]))).trans (hk b ob (fun z => hb (by simp [z])) (fun z => hb (by simp [z])) q)) hf (Nat.le_refl _) new
    refine ⟨.ref s.heap.objs.size, _, I1, rfl, ⟨_, x, rfl, I.hok.fresh (Nat.le_refl _), rfl, fun ys hy => by rw [k.inj I hy hq]; exact hx⟩, ⟨⟨y, ?_⟩, SK.it_at (k := k) hit'.1 fun o q => (sb.2 it (Ne.symm hne)).trans q, hne⟩, fun b hb => ?_⟩
    · have e1 : ((i + 1 : Nat) : Int) = (i : Int) + 1 := by omega
      rw [e1]
      exact he'
    · have hlt : b < s.heap.objs.size := by
        rcases (show b = e ∨ b = it by simpa using hb) with z | z
        · subst z; exact hel
        · subst z; exact Heap.lt_size gi
      rw [upd_ne (Nat.ne_of_lt hlt)]
      exact (hf b hb).1
  done := by
    intro X hP hw hK hc i pins s σ H E I hf st hg
    subst hP hw hK
    obtain ⟨⟨old, he⟩, hit, hne⟩ := st
    obtain ⟨xs, hq, rfl⟩ := hg
    obtain ⟨its, rv, p, hz, _⟩ := k.read I hq
    obtain ⟨oi, ni, gi, ci, li⟩ := SK.it_cls (k := k) hit
    have nai := k.apart I hq gi ci li
    have el : xs.length = its.toArray.size := by rw [rv.length, List.size_toArray]
    refine wpAny_pyNext_enum_endD (k.draws (A := X.A.in1) (I.ok.hd hc) it a nai its.toArray) he ⟨by rw [← el]; exact hit, p⟩ fun h' eb => ⟨rfl, I.turnedL (t' := s.toks) (ch := [e, it]) (fun b o hb q => eb b o (fun z => hb (by simp [z])) q) hf⟩
  self := fun A i s Q E st h => let ⟨⟨_, he⟩, _⟩ := st; wpAny_pyIter_enum he h
theorem meets_enum_new1 {v : Value} {o : Obj} {H : Heap → Prop} (B : Begins v o H) :
    Meets (Builtin.«enumerate.__new__» ⟨[.type "enumerate", v], []⟩) (fun _ R s => H s.heap ∧
      R (.ok (.ret (.ref (s.heap.push o).objs.size))) { s with heap := (s.heap.push o).push { cls := .type "enumerate", data := .fields #[.none, .bool false, .ref s.heap.objs.size, rawInt 0, .none, .none] } }) :=
  .of_wp fun prog w A R s h => by
    obtain ⟨hp, g, d, tk, os⟩ := s
    obtain ⟨h1, h⟩ := h
    have hsub := PySem.sub_enumerate
    have q1 : ∀ {A' : Around} {E : Value → Shared → Prop} {Q : Value → Shared → Prop}, Q (.ref hp.objs.size) ⟨hp.push o, g, d, tk, os⟩ → wpAny (model prog w) A' (pyIter v) Q E ⟨hp, g, d, tk, os⟩ :=
      fun q => B.iter prog w _ _ ⟨hp, g, d, tk, os⟩ _ h1 q
    wp_walk using q1
    refine wpAny_stack_any fun st => wpAny_pure ?_
    split
    · rename_i c _ _ _ _ _
      cases (c == Value.type "enumerate") <;> (wp_walk using q1; exact ⟨_, rfl, h⟩)
    · wp_walk using q1
      exact ⟨_, rfl, h⟩
theorem enum_begins1 {prog : Program} {w : World} {A : Around} {E : Value → Shared → Prop} {s : Shared} {v : Value} {o : Obj} {H : Heap → Prop} {Q : Value → Shared → Prop} (B : Begins v o H) (h1 : H s.heap)
    (h : ∀ h', IsEnum h' (s.heap.objs.size + 1) s.heap.objs.size 0 .none → h'.get? s.heap.objs.size = some o → (∀ b o, s.heap.get? b = some o → h'.get? b = some o) → Q (.ref (s.heap.objs.size + 1)) { s with heap := h' }) :
    wpAny (model prog w) A (call (.type "enumerate") [v]) Q E s := by
  have hz : (s.heap.push o).objs.size = s.heap.objs.size + 1 := Heap.size_push ..
  refine callType_new F.called_enumerate (by decide) (F.typeCall_enumerate_1 _) (F.newCall_enumerate_1 _) (fun obj => F.args_object_init_2 obj _) F.entry_enumerate_new (meets_enum_new1 B) ⟨h1, ?_⟩
  show _ ∧ _
  have he := Heap.get?_push_size (s.heap.push o) (o := { cls := .type "enumerate", data := .fields #[.none, .bool false, .ref s.heap.objs.size, rawInt 0, .none, .none] }) rfl
  rw [hz] at he ⊢
  exact ⟨⟨_, he, rfl⟩, h _ he (Heap.get?_push_of_some _ (Heap.get?_push_size _ B.free)) fun b o x => Heap.get?_push_of_some _ (Heap.get?_push_of_some _ x)⟩
def iE (K : PySem.W.Frag) (ta : TA) : TI := fun σ H R => ta σ H fun vs H1 => ∃ k a xs, vs = [.ref a] ∧ SK.Sq k K H1 a xs ∧ R (ItE K k a) H1
theorem pi_E {X : Cx} {e : Expr} {ta : TA} {p pos tpos : Pos} {elts : List Expr} {kk : Nat} (hg : Gl X "enumerate") (hm : X.mg "enumerate" = none) (ha : PA X [e] ta) (hs : starEach [e] X.env = (false, eval e X.env) :: starEach [] X.env) :
    PI X (.Tuple elts kk tpos) (.Call (.Name "enumerate" p) [e] [] pos) (iE X.K ta) := by
  refine ⟨fun pins s σ H R I h => ?_⟩
  refine Call_ (ld_blt I hg hm boot_enumerate (PyProof.Rows.callWith_type1 (thn (ha.run pos pins s σ H _ I h) fun us s1 ⟨vs, H1, I1, r1, q1⟩ => ?_) hs rfl))
  obtain ⟨k, a, xs, rfl, hq, q⟩ := q1
  cases r1 with
  | cons r rr =>
    cases rr
    cases r
    obtain ⟨its, rv, p', hz, hlt⟩ := k.read I1 hq
    refine enum_begins1 (k.begins a its.toArray) p' fun h' he hit hk => wpAny_pyIter_enum he ?_
    have I2 : Inv X pins σ H1 { s1 with heap := h' } := I1.kept (t' := s1.toks) hk
    refine ⟨s1.heap.objs.size + 1, [s1.heap.objs.size + 1, s1.heap.objs.size], _, _, H1, rfl, I2, turnE k a (s1.heap.objs.size + 1) s1.heap.objs.size, ⟨⟨.none, he⟩, SK.it_of hit, Nat.succ_ne_self _⟩, fun b hb => ?_, q⟩
    have hle : s1.heap.objs.size ≤ b := by
      rcases (show b = s1.heap.objs.size + 1 ∨ b = s1.heap.objs.size by simpa using hb) with z | z
      · rw [z]; exact Nat.le_add_right _ _
      · rw [z]; exact Nat.le_refl _
    exact I1.fpOk hle (I1.hok.fresh hle)

/-! ### zip -/
def ItZ (K : PySem.W.Frag) (k l : SK) (a b : Addr) : It :=
  ⟨fun i H => ∃ xs ys x y, k.Sq K H a xs ∧ l.Sq K H b ys ∧ xs[i]? = some x ∧ ys[i]? = some y,
    fun i H v H' => ∃ T x y, v = .ref T ∧ H T = none ∧ H' = upd H T (.tup [x, y]) ∧ (∀ xs, k.Sq K H a xs → xs[i]? = some x) ∧ ∀ ys, l.Sq K H b ys → ys[i]? = some y,
    fun i H => ∃ xs ys, k.Sq K H a xs ∧ l.Sq K H b ys ∧ i ≤ xs.length ∧ i ≤ ys.length ∧ (i = xs.length ∨ i = ys.length)⟩
/-- the cells of one zip -/
structure Cells (z TI TO i1 i2 : Addr) : Prop where
  a1 : TI ≠ z
  a2 : TO ≠ z
  a3 : TI ≠ TO
  a4 : TI ≠ i1
  a5 : TI ≠ i2
  a6 : TO ≠ i1
  a7 : TO ≠ i2
  a8 : z ≠ i1
  a9 : z ≠ i2
  a10 : i1 ≠ i2
theorem turnZ {P : Program} {w : World} {K : PySem.W.Frag} {elts : List Expr} {kk : Nat} {tpos : Pos} (k l : SK) {a b z TI TO i1 i2 : Addr} (C : Cells z TI TO i1 i2) :
    Turn P w K (.Tuple elts kk tpos) (ItZ K k l a b) [z, TI, TO, i1, i2] z (fun i h => IsZip h z TI TO .none ∧ IsTupOf2 h TI (.ref i1) (.ref i2) ∧ (∃ x y, IsTupOf2 h TO x y) ∧ k.it h i1 a i ∧ l.it h i2 b i ∧ a ≠ TO ∧ b ≠ TO) where
  mem := by simp
  obj := fun i h st c hc => by
    obtain ⟨hz, hTI, ⟨x, y, hTO⟩, h1, h2, _⟩ := st
    rcases (show c = z ∨ c = TI ∨ c = TO ∨ c = i1 ∨ c = i2 by simpa using hc) with q | q | q | q | q
    · subst q; exact ⟨_, hz, fun v q => nomatch q⟩
    · subst q; exact ⟨_, hTI, fun v q => nomatch q⟩
    · subst q; exact ⟨_, hTO, fun v q => nomatch q⟩
    · subst q; exact SK.it_obj (k := k) h1
    · subst q; exact SK.it_obj (k := l) h2
  keep := fun i h h' st f => by
    obtain ⟨hz, hTI, ⟨x, y, hTO⟩, h1, h2, n⟩ := st
    exact ⟨f z (by simp) _ hz, f TI (by simp) _ hTI, ⟨x, y, f TO (by simp) _ hTO⟩, SK.it_at (k := k) h1 fun o q => f i1 (by simp) o q, SK.it_at (k := l) h2 fun o q => f i2 (by simp) o q, n⟩
  item := by
    intro X hP hw hK hc i pins s σ H E I hf st hg
    subst hP hw hK
    obtain ⟨hz, hTI, ⟨x0, y0, hTO⟩, h1, h2, nTa, nTb⟩ := st
    obtain ⟨xs, ys, x, y, hqx, hqy, hx, hy⟩ := hg
    obtain ⟨its, rv, p, _⟩ := k.read I hqx
    obtain ⟨its2, rv2, p2, _⟩ := l.read I hqy
    obtain ⟨u, hu, ru⟩ := rv.get hx
    obtain ⟨u2, hu2, ru2⟩ := rv2.get hy
    have hzl : z < s.heap.objs.size := Heap.lt_size hz
    obtain ⟨o1, n1, g1, c1, l1⟩ := SK.it_cls (k := k) h1
    obtain ⟨o2, n2, g2, c2, l2⟩ := SK.it_cls (k := l) h2
    have S : ZipSep2 z TI TO i1 i2 [i1, a] [i2, b] := by
      have e1 := k.apart I hqx hz (n := "zip") rfl (by decide)
      have e2 := l.apart I hqy hz (n := "zip") rfl (by decide)
      have e3 := k.apart I hqx g2 c2 l2
      have e4 := l.apart I hqy g1 c1 l1
      exact ⟨C.a1, C.a2, C.a3, C.a4, by simp, by simp; exact ⟨C.a8, Ne.symm e1⟩, by simp; exact ⟨C.a6, Ne.symm nTa⟩, C.a5, by simp, by simp; exact ⟨C.a9, Ne.symm e2⟩, by simp; exact ⟨C.a7, Ne.symm nTb⟩, by simp; exact ⟨C.a10, Ne.symm e4⟩, by simp; exact ⟨Ne.symm C.a10, Ne.symm e3⟩⟩
    have hl1 : i < its.toArray.size := by simpa using (List.getElem?_eq_some_iff.mp hu).1
    have hl2 : i < its2.toArray.size := by simpa using (List.getElem?_eq_some_iff.mp hu2).1
    refine wpAny_pyNext_zipD2_item S (k.draws (A := X.A.in1) (I.ok.hd hc) i1 a (k.apart I hqx g1 c1 l1) its.toArray) (l.draws (A := X.A.in1) (I.ok.hd hc) i2 b (l.apart I hqy g2 c2 l2) its2.toArray) hz hTI hTO ⟨h1, p⟩ ⟨h2, p2⟩ hl1 hl2 fun v1 v2 h' tk hv1 hv2 z' TO' h1' h2' hT hsz hk => ?_
    have ev1 : v1 = u := by
      have : its[i]? = some v1 := by simpa using hv1
      rw [hu] at this
      exact (Option.some.inj this).symm
    have ev2 : v2 = u2 := by
      have : its2[i]? = some v2 := by simpa using hv2
      rw [hu2] at this
      exact (Option.some.inj this).symm
    subst ev1 ev2
    refine ⟨_, rfl, wpAny_letOwnedTupleGo_zip (s := { s with heap := h', toks := tk }) z' fun h'' z'' sb => ?_⟩
    have hT2 := (sb.2 _ (Nat.ne_of_gt hzl)).trans hT
    have new : ObjOk X.prog X.w (upd H s.heap.objs.size (.tup [x, y])) h'' s.heap.objs.size (.tup [x, y]) :=
      ⟨by show 2 ≤ sizeLine; decide, [v1, v2], .cons ru (.cons ru2 .nil), ⟨_, hT2, rfl, _, rfl⟩⟩
    have I1 := I.turnedNew (t' := tk) (ch := [z, TI, TO, i1, i2]) (fun c o hb q => (sb.2 c (fun q' => hb (by simp [q']))).trans (hk c o (fun q' => hb (by simp [q'])) (fun q' => hb (by simp [q'])) (fun q' => hb (by simp [q'])) (fun q' => hb (by simp [q'])) q)) hf (Nat.le_refl _) new
    refine ⟨.ref s.heap.objs.size, _, I1, rfl, ⟨_, x, y, rfl, I.hok.fresh (Nat.le_refl _), rfl, fun m hm => by rw [k.inj I hm hqx]; exact hx, fun m hm => by rw [l.inj I hm hqy]; exact hy⟩, ⟨z'', ?_, ⟨v1, v2, ?_⟩, ?_, ?_, nTa, nTb⟩, fun c hcm => ?_⟩
    · exact (sb.2 _ C.a1).trans (hk _ _ C.a1 C.a3 C.a4 C.a5 hTI)
    · exact (sb.2 _ C.a2).trans TO'
    · exact SK.it_at (k := k) h1'.1 fun o q => (sb.2 _ (Ne.symm C.a8)).trans q
    · exact SK.it_at (k := l) h2'.1 fun o q => (sb.2 _ (Ne.symm C.a9)).trans q
    · have hlt : c < s.heap.objs.size := by
        rcases (show c = z ∨ c = TI ∨ c = TO ∨ c = i1 ∨ c = i2 by simpa using hcm) with q | q | q | q | q
        · rw [q]; exact hzl
        · rw [q]; exact Heap.lt_size hTI
        · rw [q]; exact Heap.lt_size hTO
        · rw [q]; exact Heap.lt_size g1
        · rw [q]; exact Heap.lt_size g2
      rw [upd_ne (Nat.ne_of_lt hlt)]
      exact (hf c hcm).1
  done := by
    intro X hP hw hK hc i pins s σ H E I hf st hg
    subst hP hw hK
    obtain ⟨hz, hTI, ⟨x0, y0, hTO⟩, h1, h2, nTa, nTb⟩ := st
    obtain ⟨xs, ys, hqx, hqy, b1, b2, b3⟩ := hg
    obtain ⟨its, rv, p, _⟩ := k.read I hqx
    obtain ⟨its2, rv2, p2, _⟩ := l.read I hqy
    obtain ⟨o1, n1, g1, c1, l1⟩ := SK.it_cls (k := k) h1
    obtain ⟨o2, n2, g2, c2, l2⟩ := SK.it_cls (k := l) h2
    have S : ZipSep2 z TI TO i1 i2 [i1, a] [i2, b] := by
      have e1 := k.apart I hqx hz (n := "zip") rfl (by decide)
      have e2 := l.apart I hqy hz (n := "zip") rfl (by decide)
      have e3 := k.apart I hqx g2 c2 l2
      have e4 := l.apart I hqy g1 c1 l1
      exact ⟨C.a1, C.a2, C.a3, C.a4, by simp, by simp; exact ⟨C.a8, Ne.symm e1⟩, by simp; exact ⟨C.a6, Ne.symm nTa⟩, C.a5, by simp, by simp; exact ⟨C.a9, Ne.symm e2⟩, by simp; exact ⟨C.a7, Ne.symm nTb⟩, by simp; exact ⟨C.a10, Ne.symm e4⟩, by simp; exact ⟨Ne.symm C.a10, Ne.symm e3⟩⟩
    have q1 := rv.length
    have q2 := rv2.length
    refine wpAny_pyNext_zipD2_end S (k.draws (A := X.A.in1) (I.ok.hd hc) i1 a (k.apart I hqx g1 c1 l1) its.toArray) (l.draws (A := X.A.in1) (I.ok.hd hc) i2 b (l.apart I hqy g2 c2 l2) its2.toArray) hz hTI hTO ⟨h1, p⟩ ⟨h2, p2⟩ (by simp; omega) (by simp; omega) (by simp; omega) fun h' tk hk => ?_
    exact ⟨rfl, I.turnedL (t' := tk) (ch := [z, TI, TO, i1, i2]) (fun c o hb q => hk c o (fun q' => hb (by simp [q'])) (fun q' => hb (by simp [q'])) (fun q' => hb (by simp [q'])) (fun q' => hb (by simp [q'])) q) hf⟩
  self := fun A i s Q E st h => wpAny_pyIter_zip st.1 h
def iZ (K : PySem.W.Frag) (ta : TA) : TI := fun σ H R => ta σ H fun vs H1 => ∃ k l a b xs ys, vs = [.ref a, .ref b] ∧ SK.Sq k K H1 a xs ∧ SK.Sq l K H1 b ys ∧ R (ItZ K k l a b) H1
theorem pi_Z {X : Cx} {e e2 : Expr} {ta : TA} {p pos tpos : Pos} {elts : List Expr} {kk : Nat} (hg : Gl X "zip") (hm : X.mg "zip" = none) (ha : PA X [e, e2] ta)
    (hs : starEach [e, e2] X.env = (false, eval e X.env) :: starEach [e2] X.env) (hpl : (backTo pos (starEach [e2] X.env)).any (·.1) = false) :
    PI X (.Tuple elts kk tpos) (.Call (.Name "zip" p) [e, e2] [] pos) (iZ X.K ta) := by
  refine ⟨fun pins s σ H R I h => ?_⟩
  refine Call_ (ld_blt I hg hm PyProof.Rows.boot_zip (PyProof.Rows.callWith_type1 (thn (ha.run pos pins s σ H _ I h) fun us s1 ⟨vs, H1, I1, r1, q1⟩ => ?_) hs hpl))
  obtain ⟨k, l, a, b, xs, ys, rfl, hqx, hqy, q⟩ := q1
  cases r1 with
  | cons r rr =>
    cases rr with
    | cons r' rr =>
      cases rr
      cases r
      cases r'
      obtain ⟨its, rv, p1, _, ha1⟩ := k.read I1 hqx
      obtain ⟨its2, rv2, p2, _, hb1⟩ := l.read I1 hqy
      have ha1 : (a : Nat) < s1.heap.objs.size := ha1
      have hb1 : (b : Nat) < s1.heap.objs.size := hb1
      refine zip_begins2 (k.begins a its.toArray) (l.begins b its2.toArray) p1 p2 fun h' hz hTI hTO h1 h2 hsz hk => wpAny_pyIter_zip hz ?_
      have I2 : Inv X pins σ H1 { s1 with heap := h' } := I1.kept (t' := s1.toks) hk
      have C : Cells (s1.heap.objs.size + 4) (s1.heap.objs.size + 2) (s1.heap.objs.size + 3) s1.heap.objs.size (s1.heap.objs.size + 1) := by
        generalize s1.heap.objs.size = n
        constructor <;> (intro q; have q : (_ : Nat) = _ := q; omega)
      refine ⟨s1.heap.objs.size + 4, [s1.heap.objs.size + 4, s1.heap.objs.size + 2, s1.heap.objs.size + 3, s1.heap.objs.size, s1.heap.objs.size + 1], _, _, H1, rfl, I2, turnZ k l C, ⟨hz, hTI, ⟨_, _, hTO⟩, SK.it_of h1, SK.it_of h2, ?_, ?_⟩, fun c hcm => ?_, q⟩
      · exact Nat.ne_of_lt (Nat.lt_of_lt_of_le ha1 (Nat.le_add_right _ _))
      · exact Nat.ne_of_lt (Nat.lt_of_lt_of_le hb1 (Nat.le_add_right _ _))
      · have hle : s1.heap.objs.size ≤ c := by
          rcases (show c = s1.heap.objs.size + 4 ∨ c = s1.heap.objs.size + 2 ∨ c = s1.heap.objs.size + 3 ∨ c = s1.heap.objs.size ∨ c = s1.heap.objs.size + 1 by simpa using hcm) with z | z | z | z | z <;> (rw [z]; first | exact Nat.le_add_right _ _ | exact Nat.le_refl _)
        exact I1.fpOk hle (I1.hok.fresh hle)

/-! ### the readings -/
def SrcK (W : Wo) (F Pz : Hp) (k : SK) (l : List D) (p : Addr) (vs : List V) : Prop := RpL W F l vs ∧ ∀ H2, Same F H2 → Same Pz H2 → k.Sq W.K H2 p vs
theorem SrcD.seq {W : Wo} {F Pz : Hp} {d : D} {v : V} {l : List D} (h : SrcD W F Pz d v) (e : seqD d = some l) : ∃ k p vs, v = .ref p ∧ SrcK W F Pz k l p vs := by
  cases d <;> simp only [seqD, Option.some.injEq, reduceCtorEq] at e
  · subst e
    obtain ⟨p, vs, rfl, h1, h2⟩ := h
    exact ⟨.L, p, vs, rfl, h1, h2⟩
  · subst e
    obtain ⟨p, vs, rfl, h1, h2⟩ := h
    exact ⟨.T, p, vs, rfl, h1, fun H2 s _ => Same.sqT s h2⟩
theorem SrcK.ext {W : Wo} {F Pz F1 Pz1 : Hp} {k : SK} {l : List D} {p : Addr} {vs : List V} (h : SrcK W F Pz k l p vs) (s : Same F F1) (t : Same Pz Pz1) : SrcK W F1 Pz1 k l p vs :=
  ⟨h.1.mono s, fun H2 a b => h.2 H2 (s.trans a) (t.trans b)⟩
theorem SK.Sq.inj2 {K : PySem.W.Frag} {k : SK} {H : Hp} {a : Addr} {xs ys : List V} (h : k.Sq K H a xs) (g : k.Sq K H a ys) (hn : K.lookup a = none) : xs = ys := by
  cases k with
  | L =>
    rcases h with (h | ⟨o, h⟩) | ⟨o, _, _, h, _⟩
    · rcases g with (g | ⟨o, g⟩) | ⟨o, _, _, g, _⟩
      · rw [h] at g; cases g; rfl
      · rw [h] at g; cases g
      · rw [hn] at g; cases g
    · rcases g with (g | ⟨o, g⟩) | ⟨o, _, _, g, _⟩
      · rw [h] at g; cases g
      · rw [h] at g; cases g; rfl
      · rw [hn] at g; cases g
    · rw [hn] at h; cases h
  | T =>
    rcases h with (h | ⟨o, h⟩) | ⟨o, _, _, h, _⟩
    · rcases g with (g | ⟨o, g⟩) | ⟨o, _, _, g, _⟩
      · rw [h] at g; cases g; rfl
      · rw [h] at g; cases g
      · rw [hn] at g; cases g
    · rcases g with (g | ⟨o, g⟩) | ⟨o, _, _, g, _⟩
      · rw [h] at g; cases g
      · rw [h] at g; cases g; rfl
      · rw [hn] at g; cases g
    · rw [hn] at h; cases h
section
variable {W : Wo} {F Pz : Hp}
theorem wkE {k : SK} {l : List D} {p : Addr} {vs : List V} (h : SrcK W F Pz k l p vs) : Wk W F Pz (ItE W.K k p) (enmD 0 l) := by
  intro i F2 H2 s1 s2 s3
  have g := h.2 H2 (s1.trans s2) s3
  refine ⟨fun d hd => ?_, fun e => ⟨vs, g, by rw [e, enmD_length, h.1.length]⟩⟩
  obtain ⟨z, e6, rfl⟩ := enmD_get hd
  obtain ⟨v, e7, e8⟩ := h.1.get e6
  refine ⟨⟨vs, v, g, e7⟩, fun x H3 y => ?_⟩
  obtain ⟨T, b, rfl, hT, e3, e5⟩ := y
  have e5 := e5 vs g
  rw [e5] at e7
  cases e7
  rw [Nat.zero_add]
  exact pair_new s2 hT e3 (rp_int.mpr rfl) (Rp.mono s1 _ e8)
theorem wkZ {k m : SK} {l r : List D} {p q : Addr} {vs us : List V} (h : SrcK W F Pz k l p vs) (g : SrcK W F Pz m r q us) : Wk W F Pz (ItZ W.K k m p q) (zipD l r) := by
  intro i F2 H2 s1 s2 s3
  have g1 := h.2 H2 (s1.trans s2) s3
  have g2 := g.2 H2 (s1.trans s2) s3
  have l1 := h.1.length
  have l2 := g.1.length
  refine ⟨fun d hd => ?_, fun e => ⟨vs, us, g1, g2, ?_, ?_, ?_⟩⟩
  · obtain ⟨z, z', e6, e7, rfl⟩ := zipD_get hd
    obtain ⟨v, e8, e9⟩ := h.1.get e6
    obtain ⟨v', e10, e11⟩ := g.1.get e7
    refine ⟨⟨vs, us, v, v', g1, g2, e8, e10⟩, fun x H3 y => ?_⟩
    obtain ⟨T, a, b, rfl, hT, e3, e4, e5⟩ := y
    have e4 := e4 vs g1
    have e5 := e5 us g2
    rw [e4] at e8
    rw [e5] at e10
    cases e8
    cases e10
    exact pair_new s2 hT e3 (Rp.mono s1 _ e9) (Rp.mono s1 _ e11)
  all_goals (rw [zipD_length] at e; omega)
end
section
variable {X : Cx} {cf : CF} {gl : Nat → Option D} {lk : Bool}
theorem r_enm {e : E} {σ : L2.St} {H : Hp} {Q : It → Hp → Prop} (h : tI (wo X) cf gl lk (.enm e) σ H Q) : iE X.K (tCons (TZx X cf gl e) tNil) σ H Q := by
  obtain ⟨H0, L, F, env, ds, r, he, hs, q⟩ := h
  unfold evI at he
  simp only [Option.bind_eq_some_iff, Option.map_eq_some_iff] at he
  obtain ⟨c, hc, l, hl, rfl⟩ := he
  refine r_src (lk := lk) r hc hs fun v H1 F1 x1 s1 => ?_
  obtain ⟨k, p, vs, rfl, s⟩ := s1.seq hl
  exact ⟨k, p, vs, rfl, s.2 H1 x1.fh (by cases lk with | true => exact r.h0.trans x1.hh | false => exact Same.refl _), q _ H1 F1 x1 (wkE s)⟩
theorem r_zip {e e2 : E} {σ : L2.St} {H : Hp} {Q : It → Hp → Prop} (h : tI (wo X) cf gl lk (.zip e e2) σ H Q) : iZ X.K (tCons (TZx X cf gl e) (tCons (TZx X cf gl e2) tNil)) σ H Q := by
  obtain ⟨H0, L, F, env, ds, r, he, hs, q⟩ := h
  unfold evI at he
  simp only [Option.bind_eq_some_iff, Option.map_eq_some_iff] at he
  obtain ⟨c, hc, c2, hc2, l, hl, l2, hl2, rfl⟩ := he
  have hs1 : lk = true → safeS e env = true := fun z => by have := hs z; simp [safeI] at this; exact this.1
  have hs2 : lk = true → safeS e2 env = true := fun z => by have := hs z; simp [safeI] at this; exact this.2
  refine r_src (lk := lk) r hc hs1 fun v H1 F1 x1 s1 => ?_
  refine r_src (lk := lk) (r.ext x1) hc2 hs2 fun v2 H2 F2 x2 s2 => ?_
  obtain ⟨k, p, vs, rfl, s⟩ := s1.seq hl
  obtain ⟨k2, p2, vs2, rfl, t⟩ := s2.seq hl2
  have t1 : Same (if lk = true then H0 else H1) (if lk = true then H0 else H2) := by cases lk with | true => exact Same.refl _ | false => exact x2.hh
  have t2 : Same (if lk = true then H0 else H2) H2 := by cases lk with | true => exact (r.h0.trans x1.hh).trans x2.hh | false => exact Same.refl _
  have s' := s.ext x2.ff t1
  exact ⟨k, k2, p, p2, vs, vs2, rfl, s'.2 H2 x2.fh t2, t.2 H2 x2.fh t2, q _ H2 F2 (x1.trans x2) (wkZ s' t)⟩
end
end My
end

section
set_option Elab.async false
set_option linter.all false
set_option maxRecDepth 100000
/-! Check: a text and its E, S say the same; soundness of expressions. -/
namespace My
open PySem PySem.Spec L2 PyProof.Rows

/-- the names of a def and of the program's top -/
structure Sg where
  N : List Str
  fn : Nat → Option Str
  gl : Nat → Option Str
  bi : List Str
def okX : Expr → Bool
  | .Name _ _ => true | .Constant _ _ _ => true | .BinOp _ _ _ _ => true | .UnaryOp _ _ _ => true | .Compare _ _ _ _ => true | .BoolOp _ _ _ => true
  | .IfExp _ _ _ _ => true | .List _ _ => true | .Tuple _ _ _ => true | .Subscript _ _ _ => true | .Call _ _ _ _ => true | .ListComp _ _ _ _ => true | _ => false
/-- a test of its own kind -/
def ntX : Expr → Bool
  | .Name _ _ => true | .Constant _ _ _ => true | .BinOp _ _ _ _ => true | .UnaryOp .USub _ _ => true
  | .List _ _ => true | .Tuple _ _ _ => true | .Subscript _ _ _ => true | .Call _ _ _ _ => true | .ListComp _ _ _ _ => true | _ => false
theorem ok_star {x : Expr} (h : okX x = true) (xs : List Expr) (env : PySem.Env) : starEach (x :: xs) env = (false, eval x env) :: starEach xs env := by cases x <;> first | rfl | cases h
theorem ok_plain {x : Expr} (h : okX x = true) : PlainIx x := by intro o i; cases x <;> first | rfl | cases h
theorem ok_mark {x : Expr} (h : okX x = true) (op : CmpOp) : behindInMarks op x = false := by cases x <;> first | rfl | cases h
theorem ok_fold {x : Expr} (h : okX x = true) (env : PySem.Env) : ∀ v, foldedSetIterable x env v = pure v := by intro v; cases x <;> first | rfl | cases h
theorem nt_true {x : Expr} (h : ntX x = true) (env : PySem.Env) : ∀ whole, isTrue x env whole = (do let v ← whole; standAt x.pos; holding [v] (truthy v)) := by
  intro whole
  cases x with
  | UnaryOp op a pos => cases op <;> first | rfl | cases h
  | _ => first | rfl | cases h
theorem star_none : ∀ {xs : List Expr}, (xs.all okX) = true → ∀ (pos : Pos) (env : PySem.Env), (backTo pos (starEach xs env)).any (·.1) = false
  | [], _, _, _ => rfl
  | x :: xs, h, pos, env => by
    rw [List.all_cons, Bool.and_eq_true] at h
    rw [ok_star h.1]
    have ih := star_none h.2 pos env
    unfold backTo at ih ⊢
    rw [List.map_cons, List.any_cons]
    exact ih

def vis (sc : Scope) (x : Str) : Bool := match sc.names.lookup x with | some .local => true | some .cell => true | some .free => true | _ => false
def glo (sc : Scope) (x : Str) : Bool := match sc.names.lookup x with | some .globalImplicit => true | _ => false
def locl (sc : Scope) (x : Str) : Bool := match sc.names.lookup x with | some .local => true | _ => false
def stor (sc : Scope) (fk : Str → Bool) (x : Str) : Bool := match sc.names.lookup x with | some .local => true | some .cell => fk x | _ => false
theorem vis_ok {sc : Scope} {x : Str} (h : vis sc x = true) : Vis sc x := by
  unfold vis at h
  split at h
  · exact .inl (by assumption)
  · exact .inr (.inl (by assumption))
  · exact .inr (.inr (by assumption))
  · cases h
theorem stor_ok {sc : Scope} {fk : Str → Bool} {x : Str} (h : stor sc fk x = true) : Loc sc x ∧ (fk x = true ∨ sc.names.lookup x = some .local) := by
  unfold stor at h
  split at h
  · rename_i e; exact ⟨.inl e, .inr e⟩
  · rename_i e; exact ⟨.inr e, .inl h⟩
  · cases h
def plainName (x : Str) : Bool := !(x == ("__debug__" : Str)) && !(x == ("__classdict__" : Str)) && !(x == ("__name__" : Str))

def opB : Op2 → Operator → Bool
  | .add, .Add => true | .sub, .Sub => true | .mul, .Mult => true | .fdiv, .FloorDiv => true | .mod, .Mod => true | .pow, .Pow => true | _, _ => false
def opC : Op2 → CmpOp → Bool
  | .eq, .Eq => true | .ne, .NotEq => true | .lt, .Lt => true | .le, .LtE => true | .gt, .Gt => true | .ge, .GtE => true | .is, .Is => true | .isnot, .IsNot => true
  | .isin, .In => true | .notin, .NotIn => true | _, _ => false
def Bi.nm : Bi → Str
  | .len => "len" | .int => "int" | .str => "str" | .repr => "repr" | .tuple => "tuple" | .list => "list" | .sum => "sum" | .max => "max" | .min => "min"
  | .sorted => "sorted" | .all => "all" | .any => "any" | .abs => "abs"
def Ty.nms : Ty → List Str
  | .int => ["int"] | .bool => ["bool"] | .str => ["str"] | .tuple => ["tuple"] | .list => ["list"] | .seq => ["list", "tuple"]
section
variable (S : Sg)
/-- a built-in's name, read as such -/
def bin (sc : Scope) (x : Str) : Bool := glo sc x && plainName x && S.bi.contains x
mutual
def chT : Tg → Scope → (Str → Bool) → Expr → Bool
  | .nm i, sc, fk, .Name x _ => decide (S.N[i]? = some x) && stor sc fk x
  | .tup t, sc, fk, .Tuple es _ _ => decide (t.len? = some es.length) && chTs t sc fk es
  | _, _, _, _ => false
def chTs : Tg → Scope → (Str → Bool) → List Expr → Bool
  | .nil, _, _, [] => true
  | .cons t r, sc, fk, e :: es => chT t sc fk e && chTs r sc fk es
  | _, _, _, _ => false
end
def ownN (own : List Nat) : List (Str × Nat) := own.map fun i => (S.N.getD i "", i)
def fkB (scope : Scope) : Str → Bool := fun x => scope.names.lookup x == some .cell
def tyX (sc : Scope) : Str → Expr → Bool
  | n, .Name x _ => decide (x = n) && bin S sc x
  | _, _ => false
def tyM (sc : Scope) (t : Ty) (z : Expr) : Bool := match t.nms, z with
  | [n], .Name _ _ => tyX S sc n z
  | [n, m], .Tuple [u, v] _ _ => tyX S sc n u && tyX S sc m v
  | _, _ => false
def chOpt (f : Scope → (Str → Bool) → Expr → Bool) (lo : E) (sc : Scope) (fk : Str → Bool) : Option Expr → Bool
  | none => (match lo with | .nil => true | _ => false)
  | some x => f sc fk x && intE lo
mutual
def chE : E → Scope → (Str → Bool) → Expr → Bool
  | .var i, sc, fk, .Name x _ => decide (S.N[i]? = some x) && vis sc x && plainName x
  | .int k, _, _, .Constant (.int k') _ _ => decide (k = k')
  | .str x, _, _, .Constant (.str y) _ _ => decide (x = y)
  | .bl b, _, _, .Constant (.bool c) _ _ => b == c
  | .non, _, _, .Constant .none _ _ => true
  | .glb j, sc, _, .Name x _ => decide (S.gl j = some x) && glo sc x && plainName x
  | .bin o a b, sc, fk, .BinOp x op y _ => opB o op && chE a sc fk x && chE b sc fk y
  | .bin o a b, sc, fk, .Compare x [op] [y] _ => opC o op && chE a sc fk x && chE b sc fk y && okX y
  | .bin .idx a b, sc, fk, .Subscript x y _ => chE a sc fk x && chE b sc fk y && okX y
  | .neg a, sc, fk, .UnaryOp .USub x _ => chE a sc fk x
  | .chn o1 o2 a b c, sc, fk, .Compare x [p1, p2] [y, z] _ => opC o1 p1 && opC o2 p2 && chE a sc fk x && chE b sc fk y && chE c sc fk z && okX y && okX z
  | .and es, sc, fk, .BoolOp .And xs _ => chL es sc fk xs && !xs.isEmpty
  | .or es, sc, fk, .BoolOp .Or xs _ => chL es sc fk xs && !xs.isEmpty
  | .not a, sc, fk, .UnaryOp .Not x _ => chE a sc fk x
  | .ite c a b, sc, fk, .IfExp z x y _ => chE c sc fk z && chE a sc fk x && chE b sc fk y
  | .lst es, sc, fk, .List xs _ => chL es sc fk xs
  | .tup es, sc, fk, .Tuple xs _ _ => chL es sc fk xs
  | .slc a lo hi, sc, fk, .Subscript x (.Slice l h none _) _ => chE a sc fk x && chOpt (chE lo) lo sc fk l && chOpt (chE hi) hi sc fk h
  | .rvs a, sc, fk, .Subscript x (.Slice none none (some (.UnaryOp .USub (.Constant (.int 1) _ _) _)) _) _ => chE a sc fk x
  | .call f es, sc, fk, .Call (.Name x _) xs [] _ => decide (S.fn f = some x) && glo sc x && plainName x && chL es sc fk xs && xs.all okX && !xs.isEmpty
  | .bi b es, sc, fk, .Call (.Name x _) xs [] _ => decide (b.nm = x) && bin S sc x && chL es sc fk xs && xs.all okX && !xs.isEmpty
  | .isi t a, sc, fk, .Call (.Name x _) [y, z] [] _ => decide (x = "isinstance") && bin S sc x && chE a sc fk y && okX y && tyM S sc t z
  | .cv b a, sc, fk, .Call (.Name x _) [.Call (.Name y _) [z] [] _] [] _ => decide (b.nm = x) && (b == .tuple || b == .list) && bin S sc x && decide (y = "range") && bin S sc y && chE a sc fk z && okX z
  | .comp own t it ifs elt, sc, fk, .ListComp y [⟨tg, iter, xs, 0⟩] scope _ => blkC S.N sc scope (ownN S own) && chI it sc fk tg iter && okX iter && chT S t (relS scope sc) (fkB scope) tg && t.ix.all (own.contains ·) &&
      chF ifs (relS scope sc) (fkB scope) xs && chE elt (relS scope sc) (fkB scope) y
  | _, _, _, _ => false
def chL : E → Scope → (Str → Bool) → List Expr → Bool
  | .nil, _, _, [] => true
  | .cons e es, sc, fk, x :: xs => chE e sc fk x && okX x && chL es sc fk xs
  | _, _, _, _ => false
/-- at most one test -/
def chF : E → Scope → (Str → Bool) → List Expr → Bool
  | .nil, _, _, [] => true
  | .cons e .nil, sc, fk, [x] => chE e sc fk x
  | _, _, _, _ => false
def chI : E → Scope → (Str → Bool) → Expr → Expr → Bool
  | .it e, sc, fk, _, x => chE e sc fk x
  | .rng es, sc, fk, _, .Call (.Name x _) xs [] _ => decide (x = "range") && bin S sc x && chL es sc fk xs && (xs.length == 1 || xs.length == 2 || xs.length == 3)
  | .enm e, sc, fk, .Tuple _ _ _, .Call (.Name x _) [y] [] _ => decide (x = "enumerate") && bin S sc x && chE e sc fk y && okX y
  | .zip a b, sc, fk, .Tuple _ _ _, .Call (.Name x _) [y, z] [] _ => decide (x = "zip") && bin S sc x && chE a sc fk y && okX y && chE b sc fk z && okX z
  | .rev e, sc, fk, _, .Call (.Name x _) [y] [] _ => decide (x = "reversed") && bin S sc x && chE e sc fk y && okX y
  | _, _, _, _, _ => false
end
end
end My
end

section
set_option Elab.async false
set_option linter.all false
set_option maxRecDepth 100000
/-! Sound5: expressions do what ev says. -/
namespace My
open PySem PySem.Spec L2 PyProof.Rows
structure Good (S : Sg) (cf : CF) (gl : Nat → Option D) (sc : Scope) (fk : Str → Bool) (X : Cx) : Prop where
  hN : X.N = S.N
  nd : X.N.Nodup
  hsc : X.env.scope = sc
  hfn : X.fn = fk
  calm : X.calm = true
  room : Room 0 X.A
  bi : ∀ x ∈ S.bi, X.mg x = none
  fns : ∀ f x, S.fn f = some x → ∃ (a : Addr) (fd : FuncData) (ps : List Str) (k : Nat), X.mg x = some (.ref a) ∧ PySem.W.keepIn X.K (.ref a) = true ∧ Binds X.K fd ps [] ∧ Room k X.A ∧
    FnOk X.prog X.w X.K X.mg X.base CX0 k a fd ps (spC (wo X) (cf f))
  gls : ∀ j x, S.gl j = some x → ∃ d u v, gl j = some d ∧ X.mg x = some u ∧ RelV v u ∧ ∀ F, Rp (wo X) F d v
section
variable {S : Sg} {cf : CF} {gl : Nat → Option D} {sc : Scope} {fk : Str → Bool} {X : Cx}
theorem Good.blk (G : Good S cf gl sc fk X) (s : Shared) (H : Hp) (scope : Scope) (C : Addr) (cl : List (Str × Addr)) (fp : List Addr) :
    Good S cf gl (relS scope sc) (fkB scope) (X.blk s H scope (compEnvC scope cl C X.env) fp) := by
  refine ⟨G.hN, G.nd, ?_, rfl, G.calm, G.room, G.bi, G.fns, G.gls⟩
  show relabel scope X.env = relS scope sc
  rw [← G.hsc]
  rfl
theorem Good.hu1 (G : Good S cf gl sc fk X) : X.A.units + 1 < cLine := hu_of G.room
theorem Good.hu64 (G : Good S cf gl sc fk X) : X.A.units + 64 < cLine := G.room.units
theorem Good.hu65 (G : Good S cf gl sc fk X) : X.A.units + 65 < cLine := by have := G.room.un; omega
theorem Good.gl_ok (G : Good S cf gl sc fk X) {x : Str} (h : glo sc x = true) : Gl X x := by
  show X.env.scope.names.lookup x = _
  rw [G.hsc]
  unfold glo at h
  split at h
  · assumption
  · cases h
theorem pn_ok {x : Str} (h : plainName x = true) : (x == ("__debug__" : Str)) = false ∧ (x == ("__classdict__" : Str)) = false ∧ x ≠ "__name__" := by
  unfold plainName at h
  simp only [Bool.and_eq_true, Bool.not_eq_true'] at h
  exact ⟨h.1.1, h.1.2, fun e => by have := h.2; rw [beq_eq_false_iff_ne] at this; exact this e⟩
theorem Good.bin (G : Good S cf gl sc fk X) {x : Str} (h : bin S sc x = true) : Gl X x ∧ X.mg x = none ∧ x ≠ "__name__" ∧ (x == ("__debug__" : Str)) = false := by
  unfold My.bin at h
  simp only [Bool.and_eq_true] at h
  have p := pn_ok h.1.2
  exact ⟨G.gl_ok h.1.1, G.bi x (by simpa using h.2), p.2.2, p.1⟩
/-- the operators -/
theorem Good.opB (G : Good S cf gl sc fk X) {o : Op2} {op : Operator} (h : opB o op = true) : OpR X (binaryOp op) (rD (wo X) o) := by
  cases o <;> cases op <;> simp [My.opB] at h
  case add.Add => exact opd_add
  case sub.Sub => exact opd_sub
  case mul.Mult => exact opd_mul
  case fdiv.FloorDiv => exact opd_fdiv
  case mod.Mod => exact opd_mod
  case pow.Pow => exact opd_pow
theorem Good.opC (G : Good S cf gl sc fk X) {o : Op2} {op : CmpOp} (h : opC o op = true) : OpR X (compareOp op) (rD (wo X) o) := by
  cases o <;> cases op <;> simp [My.opC] at h
  case eq.Eq => exact opd_eq G.hu64
  case ne.NotEq => exact opd_ne G.hu64
  case lt.Lt => exact opd_lt
  case le.LtE => exact opd_le
  case gt.Gt => exact opd_gt
  case ge.GtE => exact opd_ge
  case is.Is => exact opd_is
  case isnot.IsNot => exact opd_isnot
  case isin.In => exact opd_in G.hu65
  case notin.NotIn => exact opd_notin G.hu65
theorem s_name (G : Good S cf gl sc fk X) {i : Nat} {x : Str} {pos : Pos} (h : chE S (.var i) sc fk (.Name x pos) = true) : PE X (.Name x pos) (tVar i) := by
  unfold chE at h
  simp only [Bool.and_eq_true, decide_eq_true_eq] at h
  have p := pn_ok h.2
  exact pe_var (by rw [G.hN]; exact h.1.1) (by rw [G.hsc]; exact vis_ok h.1.2) p.1 p.2.1
theorem s_Z (G : Good S cf gl sc fk X) {e : E} {x : Expr} (h : chE S e sc fk x = true) (p : PE X x (TEx X cf gl e)) : PE X x (TZx X cf gl e) := by
  unfold TZx tZ
  cases e with
  | var i =>
    cases x <;> first | exact s_name G h | (unfold chE at h; cases h)
  | _ => exact p
theorem s_pt {e : E} {x : Expr} (h : PE X x (TEx X cf gl e)) (n : ntX x = true) : PT X x (TTx X cf gl e) :=
  (pt_val h (nt_true n X.env)).imp fun σ H Q q => tT_of_tE q
/-- built-ins by name -/
def Bi.isTy : Bi → Option String
  | .int => some "int" | .tuple => some "tuple" | .list => some "list" | .str => some "str" | _ => none
theorem s_bi (G : Good S cf gl sc fk X) {b : Bi} {es : E} {x : Str} {p pos : Pos} {y : Expr} {ys : List Expr} (hb : b.nm = x) (hx : bin S sc x = true) (ha : PA X (y :: ys) (tA (wo X) cf gl es)) (hok : (y :: ys).all okX = true) :
    PE X (.Call (.Name x p) (y :: ys) [] pos) (TEx X cf gl (.bi b es)) := by
  obtain ⟨g1, g2, g3, g4⟩ := G.bin hx
  rw [List.all_cons, Bool.and_eq_true] at hok
  have st := ok_star hok.1 ys X.env
  have pl := star_none hok.2 pos X.env
  subst hb
  cases b with
  | len => exact (pe_callB cb_len g1 g2 (by decide +kernel) ha g3 g4 st pl).imp fun σ H Q q => r_bi q
  | int => exact (pe_callTy cb_int g1 g2 (by decide +kernel) ha g3 g4 st pl).imp fun σ H Q q => r_bi q
  | tuple => exact (pe_callTy cb_tuple g1 g2 (by decide +kernel) ha g3 g4 st pl).imp fun σ H Q q => r_bi q
  | list => exact (pe_callTy cb_list g1 g2 (by decide +kernel) ha g3 g4 st pl).imp fun σ H Q q => r_bi q
  | sum => exact (pe_callB (cb_sum G.calm) g1 g2 (by decide +kernel) ha g3 g4 st pl).imp fun σ H Q q => r_bi q
  | max => exact (pe_callB (cb_max G.calm) g1 g2 (by decide +kernel) ha g3 g4 st pl).imp fun σ H Q q => r_bi q
  | min => exact (pe_callB (cb_min G.calm) g1 g2 (by decide +kernel) ha g3 g4 st pl).imp fun σ H Q q => r_bi q
  | all => exact (pe_callB (cb_all G.calm) g1 g2 (by decide +kernel) ha g3 g4 st pl).imp fun σ H Q q => r_bi q
  | any => exact (pe_callB (cb_any G.calm) g1 g2 (by decide +kernel) ha g3 g4 st pl).imp fun σ H Q q => r_bi q
  | abs => exact (pe_callB cb_abs g1 g2 (by decide +kernel) ha g3 g4 st pl).imp fun σ H Q q => r_bi q
  | _ =>
    refine ⟨fun pins s σ H Q I ⟨H0, L, F, env, c, r, he, q⟩ => ?_⟩
    exfalso
    unfold ev at he
    simp only [Option.bind_eq_some_iff, biF, reduceCtorEq, and_false, exists_const] at he
/-- types as values -/
theorem s_ty (G : Good S cf gl sc fk X) {n x : Str} {pos : Pos} (hx : tyX S sc n (.Name x pos) = true) {m : String} (hm : bootBuiltins n = some (.type m)) : PE X (.Name x pos) (tC (.ty m)) := by
  unfold tyX at hx
  simp only [Bool.and_eq_true, decide_eq_true_eq] at hx
  obtain ⟨rfl, hb⟩ := hx
  obtain ⟨g1, g2, g3, g4⟩ := G.bin hb
  exact pe_bltn g1 g2 hm rfl g3 g4
theorem ty_boot : bootBuiltins ("int" : Str) = some (.type "int") ∧ bootBuiltins ("bool" : Str) = some (.type "bool") ∧ bootBuiltins ("str" : Str) = some (.type "str") ∧ bootBuiltins ("tuple" : Str) = some (.type "tuple") ∧
    bootBuiltins ("list" : Str) = some (.type "list") ∧ bootBuiltins ("isinstance" : Str) = some (.builtin "isinstance") := by
  refine ⟨?_, ?_, ?_, ?_, ?_, ?_⟩ <;> decide +kernel
theorem nm_ok : ∀ {n : Str} {z : Expr}, tyX S sc n z = true → ∃ x pos, z = .Name x pos ∧ okX z = true
  | n, z, h => by
    cases z <;> first | exact ⟨_, _, rfl, rfl⟩ | cases h

/-! ### the whole -/
/-- what soundness says of an expression -/
def QE (S : Sg) (cf : CF) (gl : Nat → Option D) (e : E) : Prop := ∀ (X : Cx) sc fk x, Good S cf gl sc fk X → chE S e sc fk x = true → okX x = true → PE X x (TEx X cf gl e) ∧ PT X x (TTx X cf gl e)
def QL (S : Sg) (cf : CF) (gl : Nat → Option D) (e : E) : Prop := ∀ (X : Cx) sc fk xs, Good S cf gl sc fk X → chL S e sc fk xs = true → xs.all okX = true ∧ PA X xs (tA (wo X) cf gl e) ∧
  ∀ op pos, xs ≠ [] → PE X (.BoolOp op xs pos) (tBoV (wo X) cf gl op e) ∧ PW X (.BoolOp op xs pos) (tBo (wo X) cf gl op e)
def QF (S : Sg) (cf : CF) (gl : Nat → Option D) (e : E) : Prop := ∀ (X : Cx) sc fk xs, Good S cf gl sc fk X → chF S e sc fk xs = true → xs.all okX = true → PTs X xs (tF (wo X) cf gl e)
def QI (S : Sg) (cf : CF) (gl : Nat → Option D) (e : E) : Prop := ∀ (X : Cx) sc fk lk tg x, Good S cf gl sc fk X → chI S e sc fk tg x = true → okX x = true → PI X tg x (tI (wo X) cf gl lk e)
theorem noL {e : E} (h : ∀ sc fk xs, chL S e sc fk xs = false) : QL S cf gl e := fun X sc fk xs G q => by rw [h] at q; cases q
theorem noF {e : E} (h : ∀ sc fk xs, chF S e sc fk xs = false) : QF S cf gl e := fun X sc fk xs G q => by rw [h] at q; cases q
theorem noI {e : E} (h : ∀ sc fk tg x, chI S e sc fk tg x = false) : QI S cf gl e := fun X sc fk lk tg x G q => by rw [h] at q; cases q
theorem noE {e : E} (h : ∀ sc fk x, chE S e sc fk x = false) : QE S cf gl e := fun X sc fk x G q => by rw [h] at q; cases q
theorem s_cmp (G : Good S cf gl sc fk X) {o : Op2} {op : CmpOp} {a b : E} {x y : Expr} {pos : Pos} (ho : opC o op = true) (pa : PE X x (TEx X cf gl a)) (pb : PE X y (TEx X cf gl b)) (hy : okX y = true) :
    PE X (.Compare x [op] [y] pos) (TEx X cf gl (.bin o a b)) ∧ PT X (.Compare x [op] [y] pos) (TTx X cf gl (.bin o a b)) := by
  refine ⟨(pe_cmpR (G.opC ho) pa pb (ok_mark hy op)).imp fun σ H Q q => r_bin q, (pt_cmpR (G.opC ho) pa pb (ok_mark hy op)).imp fun σ H Q q => ?_⟩
  exact r_bin (tT_of_tE q)
theorem b_and {e es : E} {σ : L2.St} {H : Hp} {Q : Bool → Hp → Prop} (h : tBo (wo X) cf gl .And (.cons e es) σ H Q) : tAnd (TTx X cf gl e) (tBo (wo X) cf gl .And es) σ H Q := by
  obtain ⟨H0, L, F, env, b, r, he, q⟩ := h
  unfold evAnd at he
  simp only at he
  split at he
  · rename_i m hh
    exact ⟨H0, L, F, env, m, true, r, hh, fun H1 F1 x1 => iteT ⟨H0, L, F1, env, b, r.ext x1, he, fun H2 F2 x2 => q H2 F2 (x1.trans x2)⟩⟩
  · rename_i m hh
    cases he
    exact ⟨H0, L, F, env, m, false, r, hh, fun H1 F1 x1 => iteF (q H1 F1 x1)⟩
  · cases he
theorem b_or {e es : E} {σ : L2.St} {H : Hp} {Q : Bool → Hp → Prop} (h : tBo (wo X) cf gl .Or (.cons e es) σ H Q) : tOr (TTx X cf gl e) (tBo (wo X) cf gl .Or es) σ H Q := by
  obtain ⟨H0, L, F, env, b, r, he, q⟩ := h
  unfold evOr at he
  simp only at he
  split at he
  · rename_i m hh
    exact ⟨H0, L, F, env, m, false, r, hh, fun H1 F1 x1 => iteF ⟨H0, L, F1, env, b, r.ext x1, he, fun H2 F2 x2 => q H2 F2 (x1.trans x2)⟩⟩
  · rename_i m hh
    cases he
    exact ⟨H0, L, F, env, m, true, r, hh, fun H1 F1 x1 => iteT (q H1 F1 x1)⟩
  · cases he
/-- the last of a row -/
theorem b_one {op : BoolOp} {e es : E} {σ : L2.St} {H : Hp} {Q : Bool → Hp → Prop} (hn : ∀ env b, (match op with | .And => evAnd cf gl es env | .Or => evOr cf gl es env) = some b → b = (match op with | .And => true | .Or => false))
    (h : tBo (wo X) cf gl op (.cons e es) σ H Q) : TTx X cf gl e σ H Q := by
  cases op with
  | And =>
    obtain ⟨H0, L, F, env, m, b, r, he, q⟩ := b_and h
    refine ⟨H0, L, F, env, m, b, r, he, fun H1 F1 x1 => ?_⟩
    have q := q H1 F1 x1
    cases b with
    | true =>
      rw [if_pos rfl] at q
      obtain ⟨H0', L', F', env', b', r', he', q'⟩ := q
      have := hn env' b' he'
      simp only at this
      subst this
      exact q' H1 F' (Ext.refl r'.fh)
    | false => rwa [if_neg Bool.false_ne_true] at q
  | Or =>
    obtain ⟨H0, L, F, env, m, b, r, he, q⟩ := b_or h
    refine ⟨H0, L, F, env, m, b, r, he, fun H1 F1 x1 => ?_⟩
    have q := q H1 F1 x1
    cases b with
    | false =>
      rw [if_neg Bool.false_ne_true] at q
      obtain ⟨H0', L', F', env', b', r', he', q'⟩ := q
      have := hn env' b' he'
      simp only at this
      subst this
      exact q' H1 F' (Ext.refl r'.fh)
    | true => rwa [if_pos rfl] at q
/-- from the value of a row to the test of its first -/
theorem bV_first {e : E} {σ : L2.St} {H : Hp} {K : Bool → Hp → Prop} (h : TTx X cf gl e σ H K) : TEx X cf gl e σ H fun v H' => ∃ c, v = .bl c ∧ K c H' := tT_of_tE h
theorem s_bool {e es : E} (ihe : QE S cf gl e) (ihs : QL S cf gl es) : QL S cf gl (.cons e es) := by
  intro X sc fk xs G h
  cases xs with
  | nil => unfold chL at h; cases h
  | cons x xs =>
    unfold chL at h
    simp only [Bool.and_eq_true] at h
    obtain ⟨⟨h1, h2⟩, h3⟩ := h
    obtain ⟨pe, pt⟩ := ihe X sc fk x G h1 h2
    obtain ⟨o3, pa, pb⟩ := ihs X sc fk xs G h3
    refine ⟨by rw [List.all_cons, h2, o3]; rfl, (pa_cons pe pa (ok_star h2 xs X.env)).imp fun σ H Q q => r_cons q, fun op pos _ => ?_⟩
    cases xs with
    | nil =>
      -- the row's end
      have hn : ∀ (op : BoolOp) env b, (match op with | .And => evAnd cf gl es env | .Or => evOr cf gl es env) = some b → b = (match op with | .And => true | .Or => false) := by
        intro op env b hb
        cases es <;> first
          | (unfold chL at h3; cases h3; done)
          | (cases op <;> (simp only at hb; unfold evAnd at hb; cases hb; rfl))
          | (cases op <;> (simp only at hb; unfold evOr at hb; cases hb; rfl))
          | (cases op
             · simp only at hb; unfold evAnd at hb; cases hb; rfl
             · simp only at hb; unfold evOr at hb; cases hb; rfl)
      refine ⟨(pe_one pe).imp fun σ H Q q => ?_, ?_⟩
      · obtain ⟨H0, L, F, env, m, b, r, he, q⟩ := b_one (hn op) q
        exact ⟨H0, L, F, env, _, r, he, fun v H1 F1 x1 v1 => by rw [val_bl x1.fh v1]; exact q H1 F1 x1⟩
      · cases op with
        | And => exact (pw_and1 pt).imp fun σ H Q q => b_one (op := .And) (hn .And) q
        | Or => exact (pw_or1 pt).imp fun σ H Q q => b_one (op := .Or) (hn .Or) q
    | cons y ys =>
      have pb := pb op pos (by simp)
      cases op with
      | And =>
        refine ⟨(pe_and pe pb.1).imp fun σ H Q q => ?_, (pw_and pt pb.2).imp fun σ H Q q => b_and q⟩
        exact bV_first (b_and q)
      | Or =>
        refine ⟨(pe_or pe pb.1).imp fun σ H Q q => ?_, (pw_or pt pb.2).imp fun σ H Q q => b_or q⟩
        exact bV_first (b_or q)
end
end My
end

section
set_option Elab.async false
set_option linter.all false
set_option maxRecDepth 100000
set_option maxHeartbeats 4000000
/-! Sound6: the induction over expressions. -/
namespace My
open PySem PySem.Spec L2 PyProof.Rows
section
variable {S : Sg} {cf : CF} {gl : Nat → Option D} {sc : Scope} {fk : Str → Bool} {X : Cx}
/-- targets -/
theorem s_T (G : Good S cf gl sc fk X) : ∀ (t : Tg), (∀ x, chT S t sc fk x = true → PG X x (tG (wo X) t)) ∧ (∀ xs, chTs S t sc fk xs = true → PGs X xs (tGs (wo X) t) ∧ t.len? = some xs.length) := by
  intro t
  induction t with
  | nm i =>
    refine ⟨fun x h => ?_, fun xs h => by unfold chTs at h; cases h⟩
    cases x <;> unfold chT at h <;> first | (cases h; done) | skip
    simp only [Bool.and_eq_true, decide_eq_true_eq] at h
    obtain ⟨h1, h2⟩ := h
    obtain ⟨h3, h4⟩ := stor_ok h2
    exact (pg_name (i := i) G.nd (by rw [G.hN]; exact h1) (by rw [G.hsc]; exact h3) (by rw [G.hsc, G.hfn]; exact h4)).imp fun v σ H Q q => r_nm q
  | tup t ih =>
    refine ⟨fun x h => ?_, fun xs h => by unfold chTs at h; cases h⟩
    cases x <;> unfold chT at h <;> first | (cases h; done) | skip
    simp only [Bool.and_eq_true, decide_eq_true_eq] at h
    obtain ⟨h1, h2⟩ := h
    rename_i es k pos
    obtain ⟨pg, _⟩ := ih.2 es h2
    have e1 : ∀ (l : List Expr), chTs S t sc fk l = true → True := fun _ _ => trivial
    have ns : ∀ (t : Tg) (l : List Expr), chTs S t sc fk l = true → (assignEach l X.env).length = l.length ∧ (assignEach l X.env).findIdx? (·.1) = none := by
      intro t
      induction t with
      | nm i => intro l h; unfold chTs at h; cases h
      | tup t ih => intro l h; unfold chTs at h; cases h
      | nil =>
        intro l h
        cases l with
        | nil => exact ⟨rfl, rfl⟩
        | cons a b => unfold chTs at h; cases h
      | cons t r _ ihr =>
        intro l h
        cases l with
        | nil => unfold chTs at h; cases h
        | cons a b =>
          unfold chTs at h
          simp only [Bool.and_eq_true] at h
          obtain ⟨i1, i2⟩ := ihr b h.2
          have ha : ∃ f, assignEach (a :: b) X.env = (false, f) :: assignEach b X.env := by
            cases t <;> cases a <;> first
              | exact ⟨_, rfl⟩
              | (have := h.1; unfold chT at this; cases this)
          obtain ⟨f, ha⟩ := ha
          rw [ha]
          refine ⟨by rw [List.length_cons, i1]; rfl, ?_⟩
          rw [List.findIdx?_cons]
          simp only [Bool.false_eq_true, if_false, i2]
          rfl
    obtain ⟨n1, n2⟩ := ns t es h2
    exact ((pg_tup (n := es.length) G.calm pg n1 n2).or (pg_unl (n := es.length) G.calm pg n1 n2)).imp fun v σ H Q q => r_ttup h1 q
  | nil =>
    refine ⟨fun x h => (by unfold chT at h; cases h), fun xs h => ?_⟩
    cases xs with
    | nil => exact ⟨pgs_nil.imp fun v σ H Q q => r_tnil q, rfl⟩
    | cons a b => unfold chTs at h; cases h
  | cons t r iht ihr =>
    refine ⟨fun x h => (by unfold chT at h; cases h), fun xs h => ?_⟩
    cases xs with
    | nil => unfold chTs at h; cases h
    | cons a b =>
      unfold chTs at h
      simp only [Bool.and_eq_true] at h
      obtain ⟨p2, l2⟩ := ihr.2 b h.2
      refine ⟨(pgs_cons (iht.1 a h.1) p2 ?_).imp fun v σ H Q q => r_tcons q, by simp [Tg.len?, l2]⟩
      cases t <;> cases a <;> first
        | rfl
        | (have := h.1; unfold chT at this; cases this)

/-- ranges in tuple(..), list(..) -/
theorem r_cv1 {b : Bi} {a : E} {σ : L2.St} {H : Hp} {Q : VK} (h : TEx X cf gl (.cv b a) σ H Q) :
    (b = .tuple → tTupRg (tRg1 (TEx X cf gl a)) σ H Q) ∧ (b = .list → tLstRg (tRg1 (TEx X cf gl a)) σ H Q) := by
  obtain ⟨H0, L, F, env, c, r, he, q⟩ := h
  unfold ev at he
  simp only [Option.bind_eq_some_iff] at he
  obtain ⟨⟨m, d⟩, ha, ds, hr, he⟩ := he
  cases d <;> simp only [range3, reduceCtorEq] at hr
  rename_i j
  split at hr
  · rename_i hb
    cases hr
    split at he
    · rename_i hz
      have ez : rgV 0 j = (List.range j.toNat).map fun (i : Nat) => V.int (i : Nat) := by unfold rgV; simp
      have rp : ∀ F : Hp, RpL (wo X) F ((List.range j.toNat).map fun (i : Nat) => D.int (i : Nat)) (rgV 0 j) := fun F => by
        rw [ez]
        have := rpL_ints (W := wo X) (F := F) ((List.range j.toNat).map fun (i : Nat) => ((i : Nat) : Int))
        simpa [List.map_map, Function.comp_def] using this
      have rgok : RgOk 0 j := by
        have e : (2 : Int) ^ 62 = 4611686018427387904 := by decide
        have e2 : (2 : Nat) ^ 24 = 16777216 := by decide
        have hz2 : j.toNat ≤ 16777216 := by simpa using hz
        unfold RgOk
        rw [e, e2]
        omega
      refine ⟨fun hb' => ?_, fun hb' => ?_⟩
      · subst hb'
        cases he
        refine ⟨H0, L, F, env, _, r, ha, fun x H1 F1 x1 v1 => ?_⟩
        have g := v1.rd x1.fh
        cases rd_int.mp g
        refine ⟨j, rfl, rgok, fun p hp => ?_⟩
        have x2 := Ext.new x1.fh hp (.tup (rgV 0 j))
        refine q _ _ _ (x1.trans x2) ?_
        show Rp _ _ (.tup _) _
        rw [rp_tup]
        exact ⟨p, _, rfl, SqT.of upd_same, rp _⟩
      · subst hb'
        cases he
        refine ⟨H0, L, F, env, _, r, ha, fun x H1 F1 x1 v1 => ?_⟩
        have g := v1.rd x1.fh
        cases rd_int.mp g
        refine ⟨j, rfl, rgok, fun p hp => ?_⟩
        exact q _ _ _ (x1.trans (Ext.fresh x1.fh hp _)) ⟨p, _, rfl, upd_same, ⟨_, rfl, rp _⟩, x1.fh.free hp, x1.hh.free hp⟩
    · cases he
  · cases hr
theorem tyM_one {t : Ty} {z : Expr} {n : Str} (h : tyM S sc t z = true) (e : t.nms = [n]) : tyX S sc n z = true := by
  unfold tyM at h
  rw [e] at h
  cases z <;> first | exact h | cases h
theorem tyM_two {t : Ty} {z : Expr} {n m : Str} (h : tyM S sc t z = true) (e : t.nms = [n, m]) : ∃ u v k p, z = .Tuple [u, v] k p ∧ tyX S sc n u = true ∧ tyX S sc m v = true := by
  unfold tyM at h
  rw [e] at h
  split at h
  · rename_i e1; cases e1
  · rename_i e1
    cases e1
    rw [Bool.and_eq_true] at h
    exact ⟨_, _, _, _, rfl, h.1, h.2⟩
  · cases h
theorem chE_ok {e : E} {x : Expr} (h : chE S e sc fk x = true) : okX x = true := by
  unfold chE at h
  split at h <;> first | rfl | (cases h; done)
theorem chF_ok {e : E} {xs : List Expr} (h : chF S e sc fk xs = true) : xs.all okX = true := by
  unfold chF at h
  split at h
  · rfl
  · rw [List.all_cons, chE_ok h]; rfl
  · cases h
theorem chL_cons {e : E} {x : Expr} {xs : List Expr} (h : chL S e sc fk (x :: xs) = true) : ∃ a r, e = .cons a r ∧ chE S a sc fk x = true ∧ okX x = true ∧ chL S r sc fk xs = true := by
  cases e <;> first
    | (cases h; done)
    | (unfold chL at h; simp only [Bool.and_eq_true] at h; exact ⟨_, _, rfl, h.1.1, h.1.2, h.2⟩)
theorem chL_nil {e : E} (h : chL S e sc fk [] = true) : e = .nil := by
  cases e <;> first | rfl | cases h
/-- a part of a slice -/
theorem s_opt (G : Good S cf gl sc fk X) {e : E} (ih : QE S cf gl e) {o : Option Expr} (h : chOpt (chE S e) e sc fk o = true) : PO X o (tO (wo X) cf gl e) := by
  cases o with
  | none => cases e <;> first | exact s_pon | cases h
  | some x =>
    have h : (chE S e sc fk x && intE e) = true := h
    simp only [Bool.and_eq_true] at h
    exact s_po h.2 (ih X sc fk x G h.1 (chE_ok h.1)).1
theorem soundE (S : Sg) (cf : CF) (gl : Nat → Option D) : ∀ e : E, QE S cf gl e ∧ QL S cf gl e ∧ QF S cf gl e ∧ QI S cf gl e := by
  intro e
  induction e with
  | var i =>
    refine ⟨fun X sc fk x G h ok => ?_, noL fun _ _ _ => rfl, noF fun _ _ _ => rfl, noI fun _ _ _ _ => rfl⟩
    cases x with
    | Name x pos => have p := s_var (cf := cf) (gl := gl) (s_name G h); exact ⟨p, s_pt p rfl⟩
    | _ => cases h
  | int k =>
    refine ⟨fun X sc fk x G h ok => ?_, noL fun _ _ _ => rfl, noF fun _ _ _ => rfl, noI fun _ _ _ _ => rfl⟩
    cases x with
    | Constant v i pos =>
      cases v with
      | int k' =>
        have e : k = k' := of_decide_eq_true h
        subst e
        have p : PE X (.Constant (.int k) i pos) (TEx X cf gl (.int k)) := s_const pe_int (fun _ => by unfold ev; rfl) fun F => rp_int.mpr rfl
        exact ⟨p, s_pt p rfl⟩
      | _ => cases h
    | _ => cases h
  | str k =>
    refine ⟨fun X sc fk x G h ok => ?_, noL fun _ _ _ => rfl, noF fun _ _ _ => rfl, noI fun _ _ _ _ => rfl⟩
    cases x with
    | Constant v i pos =>
      cases v with
      | str k' =>
        have e : k = k' := of_decide_eq_true h
        subst e
        have p : PE X (.Constant (.str k) i pos) (TEx X cf gl (.str k)) := s_const pe_str (fun _ => by unfold ev; rfl) fun F => rp_str.mpr rfl
        exact ⟨p, s_pt p rfl⟩
      | _ => cases h
    | _ => cases h
  | bl k =>
    refine ⟨fun X sc fk x G h ok => ?_, noL fun _ _ _ => rfl, noF fun _ _ _ => rfl, noI fun _ _ _ _ => rfl⟩
    cases x with
    | Constant v i pos =>
      cases v with
      | bool k' =>
        have e : k = k' := eq_of_beq h
        subst e
        have p : PE X (.Constant (.bool k) i pos) (TEx X cf gl (.bl k)) := s_const pe_bl (fun _ => by unfold ev; rfl) fun F => rp_bl.mpr rfl
        exact ⟨p, s_pt p rfl⟩
      | _ => cases h
    | _ => cases h
  | non =>
    refine ⟨fun X sc fk x G h ok => ?_, noL fun _ _ _ => rfl, noF fun _ _ _ => rfl, noI fun _ _ _ _ => rfl⟩
    cases x with
    | Constant v i pos =>
      cases v with
      | none =>
        have p : PE X (.Constant .none i pos) (TEx X cf gl .non) := s_const pe_non (fun _ => by unfold ev; rfl) fun F => rp_non.mpr rfl
        exact ⟨p, s_pt p rfl⟩
      | _ => cases h
    | _ => cases h
  | glb j =>
    refine ⟨fun X sc fk x G h ok => ?_, noL fun _ _ _ => rfl, noF fun _ _ _ => rfl, noI fun _ _ _ _ => rfl⟩
    cases x with
    | Name x pos =>
      have h : (decide (S.gl j = some x) && glo sc x && plainName x) = true := h
      simp only [Bool.and_eq_true, decide_eq_true_eq] at h
      obtain ⟨d, u, v, e1, e2, e3, e4⟩ := G.gls j x h.1.1
      have p : PE X (.Name x pos) (TEx X cf gl (.glb j)) := s_const (pe_glob (G.gl_ok h.1.2) e2 e3 (pn_ok h.2).1) (fun _ => by unfold ev; rw [e1]; rfl) e4
      exact ⟨p, s_pt p rfl⟩
    | _ => cases h
  | bin o a b iha ihb =>
    refine ⟨fun X sc fk x G h ok => ?_, noL fun _ _ _ => rfl, noF fun _ _ _ => rfl, noI fun _ _ _ _ => rfl⟩
    cases x with
    | BinOp x op y pos =>
      have h : (My.opB o op && chE S a sc fk x && chE S b sc fk y) = true := h
      simp only [Bool.and_eq_true] at h
      have okx : okX x = true := chE_ok h.1.2
      have oky : okX y = true := chE_ok h.2
      have p : PE X (.BinOp x op y pos) (TEx X cf gl (.bin o a b)) := (pe_op (G.opB h.1.1) (iha.1 X sc fk x G h.1.2 okx).1 (ihb.1 X sc fk y G h.2 oky).1).imp fun σ H Q q => r_bin q
      exact ⟨p, s_pt p rfl⟩
    | Compare x ops ys pos =>
      cases ops with
      | nil => cases h
      | cons op ops =>
        cases ops with
        | cons _ _ => cases h
        | nil =>
          cases ys with
          | nil => cases h
          | cons y ys =>
            cases ys with
            | cons _ _ => cases h
            | nil =>
              have h : (My.opC o op && chE S a sc fk x && chE S b sc fk y && okX y) = true := h
              simp only [Bool.and_eq_true] at h
              exact s_cmp G h.1.1.1 (iha.1 X sc fk x G h.1.1.2 (chE_ok h.1.1.2)).1 (ihb.1 X sc fk y G h.1.2 h.2).1 h.2
    | Subscript x y pos =>
      cases o with
      | idx =>
        have h : (chE S a sc fk x && chE S b sc fk y && okX y) = true := h
        simp only [Bool.and_eq_true] at h
        have p : PE X (.Subscript x y pos) (TEx X cf gl (.bin .idx a b)) := (pe_ix ixd (iha.1 X sc fk x G h.1.1 (chE_ok h.1.1)).1 (ihb.1 X sc fk y G h.1.2 h.2).1 (ok_plain h.2)).imp fun σ H Q q => r_bin q
        exact ⟨p, s_pt p rfl⟩
      | _ => cases h
    | _ => cases h
  | neg a iha =>
    refine ⟨fun X sc fk x G h ok => ?_, noL fun _ _ _ => rfl, noF fun _ _ _ => rfl, noI fun _ _ _ _ => rfl⟩
    cases x with
    | UnaryOp op x pos =>
      cases op with
      | USub =>
        have p : PE X (.UnaryOp .USub x pos) (TEx X cf gl (.neg a)) := (pe_un un_neg (iha.1 X sc fk x G h (chE_ok h)).1).imp fun σ H Q q => r_neg q
        exact ⟨p, s_pt p rfl⟩
      | _ => cases h
    | _ => cases h
  | chn o1 o2 a b c iha ihb ihc =>
    refine ⟨fun X sc fk x G h ok => ?_, noL fun _ _ _ => rfl, noF fun _ _ _ => rfl, noI fun _ _ _ _ => rfl⟩
    cases x with
    | Compare x ops ys pos =>
      match ops, ys, h with
      | [p1, p2], [y, z], h =>
        have h : (My.opC o1 p1 && My.opC o2 p2 && chE S a sc fk x && chE S b sc fk y && chE S c sc fk z && okX y && okX z) = true := h
        simp only [Bool.and_eq_true] at h
        obtain ⟨⟨⟨⟨⟨⟨h1, h2⟩, h3⟩, h4⟩, h5⟩, h6⟩, h7⟩ := h
        have pa := (iha.1 X sc fk x G h3 (chE_ok h3)).1
        have pb := (ihb.1 X sc fk y G h4 h6).1
        have pc := (ihc.1 X sc fk z G h5 h7).1
        have lm : lastMarks [p1, p2] [y, z] = false := ok_mark h7 p2
        exact ⟨(pe_chain (G.opC h1) (G.opC h2) pa pb pc lm).imp fun σ H Q q => r_chn q, (pt_chain (G.opC h1) (G.opC h2) pa pb pc lm).imp fun σ H Q q => r_chn (tT_of_tE q)⟩
    | _ => cases h
  | and es ih =>
    refine ⟨fun X sc fk x G h ok => ?_, noL fun _ _ _ => rfl, noF fun _ _ _ => rfl, noI fun _ _ _ _ => rfl⟩
    cases x with
    | BoolOp op xs pos =>
      cases op with
      | And =>
        have h : (chL S es sc fk xs && !xs.isEmpty) = true := h
        simp only [Bool.and_eq_true, Bool.not_eq_true'] at h
        obtain ⟨_, _, pb⟩ := ih.2.1 X sc fk xs G h.1
        obtain ⟨p1, p2⟩ := pb .And pos (by intro e; subst e; cases h.2)
        refine ⟨p1.imp fun σ H Q ⟨H0, L, F, env, c, r, he, q⟩ => ?_, p2.pt.imp fun σ H Q ⟨H0, L, F, env, m, b, r, he, q⟩ => ?_⟩
        · unfold ev at he
          obtain ⟨b, hb, rfl⟩ := Option.map_eq_some_iff.mp he
          exact ⟨H0, L, F, env, b, r, hb, fun H1 F1 x1 => q _ H1 F1 x1 vbl⟩
        · unfold ev at he
          obtain ⟨b', hb, e⟩ := Option.map_eq_some_iff.mp he
          cases e
          exact ⟨H0, L, F, env, _, r, hb, q⟩
      | Or => cases h
    | _ => cases h
  | or es ih =>
    refine ⟨fun X sc fk x G h ok => ?_, noL fun _ _ _ => rfl, noF fun _ _ _ => rfl, noI fun _ _ _ _ => rfl⟩
    cases x with
    | BoolOp op xs pos =>
      cases op with
      | Or =>
        have h : (chL S es sc fk xs && !xs.isEmpty) = true := h
        simp only [Bool.and_eq_true, Bool.not_eq_true'] at h
        obtain ⟨_, _, pb⟩ := ih.2.1 X sc fk xs G h.1
        obtain ⟨p1, p2⟩ := pb .Or pos (by intro e; subst e; cases h.2)
        refine ⟨p1.imp fun σ H Q ⟨H0, L, F, env, c, r, he, q⟩ => ?_, p2.pt.imp fun σ H Q ⟨H0, L, F, env, m, b, r, he, q⟩ => ?_⟩
        · unfold ev at he
          obtain ⟨b, hb, rfl⟩ := Option.map_eq_some_iff.mp he
          exact ⟨H0, L, F, env, b, r, hb, fun H1 F1 x1 => q _ H1 F1 x1 vbl⟩
        · unfold ev at he
          obtain ⟨b', hb, e⟩ := Option.map_eq_some_iff.mp he
          cases e
          exact ⟨H0, L, F, env, _, r, hb, q⟩
      | And => cases h
    | _ => cases h
  | not a iha =>
    refine ⟨fun X sc fk x G h ok => ?_, noL fun _ _ _ => rfl, noF fun _ _ _ => rfl, noI fun _ _ _ _ => rfl⟩
    cases x with
    | UnaryOp op x pos =>
      cases op with
      | Not =>
        obtain ⟨p1, p2⟩ := iha.1 X sc fk x G h (chE_ok h)
        exact ⟨(pe_not p1).imp fun σ H Q q => r_not q, (pt_not p2).imp fun σ H Q q => rt_not q⟩
      | _ => cases h
    | _ => cases h
  | ite c a b ihc iha ihb =>
    refine ⟨fun X sc fk x G h ok => ?_, noL fun _ _ _ => rfl, noF fun _ _ _ => rfl, noI fun _ _ _ _ => rfl⟩
    cases x with
    | IfExp z x y pos =>
      have h : (chE S c sc fk z && chE S a sc fk x && chE S b sc fk y) = true := h
      simp only [Bool.and_eq_true] at h
      have pc := ihc.1 X sc fk z G h.1.1 (chE_ok h.1.1)
      have pa := iha.1 X sc fk x G h.1.2 (chE_ok h.1.2)
      have pb := ihb.1 X sc fk y G h.2 (chE_ok h.2)
      exact ⟨(pe_ifExp pc.2 pa.1 pb.1).imp fun σ H Q q => r_ite q, (pt_ifExp pc.2 pa.2 pb.2).imp fun σ H Q q => rt_ite q⟩
    | _ => cases h
  | lst es ih =>
    refine ⟨fun X sc fk x G h ok => ?_, noL fun _ _ _ => rfl, noF fun _ _ _ => rfl, noI fun _ _ _ _ => rfl⟩
    cases x with
    | List xs pos =>
      have p : PE X (.List xs pos) (TEx X cf gl (.lst es)) := (pe_lst (ih.2.1 X sc fk xs G h).2.1).imp fun σ H Q q => r_lst q
      exact ⟨p, s_pt p rfl⟩
    | _ => cases h
  | tup es ih =>
    refine ⟨fun X sc fk x G h ok => ?_, noL fun _ _ _ => rfl, noF fun _ _ _ => rfl, noI fun _ _ _ _ => rfl⟩
    cases x with
    | Tuple xs k pos =>
      have p : PE X (.Tuple xs k pos) (TEx X cf gl (.tup es)) := (pe_tup (ih.2.1 X sc fk xs G h).2.1).imp fun σ H Q q => r_tup q
      exact ⟨p, s_pt p rfl⟩
    | _ => cases h
  | nil =>
    refine ⟨noE fun _ _ _ => rfl, fun X sc fk xs G h => ?_, fun X sc fk xs G h ok => ?_, noI fun _ _ _ _ => rfl⟩
    · cases xs with
      | nil => exact ⟨rfl, s_nil, fun op pos z => absurd rfl z⟩
      | cons _ _ => cases h
    · cases xs with
      | nil => exact s_fnil
      | cons _ _ => cases h
  | cons e es ihe ihs =>
    refine ⟨noE fun _ _ _ => rfl, s_bool ihe.1 ihs.2.1, fun X sc fk xs G h ok => ?_, noI fun _ _ _ _ => rfl⟩
    match es, xs, h, ok with
    | .nil, [x], h, ok =>
      have ok : okX x = true := by simpa using ok
      exact (pts_one (ihe.1 X sc fk x G h ok).2).imp fun σ H Q q => r_fone q
  | slc a lo hi iha ihl ihh =>
    refine ⟨fun X sc fk x G h ok => ?_, noL fun _ _ _ => rfl, noF fun _ _ _ => rfl, noI fun _ _ _ _ => rfl⟩
    cases x with
    | Subscript x y pos =>
      cases y with
      | Slice l u st p2 =>
        cases st with
        | some _ => cases h
        | none =>
          have h : (chE S a sc fk x && chOpt (chE S lo) lo sc fk l && chOpt (chE S hi) hi sc fk u) = true := h
          simp only [Bool.and_eq_true] at h
          have pa := (iha.1 X sc fk x G h.1.1 (chE_ok h.1.1)).1
          have pl := s_opt (cf := cf) (gl := gl) G ihl.1 h.1.2
          have ph := s_opt (cf := cf) (gl := gl) G ihh.1 h.2
          have p : PE X (.Subscript x (.Slice l u none p2) pos) (TEx X cf gl (.slc a lo hi)) := (pe_slice sld pa pl ph).imp fun σ H Q q => r_slc q
          exact ⟨p, s_pt p rfl⟩
      | _ => cases h
    | _ => cases h
  | rvs a iha =>
    refine ⟨fun X sc fk x G h ok => ?_, noL fun _ _ _ => rfl, noF fun _ _ _ => rfl, noI fun _ _ _ _ => rfl⟩
    match x, h with
    | .Subscript x (.Slice none none (some (.UnaryOp .USub (.Constant (.int 1) _ _) _)) _) _, h =>
      rename_i k p1 p2 p3 p4
      have p : PE X (.Subscript x (.Slice none none (some (.UnaryOp .USub (.Constant (.int 1) k p1) p2)) p3) p4) (TEx X cf gl (.rvs a)) := (pe_revL (iha.1 X sc fk x G h (chE_ok h)).1).imp fun σ H Q q => r_rvs q
      exact ⟨p, s_pt p rfl⟩
  | call f es ih =>
    refine ⟨fun X sc fk x G h ok => ?_, noL fun _ _ _ => rfl, noF fun _ _ _ => rfl, noI fun _ _ _ _ => rfl⟩
    match x, h with
    | .Call (.Name x p) xs [] pos, h =>
      have h : (decide (S.fn f = some x) && glo sc x && plainName x && chL S es sc fk xs && xs.all okX && !xs.isEmpty) = true := h
      simp only [Bool.and_eq_true, decide_eq_true_eq, Bool.not_eq_true'] at h
      obtain ⟨⟨⟨⟨⟨h1, h2⟩, h3⟩, h4⟩, h5⟩, h6⟩ := h
      obtain ⟨ad, fd, ps, k, m1, m2, m3, m4, m5⟩ := G.fns f x h1
      have pa := (ih.2.1 X sc fk xs G h4).2.1
      cases xs with
      | nil => cases h6
      | cons y ys =>
        rw [List.all_cons, Bool.and_eq_true] at h5
        have p : PE X (.Call (.Name x p) (y :: ys) [] pos) (TEx X cf gl (.call f es)) := (pe_call m5 m4 (G.gl_ok h2) m1 m2 m3 .nil pass0 pa (pn_ok h3).1 (ok_star h5.1 ys X.env) (star_none h5.2 pos X.env)).imp fun σ H Q q => r_call q
        exact ⟨p, s_pt p rfl⟩
  | bi b es ih =>
    refine ⟨fun X sc fk x G h ok => ?_, noL fun _ _ _ => rfl, noF fun _ _ _ => rfl, noI fun _ _ _ _ => rfl⟩
    match x, h with
    | .Call (.Name x p) xs [] pos, h =>
      have h : (decide (b.nm = x) && bin S sc x && chL S es sc fk xs && xs.all okX && !xs.isEmpty) = true := h
      simp only [Bool.and_eq_true, decide_eq_true_eq, Bool.not_eq_true'] at h
      obtain ⟨⟨⟨⟨h1, h2⟩, h4⟩, h5⟩, h6⟩ := h
      have pa := (ih.2.1 X sc fk xs G h4).2.1
      cases xs with
      | nil => cases h6
      | cons y ys =>
        have p := s_bi (p := p) (pos := pos) G h1 h2 pa h5
        exact ⟨p, s_pt p rfl⟩
  | isi t a iha =>
    refine ⟨fun X sc fk x G h ok => ?_, noL fun _ _ _ => rfl, noF fun _ _ _ => rfl, noI fun _ _ _ _ => rfl⟩
    match x, h with
    | .Call (.Name x p) [y, z] [] pos, h =>
      have h : (decide (x = "isinstance") && bin S sc x && chE S a sc fk y && okX y && tyM S sc t z) = true := h
      simp only [Bool.and_eq_true, decide_eq_true_eq] at h
      obtain ⟨⟨⟨⟨h1, h2⟩, h3⟩, h4⟩, h5⟩ := h
      subst h1
      obtain ⟨g1, g2, g3, g4⟩ := G.bin h2
      obtain ⟨b1, b2, b3, b4, b5, b6⟩ := ty_boot
      have pa := (iha.1 X sc fk y G h3 h4).1
      have one : ∀ (n : Str) (m : String), t.nms = [n] → bootBuiltins n = some (.type m) → t.name = some m → PE X (.Call (.Name "isinstance" p) [y, z] [] pos) (TEx X cf gl (.isi t a)) := fun n m e1 e2 e3 => by
        have h6 := tyM_one h5 e1
        obtain ⟨xz, pz', rfl, _⟩ := nm_ok h6
        have pz := s_ty G h6 e2
        exact (pe_callB call_isD g1 g2 b6 (pa_cons pa (pa_cons pz pa_nil rfl) (ok_star h4 _ X.env)) g3 g4 (ok_star h4 _ X.env) rfl).imp fun σ H Q q => r_isi e3 q
      have p : PE X (.Call (.Name "isinstance" p) [y, z] [] pos) (TEx X cf gl (.isi t a)) := by
        cases t with
        | int => exact one _ _ rfl b1 rfl
        | bool => exact one _ _ rfl b2 rfl
        | str => exact one _ _ rfl b3 rfl
        | tuple => exact one _ _ rfl b4 rfl
        | list => exact one _ _ rfl b5 rfl
        | seq =>
          obtain ⟨u, v, k, tp, rfl, h6, h7⟩ := tyM_two h5 rfl
          obtain ⟨xu, pu, rfl, _⟩ := nm_ok h6
          obtain ⟨xv, pv', rfl, _⟩ := nm_ok h7
          have p1 := s_ty G h6 b5
          have p2 := s_ty G h7 b4
          exact (pe_callB call_isDT g1 g2 b6 (pa_cons pa (pa_cons (pe_tup (pa_cons p1 (pa_cons p2 pa_nil rfl) rfl)) pa_nil rfl) (ok_star h4 _ X.env)) g3 g4 (ok_star h4 _ X.env) rfl).imp fun σ H Q q => r_isiT q
      exact ⟨p, s_pt p rfl⟩
  | cv b a iha =>
    refine ⟨fun X sc fk x G h ok => ?_, noL fun _ _ _ => rfl, noF fun _ _ _ => rfl, noI fun _ _ _ _ => rfl⟩
    match x, h with
    | .Call (.Name x p) [.Call (.Name y p2) [z] [] pos2] [] pos, h =>
      have h : (decide (b.nm = x) && (b == .tuple || b == .list) && bin S sc x && decide (y = "range") && bin S sc y && chE S a sc fk z && okX z) = true := h
      simp only [Bool.and_eq_true, decide_eq_true_eq, Bool.or_eq_true, beq_iff_eq] at h
      obtain ⟨⟨⟨⟨⟨⟨h1, h2⟩, h3⟩, h4⟩, h5⟩, h6⟩, h7⟩ := h
      subst h1 h4
      obtain ⟨g1, g2, g3, g4⟩ := G.bin h3
      obtain ⟨k1, k2, k3, k4⟩ := G.bin h5
      have pa := (iha.1 X sc fk z G h6 h7).1
      have pr := prg_1 (p := p2) (pos := pos2) k1 k2 pa (ok_star h7 [] X.env)
      have p : PE X (.Call (.Name b.nm p) [.Call (.Name "range" p2) [z] [] pos2] [] pos) (TEx X cf gl (.cv b a)) := by
        rcases h2 with rfl | rfl
        · exact (pe_tupRg G.calm g1 g2 pr).imp fun σ H Q q => (r_cv1 q).1 rfl
        · exact (pe_listRg G.calm g1 g2 pr).imp fun σ H Q q => (r_cv1 q).2 rfl
      exact ⟨p, s_pt p rfl⟩
  | comp own t it ifs elt ihi ihf ihe =>
    refine ⟨fun X sc fk x G h ok => ?_, noL fun _ _ _ => rfl, noF fun _ _ _ => rfl, noI fun _ _ _ _ => rfl⟩
    match x, h with
    | .ListComp y [⟨tg, iter, xs, 0⟩] scope pos, h =>
      have h : (blkC S.N sc scope (ownN S own) && chI S it sc fk tg iter && okX iter && chT S t (relS scope sc) (fkB scope) tg && t.ix.all (own.contains ·) && chF S ifs (relS scope sc) (fkB scope) xs && chE S elt (relS scope sc) (fkB scope) y) = true := h
      simp only [Bool.and_eq_true] at h
      obtain ⟨⟨⟨⟨⟨⟨h1, h2⟩, h3⟩, h4⟩, h5⟩, h6⟩, h7⟩ := h
      have ho : (ownN S own).map (·.2) = own := by unfold ownN; rw [List.map_map]; exact (List.map_congr_left fun _ _ => rfl).trans (List.map_id own)
      have hix : ∀ i ∈ t.ix, i ∈ own := fun i hi => by
        rw [List.all_eq_true] at h5
        simpa using h5 i hi
      have okxs : xs.all okX = true := chF_ok h6
      have p : PE X (.ListComp y [⟨tg, iter, xs, 0⟩] scope pos) (tLc (tI (wo X) cf gl false it) (tG (wo X) t) (tF (wo X) cf gl ifs) (TEx X cf gl elt) ((ownN S own).map (·.2))) :=
        pe_lc (own := ownN S own) G.calm G.nd (ihi.2.2.2 X sc fk false tg iter G h2 h3) (blkOk_by (by rw [G.hN, G.hsc]; exact h1))
          (fun s H C cl fp => (s_T (G.blk s H scope C cl fp) t).1 tg h4)
          (fun s H C cl fp => ihf.2.2.1 _ _ _ xs (G.blk s H scope C cl fp) h6 okxs)
          (fun s H C cl fp => (ihe.1 _ _ _ y (G.blk s H scope C cl fp) h7 (chE_ok h7)).1) (ok_fold h3 X.env)
      rw [ho] at p
      have p : PE X (.ListComp y [⟨tg, iter, xs, 0⟩] scope pos) (TEx X cf gl (.comp own t it ifs elt)) := p.imp fun σ H Q q => r_comp hix q
      exact ⟨p, s_pt p rfl⟩
  | it e ih =>
    refine ⟨noE fun _ _ _ => rfl, noL fun _ _ _ => rfl, noF fun _ _ _ => rfl, fun X sc fk lk tg x G h ok => ?_⟩
    have h : chE S e sc fk x = true := h
    have p := s_Z G h (ih.1 X sc fk x G h ok).1
    exact ((pi_list p).or ((pi_tup p).or (pi_str p))).imp fun σ H Q q => r_it q
  | rng es ih =>
    refine ⟨noE fun _ _ _ => rfl, noL fun _ _ _ => rfl, noF fun _ _ _ => rfl, fun X sc fk lk tg x G h ok => ?_⟩
    match x, h with
    | .Call (.Name x p) xs [] pos, h =>
      have h : (decide (x = "range") && bin S sc x && chL S es sc fk xs && (xs.length == 1 || xs.length == 2 || xs.length == 3)) = true := h
      simp only [Bool.and_eq_true, decide_eq_true_eq, Bool.or_eq_true] at h
      obtain ⟨⟨⟨h1, h2⟩, h3⟩, h4⟩ := h
      subst h1
      obtain ⟨g1, g2, g3, g4⟩ := G.bin h2
      obtain ⟨oks, pa, _⟩ := ih.2.1 X sc fk xs G h3
      cases xs with
      | nil => simp at h4
      | cons a xs =>
        obtain ⟨e, es, rfl, _, o1, h3⟩ := chL_cons h3
        cases xs with
        | nil =>
          cases chL_nil h3
          exact (pi_range1 g1 g2 pa (ok_star o1 [] X.env)).imp fun σ H Q q => r_rng1 q
        | cons b xs =>
          obtain ⟨e2, es, rfl, _, o2, h3⟩ := chL_cons h3
          cases xs with
          | nil =>
            cases chL_nil h3
            exact (pi_range2 g1 g2 pa (by rw [ok_star o1, ok_star o2]; rfl) (ok_star o2 [] X.env)).imp fun σ H Q q => r_rng2 q
          | cons c xs =>
            obtain ⟨e3, es, rfl, _, o3, h3⟩ := chL_cons h3
            cases xs with
            | nil =>
              cases chL_nil h3
              exact (pi_range3 g1 g2 pa (ok_star o1 [b, c] X.env) (star_none (xs := [b, c]) (by simp [o2, o3]) pos X.env)).imp fun σ H Q q => r_rng3 q
            | cons d xs => simp at h4
  | enm e ih =>
    refine ⟨noE fun _ _ _ => rfl, noL fun _ _ _ => rfl, noF fun _ _ _ => rfl, fun X sc fk lk tg x G h ok => ?_⟩
    match tg, x, h with
    | .Tuple el kk tp, .Call (.Name x p) [y] [] pos, h =>
      have h : (decide (x = "enumerate") && bin S sc x && chE S e sc fk y && okX y) = true := h
      simp only [Bool.and_eq_true, decide_eq_true_eq] at h
      obtain ⟨⟨⟨h1, h2⟩, h3⟩, h4⟩ := h
      subst h1
      obtain ⟨g1, g2, g3, g4⟩ := G.bin h2
      have pz := s_Z G h3 (ih.1 X sc fk y G h3 h4).1
      exact (pi_E g1 g2 (pa_cons pz pa_nil (ok_star h4 [] X.env)) (ok_star h4 [] X.env)).imp fun σ H Q q => r_enm q
  | zip a b iha ihb =>
    refine ⟨noE fun _ _ _ => rfl, noL fun _ _ _ => rfl, noF fun _ _ _ => rfl, fun X sc fk lk tg x G h ok => ?_⟩
    match tg, x, h with
    | .Tuple el kk tp, .Call (.Name x p) [y, z] [] pos, h =>
      have h : (decide (x = "zip") && bin S sc x && chE S a sc fk y && okX y && chE S b sc fk z && okX z) = true := h
      simp only [Bool.and_eq_true, decide_eq_true_eq] at h
      obtain ⟨⟨⟨⟨⟨h1, h2⟩, h3⟩, h4⟩, h5⟩, h6⟩ := h
      subst h1
      obtain ⟨g1, g2, g3, g4⟩ := G.bin h2
      have pz := s_Z G h3 (iha.1 X sc fk y G h3 h4).1
      have pz2 := s_Z G h5 (ihb.1 X sc fk z G h5 h6).1
      exact (pi_Z g1 g2 (pa_cons pz (pa_cons pz2 pa_nil (ok_star h6 [] X.env)) (ok_star h4 [z] X.env)) (ok_star h4 [z] X.env) (star_none (xs := [z]) (by simp [h6]) pos X.env)).imp fun σ H Q q => r_zip q
  | rev e ih =>
    refine ⟨noE fun _ _ _ => rfl, noL fun _ _ _ => rfl, noF fun _ _ _ => rfl, fun X sc fk lk tg x G h ok => ?_⟩
    match x, h with
    | .Call (.Name x p) [y] [] pos, h =>
      have h : (decide (x = "reversed") && bin S sc x && chE S e sc fk y && okX y) = true := h
      simp only [Bool.and_eq_true, decide_eq_true_eq] at h
      obtain ⟨⟨⟨h1, h2⟩, h3⟩, h4⟩ := h
      subst h1
      obtain ⟨g1, g2, g3, g4⟩ := G.bin h2
      have pz := s_Z G h3 (ih.1 X sc fk y G h3 h4).1
      exact (RT.pi_revA g1 g2 pz (ok_star h4 [] X.env)).imp fun σ H Q q => r_rev q
end
end My
end

section
set_option Elab.async false
set_option linter.all false
set_option maxRecDepth 100000
/-! Stm: statements, what they do, and how a text and an S agree. -/
namespace My
open PySem PySem.Spec L2 PyProof.Rows

/-- methods that change a list -/
inductive Mt where
  | append | extend | pop | popAt | insert | reverse | clear
  deriving DecidableEq
inductive S where
  | nil | cons (s r : S)
  | frz (i : Nat) | lock (i : Nat) (s : S)
  | set (i : Nat) (e : E) | unp (t : Tg) (e : E) | par (i j : Nat) (a b : E)
  | setIx (i : Nat) (k e : E) | aug (i : Nat) (o : Op2) (e : E) | augIx (i : Nat) (k : E) (o : Op2) (e : E)
  | mth (i : Nat) (m : Mt) (es : E) | mthS (j i : Nat) (m : Mt) (es : E)
  | ite (c : E) (a b : S) | whl (c : E) (b : S) | forS (t : Tg) (it : E) (b e : S)
  | ret (e : E) | retN | brk | cnt | pass | doc | drop (e : E)
inductive Out where
  | nx (env : Sl) | ret (c : C) | brk (env : Sl) | cnt (env : Sl)
def ixSet (l : List D) (k : Int) (d : D) : Option (List D) := (ixN l.length k).map fun j => l.set j d
def mtF : Mt → List D → List C → Option (List D × D)
  | .append, l, [c] => (vl c).bind fun d => if l.length < SL then some (l ++ [d], .non) else none
  | .extend, l, [(.own, .lst m)] => if l.length + m.length ≤ SL then some (l ++ m, .non) else none
  | .pop, l, [] => (l[l.length - 1]?).map fun d => (l.dropLast, d)
  | .popAt, l, [(_, .int i)] => if -9223372036854775808 ≤ i ∧ i < 9223372036854775808 then (seqIndex? i l.length).bind fun k => (l[k]?).map fun d => (l.eraseIdx k, d) else none
  | .insert, l, [(_, .int i), c] => (vl c).bind fun d => if l.length < SL ∧ 0 ≤ i ∧ i < 9223372036854775808 then some (l.take i.toNat ++ [d] ++ l.drop i.toNat, .non) else none
  | .reverse, l, [] => some (l.reverse, .non)
  | .clear, _, [] => some ([], .non)
  | _, _, _ => none
def augF : Op2 → D → D → Option D
  | .add, .int i, .int j => some (.int (i + j))
  | .sub, .int i, .int j => some (.int (i - j))
  | _, _, _ => none
def stO (i : Nat) (c : C) (env : Sl) : Option Sl := if i < env.length then (match c.1 with | .val => some (env.set i (some c)) | .own => some (env.set i (some c)) | _ => none) else none
def unl (i : Nat) (env : Sl) : Option Sl := match env[i]? with
  | some (some (.lck, d)) => some (env.set i (some (.own, d)))
  | _ => none
def unlO (i : Nat) : Out → Option Out
  | .nx e => (unl i e).map .nx
  | .brk e => (unl i e).map .brk
  | .cnt e => (unl i e).map .cnt
  | .ret c => some (.ret c)
def ownL (i : Nat) (env : Sl) : Option (List D) := match env[i]? with
  | some (some (.own, .lst l)) => some l
  | _ => none
/-- what a return gives: a list of ours is handed on -/
def retE (e : E) (env : Sl) (c : C) : C := match e with
  | .var i => (match env[i]? with | some (some (.own, d)) => (.own, d) | _ => c)
  | _ => c
def loopW (c : Sl → Option Bool) (b : Sl → Option Out) : Nat → Sl → Option Out
  | 0, _ => none
  | n + 1, env => (c env).bind fun t => if t then (b env).bind fun o => match o with
      | .nx e => loopW c b n e
      | .cnt e => loopW c b n e
      | .brk e => some (.nx e)
      | .ret r => some (.ret r)
    else some (.nx env)
def loopF (g : D → Sl → Option Sl) (b : Sl → Option Out) : List D → Sl → Option Out
  | [], env => some (.nx env)
  | d :: ds, env => (g d env).bind fun e1 => (b e1).bind fun o => match o with
      | .nx e => loopF g b ds e
      | .cnt e => loopF g b ds e
      | .brk e => some (.brk e)
      | .ret r => some (.ret r)
section
variable (cf : CF) (gl : Nat → Option D) (fu : Nat)
def evS : S → Sl → Option Out
  | .nil, env => some (.nx env)
  | .cons s r, env => (evS s env).bind fun o => match o with
      | .nx e1 => evS r e1
      | o => some o
  | .frz i, env => match env[i]? with
      | some (some (.own, d)) => some (.nx (env.set i (some (.val, d))))
      | _ => some (.nx env)
  | .lock i s, env => match env[i]? with
      | some (some (.own, d)) => (evS s (env.set i (some (.lck, d)))).bind (unlO i)
      | _ => evS s env
  | .set i e, env => (ev cf gl e env).bind fun c => (stO i c env).map .nx
  | .unp t e, env => (ev cf gl e env).bind fun c => (vl c).bind fun d => (setT t d env).map .nx
  | .par i j a b, env => (ev cf gl a env).bind fun c => (ev cf gl b env).bind fun d => (vl c).bind fun x => (vl d).bind fun y =>
      if i < env.length ∧ j < env.length then some (.nx ((env.set i (some (.val, x))).set j (some (.val, y)))) else none
  | .setIx i k e, env => (ev cf gl e env).bind fun c => (vl c).bind fun d => (ev cf gl k env).bind fun n => match n.2 with
      | .int n => (ownL i env).bind fun l => (ixSet l n d).map fun l' => .nx (env.set i (some (.own, .lst l')))
      | _ => none
  | .aug i o e, env => (rdV env[i]?).bind fun x => (ev cf gl e env).bind fun y => (augF o x.2 y.2).bind fun d => if i < env.length then some (.nx (env.set i (some (.val, d)))) else none
  | .augIx i k o e, env => (ev cf gl k env).bind fun n => match n.2 with
      | .int n => (ownL i env).bind fun l => (atI l n).bind fun x => (ev cf gl e env).bind fun y => (augF o x y.2).bind fun d => (ixSet l n d).map fun l' => .nx (env.set i (some (.own, .lst l')))
      | _ => none
  | .mth i m es, env => (ownL i env).bind fun l => (evL cf gl es env).bind fun cs => (mtF m l cs).map fun r => .nx (env.set i (some (.own, .lst r.1)))
  | .mthS j i m es, env => (ownL i env).bind fun l => (evL cf gl es env).bind fun cs => (mtF m l cs).bind fun r => if j < env.length ∧ j ≠ i then some (.nx ((env.set i (some (.own, .lst r.1))).set j (some (.val, r.2)))) else none
  | .ite c a b, env => (asB (ev cf gl c env)).bind fun t => if t then evS a env else evS b env
  | .whl c b, env => loopW (fun env => asB (ev cf gl c env)) (evS b) fu env
  | .forS t it b e, env => (evI cf gl it env).bind fun ds => if safeI it env then (loopF (setT t) (evS b) ds env).bind fun o => match o with
      | .nx e1 => evS e e1
      | .brk e1 => some (.nx e1)
      | o => some o
    else none
  | .ret e, env => (ev cf gl e env).map fun c => .ret (retE e env c)
  | .retN, _ => some (.ret (.val, .non))
  | .brk, env => some (.brk env)
  | .cnt, env => some (.cnt env)
  | .pass, env => some (.nx env)
  | .doc, env => some (.nx env)
  | .drop e, env => (ev cf gl e env).map fun _ => .nx env
end
def Mt.nm : Mt → Str
  | .append => "append" | .extend => "extend" | .pop => "pop" | .popAt => "pop" | .insert => "insert" | .reverse => "reverse" | .clear => "clear"
def Mt.n : Mt → Nat
  | .append => 1 | .extend => 1 | .pop => 0 | .popAt => 1 | .insert => 2 | .reverse => 0 | .clear => 0
/-- does the model store y = [..] before the block's names go -/
def swB (sc : Scope) (t : Str) (pos : Pos) : Expr → Bool
  | .ListComp _ _ s p => locl sc t && pos.line == p.line && !(s.names.any fun (n, k) => n == t && (k == .local || k == .cell))
  | _ => false
def noBlk : Expr → Bool
  | .ListComp _ _ _ _ => false | _ => true
def isTupX : Expr → Bool
  | .Tuple _ _ _ => true | _ => false
section
variable (G : Sg)
/-- a name that stands for slot i, to be read -/
def chV (i : Nat) (sc : Scope) : Expr → Bool
  | .Name x _ => decide (G.N[i]? = some x) && vis sc x && plainName x
  | _ => false
/-- a name that stands for slot i, to be set -/
def chN (i : Nat) (sc : Scope) (fk : Str → Bool) : Expr → Bool
  | .Name x _ => decide (G.N[i]? = some x) && stor sc fk x
  | _ => false
/-- x.m(..) -/
def chM (i : Nat) (m : Mt) (es : E) (sc : Scope) (fk : Str → Bool) : Expr → Bool
  | .Call (.Attribute o a ap) xs [] cp => decide (a = m.nm) && chV G i sc o && chL G es sc fk xs && (xs.length == m.n) && (ap.endLine == cp.line)
  | _ => false
def isSet (f : Expr → Bool) (g : Expr → Bool) : Stmt → Bool
  | .Assign [t] y _ => f t && g y
  | _ => false
def isAug (f : Operator → Bool) (g h : Expr → Bool) : Stmt → Bool
  | .AugAssign t op y _ => f op && g t && h y
  | _ => false
def isExp (f : Expr → Bool) : Stmt → Bool
  | .Expr x _ => f x
  | _ => false
def isIf (f : Expr → Bool) (g h : List Stmt → Bool) : Stmt → Bool
  | .If x p q _ => f x && g p && h q
  | _ => false
def isWhl (f : Expr → Bool) (g : List Stmt → Bool) : Stmt → Bool
  | .While x p [] _ => f x && g p
  | _ => false
def isFor (f : Expr → Bool) (k : Expr → Expr → Bool) (g h : List Stmt → Bool) : Stmt → Bool
  | .For tg x p q _ => f tg && k tg x && okX x && g p && h q
  | _ => false
def isRet (f : Expr → Bool) : Stmt → Bool
  | .Return (some x) _ => f x
  | _ => false
def isRetN : Stmt → Bool
  | .Return none _ => true | _ => false
def isBrk : Stmt → Bool
  | .Break _ => true | _ => false
def isCnt : Stmt → Bool
  | .Continue _ => true | _ => false
def isPass : Stmt → Bool
  | .Pass _ => true | _ => false
def isStrX : Expr → Bool
  | .Constant (.str _) _ _ => true | _ => false
def isTupT (f : Expr → Bool) : Expr → Bool
  | .Tuple es k p => f (.Tuple es k p)
  | _ => false
def isSub (f g : Expr → Bool) : Expr → Bool
  | .Subscript o x _ => f o && g x && okX x
  | _ => false
def chOne (f : Stmt → Bool) (g : List Stmt → Bool) : List Stmt → Bool
  | x :: xs => f x && g xs
  | [] => false
def S.isFrz : S → Bool
  | .frz _ => true | _ => false
mutual
def chS : S → Scope → (Str → Bool) → Stmt → Bool
  | .set i e, sc, fk, x => isSet (chN G i sc fk) (chE G e sc fk) x
  | .unp t e, sc, fk, x => isSet (isTupT (chT G t sc fk)) (fun y => chE G e sc fk y && !isTupX y && noBlk y) x
  | .setIx i k e, sc, fk, x => isSet (isSub (chV G i sc) (chE G k sc fk)) (fun y => chE G e sc fk y && noBlk y) x
  | .aug i o e, sc, fk, x => isAug (opB o) (fun t => chV G i sc t && chN G i sc fk t) (chE G e sc fk) x
  | .augIx i k o e, sc, fk, x => isAug (opB o) (isSub (chV G i sc) (chE G k sc fk)) (chE G e sc fk) x
  | .mth i m es, sc, fk, x => isExp (chM G i m es sc fk) x
  | .mthS j i m es, sc, fk, x => isSet (chN G j sc fk) (chM G i m es sc fk) x
  | .ite c a b, sc, fk, x => isIf (chE G c sc fk) (chSs a sc fk) (chSs b sc fk) x
  | .whl c b, sc, fk, x => isWhl (chE G c sc fk) (chSs b sc fk) x
  | .forS t it b e, sc, fk, x => isFor (chT G t sc fk) (chI G it sc fk) (chSs b sc fk) (chSs e sc fk) x
  | .lock _ s, sc, fk, x => chS s sc fk x
  | .ret e, sc, fk, x => isRet (chE G e sc fk) x
  | .retN, _, _, x => isRetN x
  | .brk, _, _, x => isBrk x
  | .cnt, _, _, x => isCnt x
  | .pass, _, _, x => isPass x
  | .doc, _, _, x => isExp isStrX x
  | .drop e, sc, fk, x => isExp (fun y => chE G e sc fk y && noBlk y) x
  | _, _, _, _ => false
def chSs : S → Scope → (Str → Bool) → List Stmt → Bool
  | .nil, _, _, xs => xs.isEmpty
  | .cons s r, sc, fk, xs => if s.isFrz then chSs r sc fk xs else chOne (chS s sc fk) (chSs r sc fk) xs
  | _, _, _, _ => false
end
end
end My
end

section
set_option Elab.async false
set_option linter.all false
set_option maxRecDepth 100000
/-! Sound7: the slots change. -/
namespace My
open PySem PySem.Spec L2 PyProof.Rows
section
variable {W : Wo} {H0 : Hp} {L : Lk} {F H F1 H1 F2 Hs : Hp} {env : Sl} {σ : L2.St}
/-- what is for good grows -/
structure Stp (H0 F F' : Hp) : Prop where
  ff : Same F F'
  nw : ∀ a o, F' a = some o → F a = some o ∨ H0 a = none
theorem Stp.refl : Stp H0 F F := ⟨Same.refl _, fun _ _ e => .inl e⟩
theorem Stp.trans (a : Stp H0 F F1) (b : Stp H0 F1 F2) : Stp H0 F F2 := ⟨a.ff.trans b.ff, fun c o e => by
  rcases b.nw c o e with q | q
  · exact a.nw c o q
  · exact .inr q⟩
theorem Ext.stp (h0 : Same H0 H) (x : Ext F H F1 H1) : Stp H0 F F1 := ⟨x.ff, fun c o e => by
  rcases x.nw c o e with q | q
  · exact .inl q
  · exact .inr (h0.free q)⟩
theorem Stp.less {H0' : Hp} (s : Same H0' H0) (a : Stp H0 F F1) : Stp H0' F F1 := ⟨a.ff, fun c o e => by
  rcases a.nw c o e with q | q
  · exact .inl q
  · exact .inr (s.free q)⟩
theorem eset {α : Type} {l : List α} {i : Nat} {x y : α} (h : l[i]? = some x) : (l.set i y)[i]? = some y := by
  rw [List.getElem?_set_self]
  exact (List.getElem?_eq_some_iff.mp h).1
/-- a list of ours is changed -/
theorem R.upd (r : R W H0 L F H env σ) {i : Nat} {p : Addr} {d d' : D} {o : HO} (he : env[i]? = some (some (M.own, d))) (hs : σ[i]? = some (some (V.ref p))) (hF : F p = none) (h0 : H0 p = none) (ho : RpO W F p d' o) :
    R W H0 L F (L2.upd H p o) (env.set i (some (.own, d'))) σ := by
  refine ⟨fun b u e => by rw [upd_ne (ne_of_none e hF)]; exact r.fh b u e, fun b u e => by rw [upd_ne (ne_of_none e h0)]; exact r.h0 b u e, by rw [List.length_set]; exact r.len, fun j c e => ?_, fun j k a b q h1 h2 h3 h4 => ?_, r.hb, r.la⟩
  · rcases getElem?_set_some e with ⟨rfl, e2⟩ | ⟨ne, e2⟩
    · cases e2
      exact ⟨_, hs, p, o, rfl, upd_same, ho, hF, h0⟩
    · obtain ⟨v, e3, e4⟩ := r.cell j c e2
      refine ⟨v, e3, ?_⟩
      obtain ⟨m, dd⟩ := c
      cases m with
      | own =>
        obtain ⟨q, u, rfl, g1, g2, g3, g4⟩ := e4
        have : q ≠ p := fun z => ne (r.sep i j _ _ p he e2 hs (by rw [← z]; exact e3))
        exact ⟨q, u, rfl, by rw [upd_ne this]; exact g1, g2, g3, g4⟩
      | _ => exact e4
  · have own : ∀ {j : Nat} {a : D}, (env.set i (some (M.own, d')))[j]? = some (some (M.own, a)) → ∃ a', env[j]? = some (some (M.own, a')) := fun {j a} h => by
      rcases getElem?_set_some h with ⟨rfl, _⟩ | ⟨_, e2⟩
      · exact ⟨_, he⟩
      · exact ⟨_, e2⟩
    obtain ⟨a', e1⟩ := own h1
    obtain ⟨b', e2⟩ := own h2
    exact r.sep j k _ _ q e1 e2 h3 h4
/-- it is kept for good -/
theorem R.frz (r : R W H0 L F H env σ) {i : Nat} {d : D} (he : env[i]? = some (some (M.own, d))) : ∃ F', Stp H0 F F' ∧ R W H0 L F' H (env.set i (some (.val, d))) σ := by
  obtain ⟨v, hs, p, o, rfl, g1, g2, g3, g4⟩ := r.cell i _ he
  have s : Same F (L2.upd F p o) := fun b u z => by rw [upd_ne (ne_of_none z g3)]; exact z
  refine ⟨L2.upd F p o, ⟨s, fun b u z => ?_⟩, fun b u z => ?_, r.h0, by rw [List.length_set]; exact r.len, fun j c e => ?_, fun j k a b q h1 h2 h3 h4 => ?_, r.hb, r.la⟩
  · by_cases hb : b = p
    · subst hb; exact .inr g4
    · rw [upd_ne hb] at z; exact .inl z
  · by_cases hb : b = p
    · subst hb; rw [upd_same] at z; cases z; exact g1
    · rw [upd_ne hb] at z; exact r.fh b u z
  · rcases getElem?_set_some e with ⟨rfl, e2⟩ | ⟨ne, e2⟩
    · cases e2
      exact ⟨_, hs, RpO.rp upd_same (g2.mono s)⟩
    · obtain ⟨v, e3, e4⟩ := r.cell j c e2
      refine ⟨v, e3, ?_⟩
      obtain ⟨m, dd⟩ := c
      cases m with
      | val => exact Rp.mono s _ e4
      | own =>
        obtain ⟨q, u, rfl, k1, k2, k3, k4⟩ := e4
        have : q ≠ p := fun z => ne (r.sep i j _ _ p he e2 hs (by rw [← z]; exact e3))
        exact ⟨q, u, rfl, k1, k2.mono s, by rw [upd_ne this]; exact k3, k4⟩
      | bor =>
        have e4 : Bo W F L.hb dd v := e4
        cases dd with
        | lst l => obtain ⟨p, vs, e1, e2, e3⟩ := e4; exact ⟨p, vs, e1, e2, e3.mono s⟩
        | dct l => obtain ⟨p, vs, e1, e2, e3⟩ := e4; exact ⟨p, vs, e1, e2, e3.mono s⟩
        | _ => exact False.elim e4
      | lck =>
        obtain ⟨q, u, rfl, k1, k2, k3, k4⟩ := e4
        exact ⟨q, u, rfl, k1, k2, k3.mono s, by rw [upd_ne (ne_of_none k2 g4)]; exact k4⟩
  · have own : ∀ {j : Nat} {a : D}, (env.set i (some (M.val, d)))[j]? = some (some (M.own, a)) → env[j]? = some (some (M.own, a)) := fun {j a} h => by
      rcases getElem?_set_some h with ⟨rfl, e2⟩ | ⟨_, e2⟩
      · cases e2
      · exact e2
    exact r.sep j k _ _ q (own h1) (own h2) h3 h4
/-- a loop begins to walk it -/
theorem R.lock (r : R W H0 L F H env σ) {i : Nat} {d : D} (he : env[i]? = some (some (M.own, d))) : ∃ H0' L', Same H0 H0' ∧ R W H0' L' F H (env.set i (some (.lck, d))) σ ∧
    ∀ F' H' env' σ' dd, Stp H0 F F' → R W H0' L' F' H' env' σ' → env'[i]? = some (some (M.lck, dd)) → R W H0 L F' H' (env'.set i (some (.own, dd))) σ' := by
  obtain ⟨v, hs, p, o, rfl, g1, g2, g3, g4⟩ := r.cell i _ he
  have s0 : Same H0 (L2.upd H0 p o) := fun b u z => by rw [upd_ne (ne_of_none z g4)]; exact z
  refine ⟨L2.upd H0 p o, ⟨fun j => if j = i then some p else L.ad j, L.hb⟩, s0, ⟨r.fh, fun b u z => ?_, by rw [List.length_set]; exact r.len, fun j c e => ?_, fun j k a b q h1 h2 h3 h4 => ?_, r.hb.trans s0, fun j q e => ?_⟩, fun F' H' env' σ' dd st r' he' => ?_⟩
  · by_cases hb : b = p
    · subst hb; rw [upd_same] at z; cases z; exact g1
    · rw [upd_ne hb] at z; exact r.h0 b u z
  · rcases getElem?_set_some e with ⟨rfl, e2⟩ | ⟨ne, e2⟩
    · cases e2
      exact ⟨_, hs, p, o, rfl, by simp, upd_same, g2, g3⟩
    · obtain ⟨v, e3, e4⟩ := r.cell j c e2
      refine ⟨v, e3, ?_⟩
      obtain ⟨m, dd⟩ := c
      cases m with
      | val => exact e4
      | own =>
        obtain ⟨q, u, rfl, k1, k2, k3, k4⟩ := e4
        have : q ≠ p := fun z => ne (r.sep i j _ _ p he e2 hs (by rw [← z]; exact e3))
        exact ⟨q, u, rfl, k1, k2, k3, by rw [upd_ne this]; exact k4⟩
      | bor => exact e4
      | lck =>
        obtain ⟨q, u, rfl, k1, k2, k3, k4⟩ := e4
        exact ⟨q, u, rfl, by simp only [if_neg (Ne.symm ne)]; exact k1, s0 _ _ k2, k3, k4⟩
  · have own : ∀ {j : Nat} {a : D}, (env.set i (some (M.lck, d)))[j]? = some (some (M.own, a)) → env[j]? = some (some (M.own, a)) := fun {j a} h => by
      rcases getElem?_set_some h with ⟨rfl, e2⟩ | ⟨_, e2⟩
      · cases e2
      · exact e2
    exact r.sep j k _ _ q (own h1) (own h2) h3 h4
  · simp only at e
    split at e
    · cases e
      rw [upd_same]
      exact fun z => nomatch z
    · obtain z := r.la j q e
      intro h
      exact z (s0.free h)
  · obtain ⟨v, hs', q, u, rfl, k1, k2, k3, k4⟩ := r'.cell i _ he'
    simp only [if_true, Option.some.injEq] at k1
    subst k1
    refine ⟨r'.fh, s0.trans r'.h0, by rw [List.length_set]; exact r'.len, fun j c e => ?_, fun j k a b q h1 h2 h3 h4 => ?_, r.hb, r.la⟩
    · rcases getElem?_set_some e with ⟨rfl, e2⟩ | ⟨ne, e2⟩
      · cases e2
        exact ⟨_, hs', p, u, rfl, r'.h0 _ _ k2, k3, k4, g4⟩
      · obtain ⟨v, e3, e4⟩ := r'.cell j c e2
        refine ⟨v, e3, ?_⟩
        obtain ⟨m, dd⟩ := c
        cases m with
        | val => exact e4
        | own =>
          obtain ⟨q, u, rfl, k1, k2, k3, k4⟩ := e4
          exact ⟨q, u, rfl, k1, k2, k3, s0.free k4⟩
        | bor => exact e4
        | lck =>
          obtain ⟨q, u, rfl, j1, j2, j3, j4⟩ := e4
          simp only [if_neg (Ne.symm ne)] at j1
          have hq : q ≠ p := fun z => r.la j q j1 (by rw [z]; exact g4)
          rw [upd_ne hq] at j2
          exact ⟨q, u, rfl, j1, j2, j3, j4⟩
    · have go : ∀ {j k : Nat} {a b : D}, (env'.set i (some (M.own, dd)))[j]? = some (some (M.own, a)) → (env'.set i (some (M.own, dd)))[k]? = some (some (M.own, b)) → σ'[j]? = some (some (V.ref q)) → σ'[k]? = some (some (V.ref q)) → j = i → j = k := fun {j k a b} h1 h2 h3 h4 hj => by
        subst hj
        rcases getElem?_set_some h2 with ⟨rfl, _⟩ | ⟨ne, e2⟩
        · rfl
        · exfalso
          obtain ⟨v, z1, q2, u2, rfl, _, _, _, z4⟩ := r'.cell k _ e2
          rw [hs'] at h3
          rw [z1] at h4
          cases h3
          cases h4
          rw [upd_same] at z4
          cases z4
      rcases getElem?_set_some h1 with ⟨rfl, _⟩ | ⟨n1, e1⟩
      · exact go h1 h2 h3 h4 rfl
      · rcases getElem?_set_some h2 with ⟨rfl, _⟩ | ⟨n2, e2⟩
        · exact (go h2 h1 h4 h3 rfl).symm
        · exact r'.sep j k _ _ q e1 e2 h3 h4
/-- a slot gets what an expression gave -/
theorem R.sto (r : R W H0 L F H env σ) {i : Nat} {c : C} {env' : Sl} {v : V} (x : Ext F H F1 H1) (hv : VOk W H F1 H1 c v) (he : stO i c env = some env') : R W H0 L F1 H1 env' (σ.set i (some v)) := by
  unfold stO at he
  split at he
  · rename_i hi
    obtain ⟨m, d⟩ := c
    have r1 := r.ext x
    cases m with
    | val => cases he; exact r1.setV hi hv
    | own =>
      cases he
      obtain ⟨p, o, rfl, g1, g2, g3, g4⟩ := hv
      refine r1.setC hi ⟨p, o, rfl, g1, g2, g3, r.h0.free g4⟩ fun _ j dd q z nj e2 e3 => ?_
      cases z
      obtain ⟨v, z1, q2, u2, rfl, z2, _, _, _⟩ := r.cell j _ e2
      rw [z1] at e3
      cases e3
      rw [g4] at z2
      cases z2
    | bor => cases he
    | lck => cases he
  · cases he
end
end My
end

section
set_option Elab.async false
set_option linter.all false
set_option maxRecDepth 100000
set_option maxHeartbeats 1000000
/-! Sound8: statements' readings. -/
namespace My
open PySem PySem.Spec L2 PyProof.Rows
section
variable {W : Wo}
/-- how a statement ends -/
def Post (W : Wo) (H0 : Hp) (L : Lk) (F : Hp) (D : Ends) : Out → Prop
  | .nx e => ∀ σ' H' F', Stp H0 F F' → R W H0 L F' H' e σ' → D.nx σ' H'
  | .brk e => ∀ σ' H' F', Stp H0 F F' → R W H0 L F' H' e σ' → D.bk σ' H'
  | .cnt e => ∀ σ' H' F', Stp H0 F F' → R W H0 L F' H' e σ' → D.ct σ' H'
  | .ret c => ∀ v H' F', Stp H0 F F' → Same H0 H' → Same F' H' → VOk W H0 F' H' c v → D.rt v H'
theorem Post.step {H0 : Hp} {L : Lk} {F F1 : Hp} {D : Ends} {o : Out} (s : Stp H0 F F1) (h : Post W H0 L F D o) : Post W H0 L F1 D o := by
  cases o with
  | nx e => exact fun σ' H' F' a r => h σ' H' F' (s.trans a) r
  | brk e => exact fun σ' H' F' a r => h σ' H' F' (s.trans a) r
  | cnt e => exact fun σ' H' F' a r => h σ' H' F' (s.trans a) r
  | ret c => exact fun v H' F' a => h v H' F' (s.trans a)
/-- a statement's reading -/
def tS (W : Wo) (cf : CF) (gl : Nat → Option D) (fu : Nat) (s : S) : TS := fun D σ H => ∃ H0 L F env o, R W H0 L F H env σ ∧ evS cf gl fu s env = some o ∧ Post W H0 L F D o
end
theorem _root_.L2.PS.imp {X : Cx} {x : Stmt} {t t' : TS} (h : PS X x t) (f : ∀ D σ H, t' D σ H → t D σ H) : PS X x t' := ⟨fun pins s σ H D I q => h.run pins s σ H D I (f D σ H q)⟩
theorem _root_.L2.PSs.imp {X : Cx} {x : List Stmt} {t t' : TS} (h : PSs X x t) (f : ∀ D σ H, t' D σ H → t D σ H) : PSs X x t' := ⟨fun pins s σ H D I q => h.run pins s σ H D I (f D σ H q)⟩
theorem _root_.L2.PS.or {X : Cx} {x : Stmt} {t t' : TS} (h : PS X x t) (h' : PS X x t') : PS X x (fun D σ H => t D σ H ∨ t' D σ H) := ⟨fun pins s σ H D I q => q.elim (h.run pins s σ H D I) (h'.run pins s σ H D I)⟩
section
variable {X : Cx} {cf : CF} {gl : Nat → Option D} {fu : Nat}
abbrev TSx (X : Cx) (cf : CF) (gl : Nat → Option D) (fu : Nat) (s : S) : TS := tS (wo X) cf gl fu s
theorem q_nil {D : Ends} {σ : L2.St} {H : Hp} (h : TSx X cf gl fu .nil D σ H) : tNext D σ H := by
  obtain ⟨H0, L, F, env, o, r, he, q⟩ := h
  unfold evS at he
  cases he
  exact q _ _ _ Stp.refl r
theorem q_cons {s t : S} {D : Ends} {σ : L2.St} {H : Hp} (h : TSx X cf gl fu (.cons s t) D σ H) : tSeq (TSx X cf gl fu s) (TSx X cf gl fu t) D σ H := by
  obtain ⟨H0, L, F, env, o, r, he, q⟩ := h
  unfold evS at he
  simp only [Option.bind_eq_some_iff] at he
  obtain ⟨o1, h1, he⟩ := he
  refine ⟨H0, L, F, env, o1, r, h1, ?_⟩
  cases o1 with
  | nx e1 => exact fun σ' H' F' s r' => ⟨H0, L, F', e1, o, r', he, q.step s⟩
  | brk e => cases he; exact q
  | cnt e => cases he; exact q
  | ret c => cases he; exact q
theorem q_frz {i : Nat} {t : S} {D : Ends} {σ : L2.St} {H : Hp} (h : TSx X cf gl fu (.cons (.frz i) t) D σ H) : TSx X cf gl fu t D σ H := by
  obtain ⟨H0, L, F, env, o, r, he, q⟩ := h
  unfold evS at he
  simp only [Option.bind_eq_some_iff] at he
  obtain ⟨o1, h1, he⟩ := he
  unfold evS at h1
  split at h1
  · rename_i d hd
    cases h1
    obtain ⟨F', s, r'⟩ := r.frz hd
    exact ⟨H0, L, F', _, o, r', he, q.step s⟩
  · cases h1
    exact ⟨H0, L, F, env, o, r, he, q⟩
theorem unl_some {i : Nat} {e e' : Sl} (h : unl i e = some e') : ∃ d, e[i]? = some (some (M.lck, d)) ∧ e' = e.set i (some (.own, d)) := by
  unfold unl at h
  split at h
  · rename_i d hd
    cases h
    exact ⟨d, hd, rfl⟩
  · cases h
theorem q_lock {i : Nat} {s : S} {D : Ends} {σ : L2.St} {H : Hp} (h : TSx X cf gl fu (.lock i s) D σ H) : TSx X cf gl fu s D σ H := by
  obtain ⟨H0, L, F, env, o, r, he, q⟩ := h
  unfold evS at he
  split at he
  · rename_i d hd
    obtain ⟨o1, h1, h9⟩ := Option.bind_eq_some_iff.mp he
    clear he
    obtain ⟨H0', L', s0, r', back⟩ := r.lock hd
    refine ⟨H0', L', F, _, o1, r', h1, ?_⟩
    cases o1 with
    | nx e =>
      simp only [unlO, Option.map_eq_some_iff] at h9
      obtain ⟨e', h9, rfl⟩ := h9
      obtain ⟨d', hd', rfl⟩ := unl_some h9
      exact fun σ' H' F' st r2 => q _ _ _ (st.less s0) (back _ _ _ _ _ (st.less s0) r2 hd')
    | brk e =>
      simp only [unlO, Option.map_eq_some_iff] at h9
      obtain ⟨e', h9, rfl⟩ := h9
      obtain ⟨d', hd', rfl⟩ := unl_some h9
      exact fun σ' H' F' st r2 => q _ _ _ (st.less s0) (back _ _ _ _ _ (st.less s0) r2 hd')
    | cnt e =>
      simp only [unlO, Option.map_eq_some_iff] at h9
      obtain ⟨e', h9, rfl⟩ := h9
      obtain ⟨d', hd', rfl⟩ := unl_some h9
      exact fun σ' H' F' st r2 => q _ _ _ (st.less s0) (back _ _ _ _ _ (st.less s0) r2 hd')
    | ret c =>
      cases h9
      exact fun v H' F' st h0 fh vo => q v H' F' (st.less s0) (s0.trans h0) fh (vo.back s0)
  · exact ⟨H0, L, F, env, o, r, he, q⟩
theorem q_set {i : Nat} {e : E} {D : Ends} {σ : L2.St} {H : Hp} (h : TSx X cf gl fu (.set i e) D σ H) : tAsg (TEx X cf gl e) (gName i) D σ H := by
  obtain ⟨H0, L, F, env, o, r, he, q⟩ := h
  unfold evS at he
  simp only [Option.bind_eq_some_iff, Option.map_eq_some_iff] at he
  obtain ⟨c, hc, env', hs, rfl⟩ := he
  exact ⟨H0, L, F, env, c, r, hc, fun v H' F' x vo => q _ _ _ (x.stp r.h0) (r.sto x vo hs)⟩
theorem q_unp {t : Tg} {e : E} {D : Ends} {σ : L2.St} {H : Hp} (h : TSx X cf gl fu (.unp t e) D σ H) : tAsg (TEx X cf gl e) (tG (wo X) t) D σ H := by
  obtain ⟨H0, L, F, env, o, r, he, q⟩ := h
  unfold evS at he
  simp only [Option.bind_eq_some_iff, Option.map_eq_some_iff] at he
  obtain ⟨c, hc, d, hd, env', hs, rfl⟩ := he
  refine ⟨H0, L, F, env, c, r, hc, fun v H' F' x vo => ?_⟩
  obtain ⟨F2, x2, s2, p2⟩ := vo.keep x hd
  exact ⟨H0, L, F2, env, d, env', r.ext x2, p2, hs, fun σ' r' _ => q _ _ _ (x2.stp r.h0) r'⟩
theorem ownL_some {i : Nat} {env : Sl} {l : List D} (h : ownL i env = some l) : env[i]? = some (some (M.own, .lst l)) := by
  unfold ownL at h
  split at h
  · rename_i l' h'
    cases h
    exact h'
  · cases h
theorem own_at {H0 : Hp} {L : Lk} {F H : Hp} {env : Sl} {σ : L2.St} {i : Nat} {l : List D} (r : R (wo X) H0 L F H env σ) (h : env[i]? = some (some (M.own, .lst l))) : ∃ p vs, σ[i]? = some (some (V.ref p)) ∧ H p = some (.lst vs) ∧ RpL (wo X) F l vs ∧ F p = none ∧ H0 p = none := by
  obtain ⟨v, e1, p, o, rfl, e2, e3, e4, e5⟩ := r.cell i _ h
  obtain ⟨vs, rfl, e6⟩ := e3
  exact ⟨p, vs, e1, e2, e6, e4, e5⟩
theorem q_setIx {i : Nat} {k e : E} {D : Ends} {σ : L2.St} {H : Hp} (h : TSx X cf gl fu (.setIx i k e) D σ H) : tAsg (TEx X cf gl e) (gSub (tVar i) (TEx X cf gl k) rSetL) D σ H := by
  obtain ⟨H0, L, F, env, o, r, he, q⟩ := h
  unfold evS at he
  simp only [Option.bind_eq_some_iff] at he
  obtain ⟨c, hc, d, hd, ⟨m, n⟩, hn, he⟩ := he
  cases n <;> simp only [reduceCtorEq] at he
  rename_i n
  simp only [Option.bind_eq_some_iff, Option.map_eq_some_iff] at he
  obtain ⟨l, hl, l', hx, rfl⟩ := he
  have hl := ownL_some hl
  refine ⟨H0, L, F, env, c, r, hc, fun v H1 F1 x vo => ?_⟩
  obtain ⟨F2, x2, s2, p2⟩ := vo.keep x hd
  have r2 := r.ext x2
  obtain ⟨p, vs, e1, e2, e3, e4, e5⟩ := own_at r2 hl
  refine ⟨_, e1, H0, L, F2, env, _, r2, hn, fun u H3 F3 x3 v3 => ?_⟩
  have g := v3.rd x3.fh
  cases rd_int.mp g
  unfold ixSet at hx
  obtain ⟨j, hj, rfl⟩ := Option.map_eq_some_iff.mp hx
  have r3 := r2.ext x3
  obtain ⟨p', vs', e1', e2', e3', e4', e5'⟩ := own_at r3 hl
  rw [e1] at e1'
  cases e1'
  refine ⟨p, vs', n, j, rfl, rfl, e2', by rw [← e3'.length]; exact hj, q _ _ F3 ((x2.trans x3).stp r.h0) ?_⟩
  exact r3.upd hl e1 e4' e5' ⟨_, rfl, e3'.set (Rp.mono x3.ff _ p2) j⟩
/-- in place, by values -/
def rAg (o : Op2) : TIp := fun x y H Q => ∃ d e z : D, (match d with | .int i => x = .int i | _ => False) ∧ (match e with | .int i => y = .int i | _ => False) ∧ augF o d e = some z ∧ ∀ w, (match z with | .int i => w = V.int i | _ => False) → Q w H
theorem ip_ag {o : Op2} {op : Operator} (h : opB o op = true) : PIp X op (rAg o) := by
  intro pins s σ H x y v u Q I r1 r2 hq
  obtain ⟨d, e, z, h1, h2, h3, h4⟩ := hq
  cases d <;> simp only at h1
  cases e <;> simp only at h2
  subst h1 h2
  cases o <;> cases op <;> simp [opB] at h <;> simp only [augF, reduceCtorEq, Option.some.injEq] at h3
  · subst h3
    exact ip_add pins s σ H _ _ v u Q I r1 r2 ⟨_, _, rfl, rfl, h4 _ rfl⟩
  · subst h3
    exact ip_sub pins s σ H _ _ v u Q I r1 r2 ⟨_, _, rfl, rfl, h4 _ rfl⟩
theorem augF_int {o : Op2} {d e z : D} (h : augF o d e = some z) : ∃ i j k, d = .int i ∧ e = .int j ∧ z = .int k := by
  cases o <;> cases d <;> cases e <;> simp only [augF, reduceCtorEq, Option.some.injEq] at h
  all_goals exact ⟨_, _, _, rfl, rfl, h.symm⟩
theorem q_aug {i : Nat} {op : Op2} {e : E} {D : Ends} {σ : L2.St} {H : Hp} (h : TSx X cf gl fu (.aug i op e) D σ H) : tAug i (TEx X cf gl e) (rAg op) D σ H := by
  obtain ⟨H0, L, F, env, o, r, he, q⟩ := h
  unfold evS at he
  simp only [Option.bind_eq_some_iff] at he
  obtain ⟨c, hc, y, hy, d, hd, he⟩ := he
  split at he
  · rename_i hi
    cases he
    obtain ⟨a, b, k, ha, hb, rfl⟩ := augF_int hd
    obtain ⟨v, e1, e2⟩ := r.var (Hs := H) hc
    refine ⟨v, e1, H0, L, F, env, y, r, hy, fun u H1 F1 x1 v1 => ?_⟩
    have g1 := e2.rd r.fh
    have g2 := v1.rd x1.fh
    rw [ha] at g1 hd
    rw [hb] at g2 hd
    cases rd_int.mp g1
    cases rd_int.mp g2
    refine ⟨_, _, _, rfl, rfl, hd, fun w hw => ?_⟩
    simp only at hw
    subst hw
    exact q _ _ F1 (x1.stp r.h0) ((r.ext x1).setV hi (rp_int.mpr rfl))
  · cases he
/-- xs[k], an int -/
def rGetL : V → V → Hp → VK → Prop := fun o i H Q => ∃ p xs k v, o = .ref p ∧ i = .int k ∧ H p = some (.lst xs) ∧ atI xs k = some v ∧ Q v H
theorem get_list : PGet X rGetL := by
  intro pins s σ H o i ov iv Q I ro ri h
  obtain ⟨p, xs, k, z, rfl, rfl, hp, he, q⟩ := h
  cases ro
  obtain ⟨t, rfl⟩ := ri
  obtain ⟨its, r, pl, hz⟩ := I.list (SqL.of hp)
  obtain ⟨j, h1, h2, h3, h4, h5⟩ := atI_get he
  obtain ⟨w, ew, rw'⟩ := r.get h2
  have hl := r.length
  have hn := line63
  have fin : EP X pins σ Q w s := ⟨z, H, I, rw', q⟩
  by_cases h0 : 0 ≤ k
  · have hj : k.toNat = j := by
      rw [seqIndex_of h0 h5] at h1
      exact Option.some.inj h1
    exact wpAny_getItem_list pl.isList h0 (by omega) (by rw [hj]; simpa using ew) fin
  · have hj : (k + (its.toArray.size : Int)).toNat = j := by
      rw [seqIndex_neg (by omega) h4] at h1
      rw [List.size_toArray, ← hl]
      exact Option.some.inj h1
    exact wpAny_getItem_list_neg pl.isList (by omega) (by rw [List.size_toArray] <;> omega) (by omega) (by rw [hj]; simpa using ew) fin
theorem q_augIx {i : Nat} {k : E} {op : Op2} {e : E} {D : Ends} {σ : L2.St} {H : Hp} (h : TSx X cf gl fu (.augIx i k op e) D σ H) : tAugS (tVar i) (TEx X cf gl k) (TEx X cf gl e) rGetL (rAg op) rSetL D σ H := by
  obtain ⟨H0, L, F, env, o, r, he, q⟩ := h
  unfold evS at he
  simp only [Option.bind_eq_some_iff] at he
  obtain ⟨⟨m, n⟩, hn, he⟩ := he
  cases n <;> simp only [reduceCtorEq] at he
  rename_i n
  simp only [Option.bind_eq_some_iff, Option.map_eq_some_iff] at he
  obtain ⟨l, hl, x, hx, y, hy, d, hd, l', hs, rfl⟩ := he
  have hl := ownL_some hl
  obtain ⟨a, b, z, rfl, hb, rfl⟩ := augF_int hd
  obtain ⟨p, vs, e1, _⟩ := own_at r hl
  refine ⟨_, e1, H0, L, F, env, _, r, hn, fun u H1 F1 x1 v1 => ?_⟩
  cases rd_int.mp (v1.rd x1.fh)
  have r1 := r.ext x1
  obtain ⟨p', vs, e1', e2, e3, e4, e5⟩ := own_at r1 hl
  rw [e1] at e1'
  cases e1'
  obtain ⟨w, g1, g2⟩ := e3.atI hx
  cases rp_int.mp g2
  refine ⟨p, vs, n, _, rfl, rfl, e2, g1, H0, L, F1, env, y, r1, hy, fun u H2 F2 x2 v2 => ?_⟩
  have g3 := v2.rd x2.fh
  rw [hb] at g3 hd
  cases rd_int.mp g3
  refine ⟨_, _, _, rfl, rfl, hd, fun w hw => ?_⟩
  simp only at hw
  subst hw
  have r2 := r1.ext x2
  obtain ⟨p', vs', e1', e2', e3', e4', e5'⟩ := own_at r2 hl
  rw [e1] at e1'
  cases e1'
  unfold ixSet at hs
  obtain ⟨j, hj, rfl⟩ := Option.map_eq_some_iff.mp hs
  refine ⟨p, vs', n, j, rfl, rfl, e2', by rw [← e3'.length]; exact hj, q _ _ F2 ((x1.trans x2).stp r.h0) ?_⟩
  exact r2.upd hl e1 e4' e5' ⟨_, rfl, e3'.set (rp_int.mpr rfl) j⟩
theorem q_ite {c : E} {a b : S} {D : Ends} {σ : L2.St} {H : Hp} (h : TSx X cf gl fu (.ite c a b) D σ H) : tIfS (TTx X cf gl c) (TSx X cf gl fu a) (TSx X cf gl fu b) D σ H := by
  obtain ⟨H0, L, F, env, o, r, he, q⟩ := h
  unfold evS at he
  simp only [Option.bind_eq_some_iff] at he
  obtain ⟨t, ht, he⟩ := he
  unfold asB at ht
  split at ht
  · rename_i m t' hc
    cases ht
    refine ⟨H0, L, F, env, m, _, r, hc, fun H1 F1 x1 => ?_⟩
    cases t with
    | true => exact ⟨H0, L, F1, env, o, r.ext x1, he, q.step (x1.stp r.h0)⟩
    | false => exact ⟨H0, L, F1, env, o, r.ext x1, he, q.step (x1.stp r.h0)⟩
  · cases ht
theorem q_drop {e : E} {D : Ends} {σ : L2.St} {H : Hp} (h : TSx X cf gl fu (.drop e) D σ H) : tDrop (TEx X cf gl e) D σ H := by
  obtain ⟨H0, L, F, env, o, r, he, q⟩ := h
  unfold evS at he
  obtain ⟨c, hc, rfl⟩ := Option.map_eq_some_iff.mp he
  exact ⟨H0, L, F, env, c, r, hc, fun v H1 F1 x1 _ => q _ _ F1 (x1.stp r.h0) (r.ext x1)⟩
theorem q_retN {D : Ends} {σ : L2.St} {H : Hp} (h : TSx X cf gl fu .retN D σ H) : tRetN D σ H := by
  obtain ⟨H0, L, F, env, o, r, he, q⟩ := h
  unfold evS at he
  cases he
  exact q _ _ F Stp.refl r.h0 r.fh vnon
theorem q_ret {e : E} {D : Ends} {σ : L2.St} {H : Hp} (h : TSx X cf gl fu (.ret e) D σ H) : tRet (TEx X cf gl e) D σ H ∨ ∃ i, isVar e = some i ∧ tRet (tVar i) D σ H := by
  obtain ⟨H0, L, F, env, o, r, he, q⟩ := h
  unfold evS at he
  obtain ⟨c, hc, rfl⟩ := Option.map_eq_some_iff.mp he
  have plain : retE e env c = c → tRet (TEx X cf gl e) D σ H := fun z => by
    rw [z] at q
    exact ⟨H0, L, F, env, c, r, hc, fun v H1 F1 x1 v1 => q v H1 F1 (x1.stp r.h0) (r.h0.trans x1.hh) x1.fh (v1.back r.h0)⟩
  cases e <;> try exact .inl (plain rfl)
  rename_i i
  unfold retE at q plain
  simp only at q plain
  split at q
  · rename_i d hd
    obtain ⟨v, e1, p, o, rfl, g1, g2, g3, g4⟩ := r.cell i _ hd
    exact .inr ⟨i, rfl, _, e1, q _ H F Stp.refl r.h0 r.fh ⟨p, o, rfl, g1, g2, g3, g4⟩⟩
  · exact .inl ⟨H0, L, F, env, c, r, hc, fun v H1 F1 x1 v1 => q v H1 F1 (x1.stp r.h0) (r.h0.trans x1.hh) x1.fh (v1.back r.h0)⟩
theorem q_brk {D : Ends} {σ : L2.St} {H : Hp} (h : TSx X cf gl fu .brk D σ H) : tBreak D σ H := by
  obtain ⟨H0, L, F, env, o, r, he, q⟩ := h
  unfold evS at he
  cases he
  exact q _ _ _ Stp.refl r
theorem q_cnt {D : Ends} {σ : L2.St} {H : Hp} (h : TSx X cf gl fu .cnt D σ H) : tCont D σ H := by
  obtain ⟨H0, L, F, env, o, r, he, q⟩ := h
  unfold evS at he
  cases he
  exact q _ _ _ Stp.refl r
theorem q_pass {D : Ends} {σ : L2.St} {H : Hp} (h : TSx X cf gl fu .pass D σ H) : tNext D σ H := by
  obtain ⟨H0, L, F, env, o, r, he, q⟩ := h
  unfold evS at he
  cases he
  exact q _ _ _ Stp.refl r
theorem q_doc {D : Ends} {σ : L2.St} {H : Hp} (h : TSx X cf gl fu .doc D σ H) : tNext D σ H := by
  obtain ⟨H0, L, F, env, o, r, he, q⟩ := h
  unfold evS at he
  cases he
  exact q _ _ _ Stp.refl r
theorem q_whl {c : E} {b : S} {D : Ends} {σ : L2.St} {H : Hp} (h : TSx X cf gl fu (.whl c b) D σ H) : tWhile (TTx X cf gl c) (TSx X cf gl fu b) D σ H := by
  obtain ⟨H0, L, F, env, o, r, he, q⟩ := h
  unfold evS at he
  refine ⟨fun n σ H => ∃ F1 env, Stp H0 F F1 ∧ R (wo X) H0 L F1 H env σ ∧ loopW (fun env => asB (ev cf gl c env)) (evS cf gl fu b) n env = some o, ⟨fu, F, env, Stp.refl, r, he⟩, fun n σ1 H1 ⟨F1, env1, st, r1, h1⟩ => ?_⟩
  cases n with
  | zero => cases h1
  | succ n =>
    unfold loopW at h1
    obtain ⟨t, ht, h1⟩ := Option.bind_eq_some_iff.mp h1
    unfold asB at ht
    split at ht
    · rename_i m t' hc
      cases ht
      refine ⟨H0, L, F1, env1, m, _, r1, hc, fun H2 F2 x2 => ?_⟩
      have st2 := st.trans (x2.stp r1.h0)
      cases t with
      | true =>
        simp only [if_true] at h1 ⊢
        obtain ⟨o1, h2, h1⟩ := Option.bind_eq_some_iff.mp h1
        refine ⟨fun σ H => ∃ F1 env, Stp H0 F F1 ∧ R (wo X) H0 L F1 H env σ ∧ loopW (fun env => asB (ev cf gl c env)) (evS cf gl fu b) n env = some o, fun σ' H' hN => ⟨n, Nat.lt_succ_self n, hN⟩, H0, L, F2, env1, o1, r1.ext x2, h2, ?_⟩
        cases o1 with
        | nx e => exact fun σ' H' F' s r' => ⟨F', e, st2.trans s, r', h1⟩
        | cnt e => exact fun σ' H' F' s r' => ⟨F', e, st2.trans s, r', h1⟩
        | brk e => cases h1; exact fun σ' H' F' s r' => q σ' H' F' (st2.trans s) r'
        | ret v => cases h1; exact fun v H' F' s => q v H' F' (st2.trans s)
      | false =>
        cases h1
        exact q _ _ F2 st2 (r1.ext x2)
    · cases ht
theorem q_for {t : Tg} {it : E} {b e : S} {D : Ends} {σ : L2.St} {H : Hp} (h : TSx X cf gl fu (.forS t it b e) D σ H) : tForE (tI (wo X) cf gl true it) (tG (wo X) t) (TSx X cf gl fu b) (TSx X cf gl fu e) D σ H := by
  obtain ⟨H0, L, F, env, o, r, he, q⟩ := h
  unfold evS at he
  obtain ⟨ds, hds, he⟩ := Option.bind_eq_some_iff.mp he
  split at he
  · rename_i hsafe
    obtain ⟨o1, hl, he⟩ := Option.bind_eq_some_iff.mp he
    refine ⟨H0, L, F, env, ds, r, hds, fun _ => hsafe, fun J H1 F1 x1 wk => ?_⟩
    rw [if_pos rfl] at wk
    refine ⟨fun i m σ H => m = ds.length - i ∧ i ≤ ds.length ∧ ∃ F2 env2, Same F1 F2 ∧ Stp H0 F F2 ∧ R (wo X) H0 L F2 H env2 σ ∧ loopF (setT t) (evS cf gl fu b) (ds.drop i) env2 = some o1, ⟨ds.length, by simp, Nat.zero_le _, F1, env, Same.refl _, x1.stp r.h0, r.ext x1, by rw [List.drop_zero]; exact hl⟩, ?_⟩
    rintro i m σ2 H2 ⟨rfl, hi, F2, env2, s12, st, r2, h2⟩
    have w := wk i F2 H2 s12 r2.fh r2.h0
    by_cases hlt : i < ds.length
    · refine .inr ?_
      obtain ⟨go, yl⟩ := w.1 _ (List.getElem?_eq_getElem hlt)
      refine ⟨go, fun σ H => i + 1 ≤ ds.length ∧ ∃ F2 env2, Same F1 F2 ∧ Stp H0 F F2 ∧ R (wo X) H0 L F2 H env2 σ ∧ loopF (setT t) (evS cf gl fu b) (ds.drop (i + 1)) env2 = some o1, fun σ' H' n => ⟨ds.length - (i + 1), by omega, rfl, n⟩, fun x H3 y => ?_⟩
      obtain ⟨F3, x3, rpx⟩ := yl x H3 y
      rw [List.drop_eq_getElem_cons hlt] at h2
      unfold loopF at h2
      obtain ⟨e1, hg, h2⟩ := Option.bind_eq_some_iff.mp h2
      obtain ⟨o2, hb, h2⟩ := Option.bind_eq_some_iff.mp h2
      refine ⟨H0, L, F3, env2, _, e1, r2.ext x3, rpx, hg, fun σ3 r3 _ => ⟨H0, L, F3, e1, o2, r3, hb, ?_⟩⟩
      have s3 := s12.trans x3.ff
      have st3 := st.trans (x3.stp r2.h0)
      cases o2 with
      | nx e => exact fun σ' H' F' s r' => ⟨hlt, F', e, s3.trans s.ff, st3.trans s, r', h2⟩
      | cnt e => exact fun σ' H' F' s r' => ⟨hlt, F', e, s3.trans s.ff, st3.trans s, r', h2⟩
      | brk e => cases h2; cases he; exact fun σ' H' F' s r' => q σ' H' F' (st3.trans s) r'
      | ret v => cases h2; cases he; exact fun v H' F' s => q v H' F' (st3.trans s)
    · have ei : i = ds.length := by omega
      refine .inl ⟨w.2 ei, ?_⟩
      rw [ei, List.drop_length] at h2
      cases h2
      exact ⟨H0, L, F2, env2, o, r2, he, q.step st⟩
  · cases he
end
end My
end

section
set_option Elab.async false
set_option linter.all false
set_option maxRecDepth 100000
set_option maxHeartbeats 2000000
/-! Sound9: the induction over statements. -/
namespace My
open PySem PySem.Spec L2 PyProof.Rows
def rIns : V → List V → Hp → VK → Prop := fun x vs H Q => ∃ (l : Addr) (xs : List V) (i : Int) (y : V), x = .ref l ∧ vs = [.int i, y] ∧ H l = some (.lst xs) ∧ xs.length < sizeLine ∧ 0 ≤ i ∧ i < 2 ^ 63 ∧
    Q .non (upd H l (.lst (xs.take i.toNat ++ [y] ++ xs.drop i.toNat)))
def rMt : Mt → V → List V → Hp → VK → Prop
  | .append => rAppend | .extend => rExtend | .pop => rPop | .popAt => rPopAt | .insert => rIns | .reverse => rReverse | .clear => rClear
section
variable {W : Wo} {F H F1 H1 : Hp}
theorem two63 : (9223372036854775808 : Int) = 2 ^ 63 := by decide
theorem mt_go {m : Mt} {l l' : List D} {cs : List C} {d : D} {p : Addr} {vs us : List V} {Q : VK} (x : Ext F H F1 H1) (hp : H1 p = some (.lst vs)) (rp : RpL W F1 l vs) (va : VL W H F1 H1 cs us) (h : mtF m l cs = some (l', d))
    (q : ∀ F2 vs' w, Ext F H F2 H1 → RpL W F2 l' vs' → Rp W F2 d w → Q w (upd H1 p (.lst vs'))) : rMt m (.ref p) us H1 Q := by
  have ln := rp.length
  have sl := sl_eq
  have t63 := two63
  cases m with
  | append =>
    match cs, h with
    | [c], h =>
      simp only [mtF, Option.bind_eq_some_iff] at h
      obtain ⟨e, he, h⟩ := h
      split at h
      · cases h
        obtain ⟨u, r, rfl, hv, hr⟩ := va
        cases (show r = [] from hr)
        obtain ⟨F2, x2, s2, p2⟩ := hv.keep x he
        exact ⟨p, vs, u, rfl, rfl, hp, by omega, q F2 _ _ x2 ((rp.mono s2).app (RpL.one p2)) (rp_non.mpr rfl)⟩
      · cases h
  | extend =>
    match cs, h with
    | [(.own, .lst m)], h =>
      simp only [mtF] at h
      split at h
      · cases h
        obtain ⟨u, r, rfl, ⟨b, o, rfl, g1, g2, g3, g4⟩, hr⟩ := va
        cases (show r = [] from hr)
        obtain ⟨zs, rfl, g5⟩ := g2
        have l2 := g5.length
        exact ⟨p, b, vs, zs, rfl, rfl, hp, g1, by omega, q F1 _ _ x (rp.app g5) (rp_non.mpr rfl)⟩
      · cases h
  | pop =>
    match cs, h with
    | [], h =>
      simp only [mtF, Option.map_eq_some_iff, Prod.mk.injEq] at h
      obtain ⟨e, he, rfl, rfl⟩ := h
      cases (show us = [] from va)
      obtain ⟨w, g1, g2⟩ := rp.get he
      refine ⟨p, vs, w, rfl, rfl, hp, by rw [← ln]; exact g1, q F1 _ _ x ?_ g2⟩
      rw [List.dropLast_eq_take, List.dropLast_eq_take, ln]
      exact rp.take _
  | popAt =>
    match cs, h with
    | [(m, .int i)], h =>
      simp only [mtF] at h
      split at h
      · rename_i hb
        simp only [Option.bind_eq_some_iff, Option.map_eq_some_iff, Prod.mk.injEq] at h
        obtain ⟨k, hk, e, he, rfl, rfl⟩ := h
        obtain ⟨u, r, rfl, hv, hr⟩ := va
        cases (show r = [] from hr)
        have g := hv.rd x.fh
        cases rd_int.mp g
        obtain ⟨w, g1, g2⟩ := rp.get he
        exact ⟨p, vs, i, k, w, rfl, rfl, hp, by omega, by omega, by rw [← ln]; exact hk, g1, q F1 _ _ x (rp.eraseIdx k) g2⟩
      · cases h
  | insert =>
    match cs, h with
    | [(m, .int i), c], h =>
      simp only [mtF, Option.bind_eq_some_iff] at h
      obtain ⟨e, he, h⟩ := h
      split at h
      · rename_i hb
        cases h
        obtain ⟨u, r, rfl, hv, u2, r2, rfl, hv2, hr⟩ := va
        cases (show r2 = [] from hr)
        have g := hv.rd x.fh
        cases rd_int.mp g
        obtain ⟨F2, x2, s2, p2⟩ := hv2.keep x he
        have rp2 := rp.mono s2
        exact ⟨p, vs, i, u2, rfl, rfl, hp, by omega, by omega, by omega, q F2 _ _ x2 (((rp2.take _).app (RpL.one p2)).app (rp2.drop _)) (rp_non.mpr rfl)⟩
      · cases h
  | reverse =>
    match cs, h with
    | [], h =>
      cases h
      cases (show us = [] from va)
      exact ⟨p, vs, rfl, rfl, hp, q F1 _ _ x rp.reverse (rp_non.mpr rfl)⟩
  | clear =>
    match cs, h with
    | [], h =>
      cases h
      cases (show us = [] from va)
      exact ⟨p, vs, rfl, rfl, hp, q F1 _ _ x RpL.nil (rp_non.mpr rfl)⟩
end
structure GoodS (Z : Sg) (cf : CF) (gl : Nat → Option D) (sc : Scope) (fk : Str → Bool) (X : Cx) : Prop extends Good Z cf gl sc fk X where
  ps : PassesOwn (model X.prog X.w) X.A X.env X.xe
  knd : sc.kind = .function
section
variable {X : Cx} {cf : CF} {gl : Nat → Option D} {fu : Nat} {Z : Sg} {sc : Scope} {fk : Str → Bool}
/-- x.m(..), x a list of ours -/
def tMt (W : Wo) (cf : CF) (gl : Nat → Option D) (i : Nat) (m : Mt) (es : E) : TE := fun σ H Q => ∃ p vs, σ[i]? = some (some (V.ref p)) ∧ H p = some (.lst vs) ∧ tA W cf gl es σ H fun us H1 => rMt m (.ref p) us H1 Q
theorem q_mt {i : Nat} {m : Mt} {es : E} {H0 : Hp} {L : Lk} {F H : Hp} {env : Sl} {σ : L2.St} {l : List D} {cs : List C} {r : List D × D} {Q : VK} (hr : R (wo X) H0 L F H env σ) (hl : ownL i env = some l) (hc : evL cf gl es env = some cs) (hm : mtF m l cs = some r)
    (q : ∀ F1 H1 w, Stp H0 F F1 → R (wo X) H0 L F1 H1 (env.set i (some (.own, .lst r.1))) σ → Rp (wo X) F1 r.2 w → Q w H1) : tMt (wo X) cf gl i m es σ H Q := by
  have hl := ownL_some hl
  obtain ⟨p, vs, e1, e2, e3, e4, e5⟩ := own_at hr hl
  refine ⟨p, vs, e1, e2, H0, L, F, env, cs, hr, hc, fun us H1 F1 x1 va => ?_⟩
  have r1 := hr.ext x1
  refine mt_go x1 (x1.hh _ _ e2) (e3.mono x1.ff) va (show mtF m l cs = some (r.1, r.2) from hm) fun F2 vs' w x2 g1 g2 => q F2 _ w (x2.stp hr.h0) ?_ g2
  have r2 := hr.ext x2
  obtain ⟨p', vs2, e1', e2', e3', e4', e5'⟩ := own_at r2 hl
  rw [e1] at e1'
  cases e1'
  exact r2.upd hl e1 e4' e5' ⟨_, rfl, g1⟩
theorem q_mth {i : Nat} {m : Mt} {es : E} {D : Ends} {σ : L2.St} {H : Hp} (h : TSx X cf gl fu (.mth i m es) D σ H) : tDrop (tMt (wo X) cf gl i m es) D σ H := by
  obtain ⟨H0, L, F, env, o, r, he, q⟩ := h
  unfold evS at he
  simp only [Option.bind_eq_some_iff, Option.map_eq_some_iff] at he
  obtain ⟨l, hl, cs, hc, rr, hm, rfl⟩ := he
  exact q_mt r hl hc hm fun F1 H1 w s r1 _ => q _ _ F1 s r1
theorem q_mthS {j i : Nat} {m : Mt} {es : E} {D : Ends} {σ : L2.St} {H : Hp} (h : TSx X cf gl fu (.mthS j i m es) D σ H) : tAsg (tMt (wo X) cf gl i m es) (gName j) D σ H := by
  obtain ⟨H0, L, F, env, o, r, he, q⟩ := h
  unfold evS at he
  simp only [Option.bind_eq_some_iff] at he
  obtain ⟨l, hl, cs, hc, rr, hm, he⟩ := he
  split at he
  · rename_i hj
    cases he
    exact q_mt r hl hc hm fun F1 H1 w s r1 g => q _ _ F1 s (r1.setV (by rw [List.length_set]; exact hj.1) g)
  · cases he
theorem _root_.L2.MtM.r {id : String} {r : V → List V → Hp → VK → Prop} (h : MtM X id r) : MtR X id r := h
theorem s_V (G : Good Z cf gl sc fk X) {i : Nat} {x : Expr} (h : chV Z i sc x = true) : PE X x (tVar i) := by
  cases x <;> first | (cases h; done) | exact s_name G h
theorem chV_nm {i : Nat} {x : Expr} (h : chV Z i sc x = true) : ∃ n p, x = .Name n p := by
  cases x <;> first | (cases h; done) | exact ⟨_, _, rfl⟩
theorem chN_ok (G : Good Z cf gl sc fk X) {i : Nat} {x : Str} {p : Pos} (h : chN Z i sc fk (.Name x p) = true) : X.N[i]? = some x ∧ Loc X.env.scope x ∧ (X.fn x = true ∨ X.env.scope.names.lookup x = some .local) := by
  unfold chN at h
  simp only [Bool.and_eq_true, decide_eq_true_eq] at h
  obtain ⟨h1, h2⟩ := stor_ok h.2
  exact ⟨by rw [G.hN]; exact h.1, by rw [G.hsc]; exact h1, by rw [G.hsc, G.hfn]; exact h2⟩
theorem s_bm0 {id : String} {m : Mt} {i : Nat} {n : Str} {a : Str} {p ap cp : Pos} (slot : Slot "list" a id) (hty : typeOf (.builtin id) = pure (.type "method_descriptor")) (hm : MtR X id (rMt m)) (ho : PE X (.Name n p) (tVar i)) (hline : (ap.endLine == cp.line) = true) :
    PE X (.Call (.Attribute (.Name n p) a ap) [] [] cp) (tMt (wo X) cf gl i m .nil) :=
  (pe_bm0 PySem.F.plainAttrs_list slot hty hm ho rfl hline).imp fun σ H Q ⟨q, vs, e1, e2, H0, L, F, env, cs, r, hc, g⟩ => by
    unfold evL at hc
    cases hc
    exact ⟨_, e1, .inl ⟨rfl, vs, SqL.of e2⟩, g [] H F (Ext.refl r.fh) rfl⟩
theorem s_bm {id : String} {m : Mt} {i : Nat} {n : Str} {a : Str} {p ap cp : Pos} {es : E} {x : Expr} {xs : List Expr} (slot : Slot "list" a id) (hty : typeOf (.builtin id) = pure (.type "method_descriptor")) (hm : MtR X id (rMt m)) (ho : PE X (.Name n p) (tVar i)) (hline : (ap.endLine == cp.line) = true)
    (ha : PA X (x :: xs) (tA (wo X) cf gl es)) (hx : okX x = true) (hxs : xs.all okX = true) (hn : xs.length ≤ 1) :
    PE X (.Call (.Attribute (.Name n p) a ap) (x :: xs) [] cp) (tMt (wo X) cf gl i m es) := by
  refine (pe_bm PySem.F.plainAttrs_list slot hty hm ho ha rfl ?_ hline (ok_star hx xs X.env) (star_none hxs cp X.env)).imp fun σ H Q ⟨q, vs, e1, e2, g⟩ => ⟨_, e1, .inl ⟨rfl, vs, SqL.of e2⟩, g⟩
  cases xs with
  | nil => rw [ok_star hx]; rfl
  | cons y ys =>
    cases ys with
    | nil =>
      simp only [List.all_cons, Bool.and_eq_true] at hxs
      rw [ok_star hx, ok_star hxs.1]
      rfl
    | cons _ _ => simp at hn
theorem s_mth (G : Good Z cf gl sc fk X) {i : Nat} {m : Mt} {es : E} {x : Expr} (h : chM Z i m es sc fk x = true) (ih : QL Z cf gl es) : PE X x (tMt (wo X) cf gl i m es) ∧ noBlk x = true ∧ ∃ f xs p, x = .Call f xs [] p := by
  unfold chM at h
  split at h
  · rename_i o a ap xs cp
    simp only [Bool.and_eq_true, decide_eq_true_eq, beq_iff_eq] at h
    obtain ⟨⟨⟨⟨rfl, h2⟩, h3⟩, h4⟩, h5⟩ := h
    refine ⟨?_, rfl, _, _, _, rfl⟩
    have ho := s_V G h2
    obtain ⟨n, p, rfl⟩ := chV_nm h2
    obtain ⟨oks, pa, _⟩ := ih X sc fk xs G h3
    have hl : (ap.endLine == cp.line) = true := by rw [h5]; exact beq_self_eq_true _
    cases xs with
    | nil =>
      cases chL_nil h3
      cases m <;> first | (simp [Mt.n] at h4; done) | skip
      · exact s_bm0 PySem.F.slot_list_pop PySem.F.type_list_pop mt_pop.r ho hl
      · exact s_bm0 PySem.F.slot_list_reverse PySem.F.type_list_reverse mt_reverse.r ho hl
      · exact s_bm0 PySem.F.slot_list_clear PySem.F.type_list_clear mt_clear.r ho hl
    | cons x xs =>
      rw [List.all_cons, Bool.and_eq_true] at oks
      have hn : xs.length ≤ 1 := by cases m <;> simp [Mt.n] at h4 <;> simp [h4]
      cases m <;> first | (simp [Mt.n] at h4; done) | skip
      · exact s_bm PySem.F.slot_list_append PySem.F.type_list_append mt_append.r ho hl pa oks.1 oks.2 hn
      · exact s_bm PySem.F.slot_list_extend PySem.F.type_list_extend mt_extend.r ho hl pa oks.1 oks.2 hn
      · exact s_bm PySem.F.slot_list_pop PySem.F.type_list_pop mt_popAt.r ho hl pa oks.1 oks.2 hn
      · exact s_bm PySem.F.slot_list_insert PySem.F.type_list_insert mt_insert ho hl pa oks.1 oks.2 hn
  · cases h
theorem locl_eq {t : Str} : locl sc t = (sc.names.lookup t == some .local) := by
  unfold locl
  cases sc.names.lookup t with
  | none => rfl
  | some k => cases k <;> rfl
theorem swaps_eq (G : GoodS Z cf gl sc fk X) {y : Expr} (hy : okX y = true) {t : Str} {p : Pos} {line : Nat} : swapsWith y (some (.Name t p)) line X.env = pure (swB sc t p y) := by
  have hk : X.env.blockKind = .function := by
    unfold Env.blockKind
    rw [G.hsc, G.knd]
    rfl
  cases y <;> first | (cases hy; done) | rfl | skip
  unfold swapsWith swB
  simp only [hk, locl_eq]
  have e : X.env.kindOf t = sc.names.lookup t := by rw [← G.hsc]; rfl
  rw [e]
  rfl
theorem swaps_no {y : Expr} (hy : okX y = true) (n : noBlk y = true) {t : Option Expr} {line : Nat} {env : PySem.Env} : swapsWith y t line env = pure false := by
  cases y <;> first | (cases hy; done) | (cases n; done) | rfl
theorem swapped_no {t : Expr} {y : Expr} (hy : okX y = true) (n : isTupX y = false) {env : PySem.Env} : swappedStores [t] y env = pure none := by
  cases t <;> cases y <;> first | (cases hy; done) | (cases n; done) | rfl
theorem ok_assign {x : Expr} (h : okX x = true) {o : Expr} {pos : Pos} {env : PySem.Env} : ∀ v, assign (.Subscript o x pos) env v = (do
      let ov ← holding [v] (eval o env)
      let iv ← holding [v, ov] (eval x env)
      standAt pos
      holding [v, ov, iv] (setItem ov iv v)
      release [v, ov, iv] []) := by
  intro v
  cases x <;> first | rfl | cases h
theorem ok_aug {x : Expr} (h : okX x = true) : ∀ ov iv new, augStore x ov iv new = (do holding [new, ov, iv] (setItem ov iv new); release [new, ov, iv] []; pure .next) := by
  intros
  cases x <;> first | rfl | cases h
end
end My
end

section
set_option Elab.async false
set_option linter.all false
set_option maxRecDepth 100000
set_option maxHeartbeats 4000000
/-! Sound10: the induction over statements. -/
namespace My
open PySem PySem.Spec L2 PyProof.Rows
section
variable {cf : CF} {gl : Nat → Option D} {fu : Nat} {Z : Sg}
def QS (Z : Sg) (cf : CF) (gl : Nat → Option D) (fu : Nat) (s : S) : Prop := ∀ (X : Cx) sc fk x, GoodS Z cf gl sc fk X → chS Z s sc fk x = true → PS X x (TSx X cf gl fu s)
def QSs (Z : Sg) (cf : CF) (gl : Nat → Option D) (fu : Nat) (s : S) : Prop := ∀ (X : Cx) sc fk xs, GoodS Z cf gl sc fk X → chSs Z s sc fk xs = true → PSs X xs (TSx X cf gl fu s)
theorem noS {s : S} (h : ∀ sc fk x, chS Z s sc fk x = false) : QS Z cf gl fu s := fun X sc fk x G q => by rw [h] at q; cases q
theorem noSs {s : S} (h : ∀ sc fk xs, chSs Z s sc fk xs = false) : QSs Z cf gl fu s := fun X sc fk xs G q => by rw [h] at q; cases q
variable {X : Cx} {sc : Scope} {fk : Str → Bool}
theorem s_setC (G : GoodS Z cf gl sc fk X) {i : Nat} {e : E} {n : Str} {p sp : Pos} {y : Expr} (hn : chN Z i sc fk (.Name n p) = true) (hy : chE Z e sc fk y = true) : PS X (.Assign [.Name n p] y sp) (tAsg (TEx X cf gl e) (gName i)) := by
  have ok := chE_ok hy
  obtain ⟨h1, h2, h3⟩ := chN_ok G.toGood hn
  have sw := swaps_eq (t := n) (p := p) (line := sp.line) G ok
  cases hs : swB sc n p y with
  | false =>
    rw [hs] at sw
    exact ps_set G.nd h1 h2 ((soundE Z cf gl e).1 X sc fk y G.toGood hy ok).1 sw h3
  | true =>
    rw [hs] at sw
    have hl : X.env.scope.names.lookup n = some .local := by
      have : locl sc n = true := by
        unfold swB at hs
        split at hs
        · simp only [Bool.and_eq_true] at hs
          exact hs.1.1
        · cases hs
      rw [locl_eq, beq_iff_eq] at this
      rw [G.hsc]
      exact this
    unfold chE at hy
    split at hy <;> first | (simp [swB] at hs; done) | (cases hy; done) | skip
    rename_i own t it ifs elt y tg iter xs scope pos
    simp only [Bool.and_eq_true] at hy
    obtain ⟨⟨⟨⟨⟨⟨q1, q2⟩, q3⟩, q4⟩, q5⟩, q6⟩, q7⟩ := hy
    have ho : (ownN Z own).map (·.2) = own := by unfold ownN; rw [List.map_map]; exact (List.map_congr_left fun _ _ => rfl).trans (List.map_id own)
    have hix : ∀ i ∈ t.ix, i ∈ own := fun i hi => by
      rw [List.all_eq_true] at q5
      simpa using q5 i hi
    have P : PS X (.Assign [.Name n p] (.ListComp y [⟨tg, iter, xs, 0⟩] scope pos) sp) (tAsg (tLc (tI (wo X) cf gl false it) (tG (wo X) t) (tF (wo X) cf gl ifs) (TEx X cf gl elt) ((ownN Z own).map (·.2))) (gName i)) :=
      ps_setLc (own := ownN Z own) G.calm G.nd h1 hl sw ((soundE Z cf gl it).2.2.2 X sc fk false tg iter G.toGood q2 q3) (blkOk_by (by rw [G.hN, G.hsc]; exact q1))
        (fun s H C cl fp => (s_T (G.toGood.blk s H scope C cl fp) t).1 tg q4)
        (fun s H C cl fp => (soundE Z cf gl ifs).2.2.1 _ _ _ xs (G.toGood.blk s H scope C cl fp) q6 (chF_ok q6))
        (fun s H C cl fp => ((soundE Z cf gl elt).1 _ _ _ y (G.toGood.blk s H scope C cl fp) q7 (chE_ok q7)).1) (ok_fold q3 X.env)
    rw [ho] at P
    exact P.imp fun D σ H q => r_comp hix q
theorem s_ret (G : GoodS Z cf gl sc fk X) {e : E} {y : Expr} {p : Pos} (hy : chE Z e sc fk y = true) : PS X (.Return (some y) p) (TSx X cf gl fu (.ret e)) := by
  have p1 : PS X (.Return (some y) p) (tRet (TEx X cf gl e)) := ps_ret ((soundE Z cf gl e).1 X sc fk y G.toGood hy (chE_ok hy)).1
  have p2 : PS X (.Return (some y) p) (fun D σ H => ∃ i, isVar e = some i ∧ tRet (tVar i) D σ H) := by
    refine ⟨fun pins s σ H D I ⟨i, hi, q⟩ => ?_⟩
    cases e <;> simp [isVar] at hi
    subst hi
    cases y <;> first | (cases hy; done) | exact (ps_ret (s_name G.toGood hy)).run pins s σ H D I q
  exact (p1.or p2).imp fun D σ H q => q_ret q
theorem swaps_no1 {y : Expr} (hy : okX y = true) (n : noBlk y = true) {t : Expr} {line : Nat} {env : PySem.Env} : swapsWithSole [t] y line env = pure false := swaps_no hy n
theorem i_set {f g : Expr → Bool} {x : Stmt} (h : isSet f g x = true) : ∃ t y p, x = .Assign [t] y p ∧ f t = true ∧ g y = true := by
  unfold isSet at h
  split at h
  · rw [Bool.and_eq_true] at h; exact ⟨_, _, _, rfl, h.1, h.2⟩
  · cases h
theorem i_aug {f : Operator → Bool} {g k : Expr → Bool} {x : Stmt} (h : isAug f g k x = true) : ∃ t op y p, x = .AugAssign t op y p ∧ f op = true ∧ g t = true ∧ k y = true := by
  unfold isAug at h
  split at h
  · simp only [Bool.and_eq_true] at h; exact ⟨_, _, _, _, rfl, h.1.1, h.1.2, h.2⟩
  · cases h
theorem i_exp {f : Expr → Bool} {x : Stmt} (h : isExp f x = true) : ∃ y p, x = .Expr y p ∧ f y = true := by
  unfold isExp at h
  split at h
  · exact ⟨_, _, rfl, h⟩
  · cases h
theorem i_if {f : Expr → Bool} {g k : List Stmt → Bool} {x : Stmt} (h : isIf f g k x = true) : ∃ y p q sp, x = .If y p q sp ∧ f y = true ∧ g p = true ∧ k q = true := by
  unfold isIf at h
  split at h
  · simp only [Bool.and_eq_true] at h; exact ⟨_, _, _, _, rfl, h.1.1, h.1.2, h.2⟩
  · cases h
theorem i_whl {f : Expr → Bool} {g : List Stmt → Bool} {x : Stmt} (h : isWhl f g x = true) : ∃ y p sp, x = .While y p [] sp ∧ f y = true ∧ g p = true := by
  unfold isWhl at h
  split at h
  · simp only [Bool.and_eq_true] at h; exact ⟨_, _, _, rfl, h.1, h.2⟩
  · cases h
theorem i_for {f : Expr → Bool} {m : Expr → Expr → Bool} {g k : List Stmt → Bool} {x : Stmt} (h : isFor f m g k x = true) : ∃ tg y p q sp, x = .For tg y p q sp ∧ f tg = true ∧ m tg y = true ∧ okX y = true ∧ g p = true ∧ k q = true := by
  unfold isFor at h
  split at h
  · simp only [Bool.and_eq_true] at h; exact ⟨_, _, _, _, _, rfl, h.1.1.1.1, h.1.1.1.2, h.1.1.2, h.1.2, h.2⟩
  · cases h
theorem i_ret {f : Expr → Bool} {x : Stmt} (h : isRet f x = true) : ∃ y p, x = .Return (some y) p ∧ f y = true := by
  unfold isRet at h
  split at h
  · exact ⟨_, _, rfl, h⟩
  · cases h
theorem i_retN {x : Stmt} (h : isRetN x = true) : ∃ p, x = .Return none p := by
  unfold isRetN at h
  split at h
  · exact ⟨_, rfl⟩
  · cases h
theorem i_brk {x : Stmt} (h : isBrk x = true) : ∃ p, x = .Break p := by
  unfold isBrk at h
  split at h
  · exact ⟨_, rfl⟩
  · cases h
theorem i_cnt {x : Stmt} (h : isCnt x = true) : ∃ p, x = .Continue p := by
  unfold isCnt at h
  split at h
  · exact ⟨_, rfl⟩
  · cases h
theorem i_pass {x : Stmt} (h : isPass x = true) : ∃ p, x = .Pass p := by
  unfold isPass at h
  split at h
  · exact ⟨_, rfl⟩
  · cases h
theorem i_str {x : Expr} (h : isStrX x = true) : ∃ s k p, x = .Constant (.str s) k p := by
  unfold isStrX at h
  split at h
  · exact ⟨_, _, _, rfl⟩
  · cases h
theorem i_tup {f : Expr → Bool} {x : Expr} (h : isTupT f x = true) : ∃ es k p, x = .Tuple es k p ∧ f (.Tuple es k p) = true := by
  unfold isTupT at h
  split at h
  · exact ⟨_, _, _, rfl, h⟩
  · cases h
theorem i_sub {f g : Expr → Bool} {x : Expr} (h : isSub f g x = true) : ∃ o y p, x = .Subscript o y p ∧ f o = true ∧ g y = true ∧ okX y = true := by
  unfold isSub at h
  split at h
  · simp only [Bool.and_eq_true] at h; exact ⟨_, _, _, rfl, h.1.1, h.1.2, h.2⟩
  · cases h
theorem i_N {i : Nat} {t : Expr} (h : chN Z i sc fk t = true) : ∃ n p, t = .Name n p := by
  unfold chN at h
  split at h
  · exact ⟨_, _, rfl⟩
  · cases h
theorem soundS (Z : Sg) (cf : CF) (gl : Nat → Option D) (fu : Nat) : ∀ s : S, QS Z cf gl fu s ∧ QSs Z cf gl fu s := by
  intro s
  have E1 := fun (e : E) (X : Cx) sc fk y (G : GoodS Z cf gl sc fk X) (h : chE Z e sc fk y = true) => (soundE Z cf gl e).1 X sc fk y G.toGood h (chE_ok h)
  induction s with
  | nil =>
    refine ⟨noS fun _ _ _ => rfl, fun X sc fk xs G h => ?_⟩
    cases xs with
    | nil => exact pss_nil.imp fun D σ H q => q_nil q
    | cons _ _ => cases h
  | cons s r ihs ihr =>
    refine ⟨noS fun _ _ _ => rfl, fun X sc fk xs G h => ?_⟩
    have h : (if s.isFrz then chSs Z r sc fk xs else chOne (chS Z s sc fk) (chSs Z r sc fk) xs) = true := h
    split at h
    · rename_i hf
      cases s <;> first | (cases hf; done) | skip
      exact (ihr.2 X sc fk xs G h).imp fun D σ H q => q_frz q
    · cases xs with
      | nil => cases h
      | cons x xs =>
        have h : (chS Z s sc fk x && chSs Z r sc fk xs) = true := h
        rw [Bool.and_eq_true] at h
        exact (pss_cons (ihs.1 X sc fk x G h.1) (ihr.2 X sc fk xs G h.2)).imp fun D σ H q => q_cons q
  | frz i => exact ⟨noS fun _ _ _ => rfl, noSs fun _ _ xs => rfl⟩
  | lock i s ih => exact ⟨fun X sc fk x G h => (ih.1 X sc fk x G h).imp fun D σ H q => q_lock q, noSs fun _ _ xs => rfl⟩
  | set i e =>
    refine ⟨fun X sc fk x G h => ?_, noSs fun _ _ xs => rfl⟩
    obtain ⟨t, y, sp, rfl, h1, h2⟩ := i_set h
    obtain ⟨n, p, rfl⟩ := i_N h1
    exact (s_setC G h1 h2).imp fun D σ H q => q_set q
  | unp t e =>
    refine ⟨fun X sc fk x G h => ?_, noSs fun _ _ xs => rfl⟩
    obtain ⟨tg, y, sp, rfl, h1, h2⟩ := i_set h
    obtain ⟨es, k, p, rfl, h1⟩ := i_tup h1
    simp only [Bool.and_eq_true, Bool.not_eq_true'] at h2
    obtain ⟨⟨h2, h3⟩, h4⟩ := h2
    have ok := chE_ok h2
    exact (ps_asg (E1 e X sc fk y G h2).1 ((s_T G.toGood t).1 _ h1) (swaps_no1 ok h4) (swapped_no ok h3)).imp fun D σ H q => q_unp q
  | par i j a b => exact ⟨noS fun _ _ x => rfl, noSs fun _ _ xs => rfl⟩
  | setIx i k e =>
    refine ⟨fun X sc fk x G h => ?_, noSs fun _ _ xs => rfl⟩
    obtain ⟨tg, y, sp, rfl, h1, h2⟩ := i_set h
    obtain ⟨o, z, ip, rfl, h1, h3, h4⟩ := i_sub h1
    rw [Bool.and_eq_true] at h2
    have ok := chE_ok h2.1
    exact (ps_asg (E1 e X sc fk y G h2.1).1 (pg_sub (s_V G.toGood h1) (E1 k X sc fk z G h3).1 set_list (ok_assign h4)) (swaps_no1 ok h2.2) (by cases y <;> first | (cases ok; done) | rfl)).imp fun D σ H q => q_setIx q
  | aug i o e =>
    refine ⟨fun X sc fk x G h => ?_, noSs fun _ _ xs => rfl⟩
    obtain ⟨t, op, y, sp, rfl, h1, h2, h3⟩ := i_aug h
    rw [Bool.and_eq_true] at h2
    obtain ⟨n, p, rfl⟩ := i_N h2.2
    obtain ⟨k1, k2, k3⟩ := chN_ok G.toGood h2.2
    exact (ps_aug G.nd k1 k2 (E1 e X sc fk y G h3).1 (ip_ag h1) k3).imp fun D σ H q => q_aug q
  | augIx i k o e =>
    refine ⟨fun X sc fk x G h => ?_, noSs fun _ _ xs => rfl⟩
    obtain ⟨t, op, y, sp, rfl, h1, h2, h5⟩ := i_aug h
    obtain ⟨v, z, ip, rfl, h2, h3, h4⟩ := i_sub h2
    exact (ps_augS (s_V G.toGood h2) (E1 k X sc fk z G h3).1 get_list (E1 e X sc fk y G h5).1 (ip_ag h1) set_list (ok_aug h4)).imp fun D σ H q => q_augIx q
  | mth i m es =>
    refine ⟨fun X sc fk x G h => ?_, noSs fun _ _ xs => rfl⟩
    obtain ⟨y, sp, rfl, h⟩ := i_exp h
    obtain ⟨p, n, f, xs, cp, rfl⟩ := s_mth G.toGood h (soundE Z cf gl es).2.1
    exact (ps_expr p).imp fun D σ H q => q_mth q
  | mthS j i m es =>
    refine ⟨fun X sc fk x G h => ?_, noSs fun _ _ xs => rfl⟩
    obtain ⟨t, y, sp, rfl, h1, h2⟩ := i_set h
    obtain ⟨n, p, rfl⟩ := i_N h1
    obtain ⟨pe, n, f, xs, cp, rfl⟩ := s_mth G.toGood h2 (soundE Z cf gl es).2.1
    obtain ⟨k1, k2, k3⟩ := chN_ok G.toGood h1
    exact (ps_set G.nd k1 k2 pe rfl k3).imp fun D σ H q => q_mthS q
  | ite c a b iha ihb =>
    refine ⟨fun X sc fk x G h => ?_, noSs fun _ _ xs => rfl⟩
    obtain ⟨y, p, q, sp, rfl, h1, h2, h3⟩ := i_if h
    exact (ps_if (E1 c X sc fk y G h1).2 (iha.2 X sc fk p G h2) (ihb.2 X sc fk q G h3)).imp fun D σ H q => q_ite q
  | whl c b ih =>
    refine ⟨fun X sc fk x G h => ?_, noSs fun _ _ xs => rfl⟩
    obtain ⟨y, p, sp, rfl, h1, h2⟩ := i_whl h
    exact (ps_while G.ps (E1 c X sc fk y G h1).2 (ih.2 X sc fk p G h2)).imp fun D σ H q => q_whl q
  | forS t it b e ihb ihe =>
    refine ⟨fun X sc fk x G h => ?_, noSs fun _ _ xs => rfl⟩
    obtain ⟨tg, y, p, q, sp, rfl, h1, h2, h3, h4, h5⟩ := i_for h
    exact (ps_forE G.ps G.calm ((soundE Z cf gl it).2.2.2 X sc fk true tg y G.toGood h2 h3) ((s_T G.toGood t).1 tg h1) (ihb.2 X sc fk p G h4) (ihe.2 X sc fk q G h5) (ok_fold h3 X.env)).imp fun D σ H q => q_for q
  | ret e =>
    refine ⟨fun X sc fk x G h => ?_, noSs fun _ _ xs => rfl⟩
    obtain ⟨y, sp, rfl, h⟩ := i_ret h
    exact s_ret G h
  | retN =>
    refine ⟨fun X sc fk x G h => ?_, noSs fun _ _ xs => rfl⟩
    obtain ⟨p, rfl⟩ := i_retN h
    exact ps_retN.imp fun D σ H q => q_retN q
  | brk =>
    refine ⟨fun X sc fk x G h => ?_, noSs fun _ _ xs => rfl⟩
    obtain ⟨p, rfl⟩ := i_brk h
    exact ps_break.imp fun D σ H q => q_brk q
  | cnt =>
    refine ⟨fun X sc fk x G h => ?_, noSs fun _ _ xs => rfl⟩
    obtain ⟨p, rfl⟩ := i_cnt h
    exact ps_continue.imp fun D σ H q => q_cnt q
  | pass =>
    refine ⟨fun X sc fk x G h => ?_, noSs fun _ _ xs => rfl⟩
    obtain ⟨p, rfl⟩ := i_pass h
    exact ps_pass.imp fun D σ H q => q_pass q
  | doc =>
    refine ⟨fun X sc fk x G h => ?_, noSs fun _ _ xs => rfl⟩
    obtain ⟨y, sp, rfl, h⟩ := i_exp h
    obtain ⟨s, k, p, rfl⟩ := i_str h
    exact ps_doc.imp fun D σ H q => q_doc q
  | drop e =>
    refine ⟨fun X sc fk x G h => ?_, noSs fun _ _ xs => rfl⟩
    obtain ⟨y, sp, rfl, h6⟩ := i_exp h
    rw [Bool.and_eq_true] at h6
    exact (ps_expr (E1 e X sc fk y G h6.1).1 (swaps_no (chE_ok h6.1) h6.2)).imp fun D σ H q => q_drop q
end
end My
end

section
set_option Elab.async false
set_option linter.all false
set_option maxRecDepth 100000
set_option maxHeartbeats 2000000
/-! Prog: defs, all at once, by the number of calls. -/
namespace My
open PySem PySem.Spec L2 PyProof.Rows
structure Df where
  nm : Str
  ps : List Str
  N : List Str
  body : S
def finO : Option Out → Option C
  | some (.ret c) => some c
  | some (.nx _) => some (.val, .non)
  | _ => none
def runF (cf : CF) (gl : Nat → Option D) (fu : Nat) (d : Df) (cs : List C) : Option C :=
  if cs.length = d.ps.length then finO (evS cf gl fu d.body (cs.map some ++ List.replicate (d.N.length - cs.length) none)) else none
def callF (T : Nat → Option Df) (gl : Nat → Option D) (fu : Nat) : Nat → CF
  | 0 => fun _ _ => none
  | k + 1 => fun f cs => (T f).bind fun d => runF (callF T gl fu k) gl fu d cs
theorem AL.get {W : Wo} {F H : Hp} : ∀ {cs : List C} {vs : List V} {i : Nat} {c : C}, AL W F H cs vs → cs[i]? = some c → ∃ v, vs[i]? = some v ∧ ((c.1 = .val ∧ Rp W F c.2 v) ∨ (c.1 = .bor ∧ Bo W F H c.2 v))
  | [], _, i, c, _, h => by simp at h
  | d :: cs, _, 0, c, ⟨v, r, rfl, h1, _⟩, h => by
    simp only [List.getElem?_cons_zero, Option.some.injEq] at h
    subst h
    exact ⟨v, rfl, h1⟩
  | d :: cs, _, i + 1, c, ⟨v, r, rfl, _, h2⟩, h => by
    rw [List.getElem?_cons_succ] at h
    obtain ⟨u, e1, e2⟩ := AL.get h2 h
    exact ⟨u, by rw [List.getElem?_cons_succ]; exact e1, e2⟩
theorem r_start {W : Wo} {F H : Hp} {cs : List C} {vs : List V} {N : List Str} (fh : Same F H) (al : AL W F H cs vs) :
    R W H ⟨fun _ => none, H⟩ F H (cs.map some ++ List.replicate (N.length - cs.length) none) (start N vs) := by
  have hl := al.length
  have out : ∀ {i : Nat} {c : C}, (cs.map some ++ List.replicate (N.length - cs.length) none)[i]? = some (some c) → cs[i]? = some c := fun {i c} h => by
    rw [List.getElem?_append] at h
    split at h
    · rw [List.getElem?_map] at h
      cases q : cs[i]? with
      | none => rw [q] at h; cases h
      | some d => rw [q] at h; cases h; rfl
    · rw [List.getElem?_replicate] at h
      split at h <;> cases h
  have at' : ∀ {i : Nat} {v : V}, vs[i]? = some v → (start N vs)[i]? = some (some v) := fun {i v} h => by
    unfold L2.start
    have hi := (List.getElem?_eq_some_iff.mp h).1
    rw [List.getElem?_append_left (by rw [List.length_map]; exact hi), List.getElem?_map, h]
    rfl
  refine ⟨fh, Same.refl _, ?_, fun i c e => ?_, fun i j d e p h1 h2 h3 h4 => ?_, Same.refl _, fun j q e => nomatch e⟩
  · unfold L2.start
    rw [List.length_append, List.length_append, List.length_map, List.length_map, List.length_replicate, List.length_replicate, hl]
  · have e := out e
    obtain ⟨v, e1, e2⟩ := al.get e
    refine ⟨v, at' e1, ?_⟩
    obtain ⟨m, d⟩ := c
    rcases e2 with ⟨rfl, g⟩ | ⟨rfl, g⟩
    · exact g
    · exact g
  · obtain ⟨v, _, e2⟩ := al.get (out h1)
    rcases e2 with ⟨z, _⟩ | ⟨z, _⟩ <;> cases z
section
variable {P : Program} {w : World} {K : PySem.W.Frag} {mg : Str → Option Value} {base : Heap} {T : Nat → Option Df} {st : Nat → Stmt} {glN : Nat → Option Str} {bi : List Str} {gl : Nat → Option D} {fu : Nat}
/-- the whole text and its Df's say the same -/
structure TabOk (P : Program) (w : World) (K : PySem.W.Frag) (mg : Str → Option Value) (T : Nat → Option Df) (st : Nat → Stmt) (glN : Nat → Option Str) (bi : List Str) (gl : Nat → Option D) : Prop where
  fn : ∀ f d, T f = some d → ∃ a fd, Fun K d.nm d.nm (st f) a fd ∧ Binds K fd d.ps [] ∧ mg d.nm = some (.ref a)
  ch : ∀ f d, T f = some d → FnScope d.N d.ps (defScope (st f)) ∧ chSs ⟨d.N, fun g => (T g).map Df.nm, glN, bi⟩ d.body (defScope (st f)) (fun _ => true) (defBody (st f)) = true
  bi : ∀ x ∈ bi, mg x = none
  gl : ∀ j x, glN j = some x → ∃ d u v, gl j = some d ∧ mg x = some u ∧ RelV v u ∧ ∀ F, Rp ⟨P, w, K⟩ F d v
theorem all_ok (X : TabOk P w K mg T st glN bi gl) : ∀ k f d a fd, T f = some d → Fun K d.nm d.nm (st f) a fd → FnOk P w K mg base CX0 k a fd d.ps (spC ⟨P, w, K⟩ (callF T gl fu k f)) := by
  intro k
  induction k with
  | zero =>
    intro f d a fd hT F
    have no : ∀ vs H Q E, ¬ spC ⟨P, w, K⟩ (callF T gl fu 0 f) vs H Q E := fun vs H Q E ⟨F, cs, r, _, _, h, _⟩ => nomatch h
    exact ⟨fun vs H Q E h => absurd h (no vs H Q E), fun A outer s H args us vs Q E _ _ _ _ h => absurd h (no vs H Q E)⟩
  | succ k ih =>
    intro f d a fd hT F
    obtain ⟨S, ch⟩ := X.ch f d hT
    refine F.ok S (fun vs H Q E h => ?_) (fun cdv A outer s H vs Q E hr h => ?_)
    · obtain ⟨F, cs, r, _, al, h, _⟩ := h
      unfold callF at h
      simp only [hT, Option.bind_some] at h
      unfold runF at h
      split at h
      · rename_i hl
        rw [← hl, al.length]
      · cases h
    · obtain ⟨F, cs, r, fh, al, h, q⟩ := h
      unfold callF at h
      simp only [hT, Option.bind_some] at h
      unfold runF at h
      split at h
      · have G : GoodS ⟨d.N, fun g => (T g).map Df.nm, glN, bi⟩ (callF T gl fu k) gl (defScope (st f)) (fun _ => true) (cxOf CX0 P w K mg base d.N d.nm (defScope (st f)) a cdv A outer s H E).nox :=
          ⟨⟨rfl, S.nd, rfl, rfl, rfl, hr.mono (Nat.zero_le _), X.bi, fun g x hx => by
            obtain ⟨e, he, rfl⟩ := Option.map_eq_some_iff.mp hx
            obtain ⟨a', fd', F', b', m'⟩ := X.fn g e he
            exact ⟨a', fd', e.ps, k, m', F'.kp, b', hr, ih g e a' fd' he F'⟩, X.gl⟩, PassesOwn.never, S.kind⟩
        refine ⟨_, (soundS _ (callF T gl fu k) gl fu d.body).2 _ _ _ _ G ch, ?_⟩
        have r0 := r_start (N := d.N) fh al
        unfold finO at h
        split at h
        · rename_i c hc
          cases h
          exact ⟨H, _, F, _, _, r0, hc, fun v H' F' s h0 f' vo => q v H' F' ⟨s.ff, h0, f', s.nw⟩ vo⟩
        · rename_i e hc
          cases h
          exact ⟨H, _, F, _, _, r0, hc, fun σ' H' F' s r' => q .non H' F' ⟨s.ff, r'.h0, r'.fh, s.nw⟩ vnon⟩
        · cases h
      · cases h
/-- a law by its evaluation -/
def spLaw (K : PySem.W.Frag) : Sp := fun vs H Q _ => ∃ (a : Addr) (ns : List Int), vs = [.ref a] ∧ SqL K H a (ns.map V.int) ∧ ns.length ≤ 63 ∧ ∀ H', Q (.bl true) H'
theorem law_ok (X : TabOk P w K mg T st glN bi gl) {k f : Nat} {d : Df} {a : Addr} {fd : FuncData} (hT : T f = some d) (F : Fun K d.nm d.nm (st f) a fd)
    (h : ∀ ns : List Int, ns.length ≤ 63 → callF T gl fu k f [(.bor, .lst (ns.map D.int))] = some (.val, .bl true)) : FnOk P w K mg base CX0 k a fd d.ps (spLaw K) :=
  (all_ok X k f d a fd hT F).imp fun vs H Q E ⟨a, ns, e, hS, hn, q⟩ => by
    subst e
    refine ⟨fun _ => none, [(.bor, .lst (ns.map D.int))], _, fun _ _ z => (nomatch z), ⟨_, [], rfl, .inr ⟨rfl, a, _, rfl, hS, rpL_ints ns⟩, rfl⟩, h ns hn, fun v H' F' x vo => ?_⟩
    have z : v = V.bl true := (rp_bl (W := ⟨P, w, K⟩) (F := F')).mp vo
    rw [z]
    exact q H'
theorem walk_my {l : PySem.W.OpenLaw} {k : Nat} {q : Program} {loose : List Str} {XP : (Str → Option Value) → Heap → Prop} {YP : World → Heap → Prop} {d : DefRec} {K : Params → PySem.W.Frag} (hn : l.most = some 63) (hdf : d.params.defaults = []) (hk : Room k callerA)
    (hY : ∀ (w : World) (h : Heap), YP w h → (K w.params).In h)
    (F : ∀ (w : World) (mg : Str → Option Value) (fa : Addr) (h : Heap), (K w.params).In h → h.Ns mainGlobals mg → mg d.name = some (.ref fa) →
      ∃ fd : FuncData, (∀ (s : Shared) (u : Value), BindsTo s fd ⟨[u], []⟩ [("script", u)]) ∧ ∀ base : Heap, (K w.params).In base → base.Ns mainGlobals mg → FnOk l.prog w (K w.params) mg base CX0 k fa fd ["script"] (spLaw (K w.params))) :
    PySem.W.WalkO q loose XP YP l.row.toRowW d [] (fun f vs => PySem.call f vs) :=
  L2.walk_of (n := 63) (k := k) (x := "script") (CX := fun _ => CX0) (sp := fun w => spLaw (K w.params)) hn (by decide) hdf hk hY F (fun _ _ a ns hl _ hS => ⟨a, ns, rfl, hS, hl, fun _ => rfl⟩) fun _ _ _ _ _ z => z
end
end My
end

section
set_option Elab.async false
set_option linter.all false
set_option maxRecDepth 100000
/-! EvL: evaluating step by step. -/
namespace My
open PySem
section
variable {cf : CF} {gl : Nat → Option D} {fu : Nat} {env : Sl}
/-! strict and lazy joints -/
def bin2 (o : Op2) : Option C → Option C → Option C
  | some x, some y => op2 o x.2 y.2
  | _, _ => none
def un1 (f : C → Option C) : Option C → Option C
  | some x => f x
  | none => none
def seqO (o : Option Out) (k : Sl → Option Out) : Option Out := match o with
  | some (.nx e) => k e
  | o => o
def iteO (c : Option Bool) (a b : Sl → Option Out) (env : Sl) : Option Out := match c with
  | some true => a env
  | some false => b env
  | none => none
def iteC (c : Option Bool) (a b : Sl → Option C) (env : Sl) : Option C := match c with
  | some true => a env
  | some false => b env
  | none => none
def andO (c : Option Bool) (k : Sl → Option Bool) (env : Sl) : Option Bool := match c with
  | some true => k env
  | some false => some false
  | none => none
def orO (c : Option Bool) (k : Sl → Option Bool) (env : Sl) : Option Bool := match c with
  | some true => some true
  | some false => k env
  | none => none
def blO (c : Option Bool) : Option C := match c with
  | some b => some (.val, .bl b)
  | none => none
def consC (a : Option C) (r : Option (List C)) : Option (List C) := match a, r with
  | some c, some cs => some (c :: cs)
  | _, _ => none
def mkL (m : M) (r : Option (List C)) : Option C := match r with
  | some cs => (match cs.mapM vl with
    | some ds => if ds.length ≤ SL then some (m, if m = .own then .lst ds else .tup ds) else none
    | none => none)
  | none => none
def callO (f : List C → Option C) (r : Option (List C)) : Option C := match r with
  | some cs => (match f (cs.map argM) with
    | some c => if c.1 = .val ∨ c.1 = .own then some c else none
    | none => none)
  | none => none
def biO (b : Bi) (r : Option (List C)) : Option C := match r with
  | some cs => biF b cs
  | none => none
def stN (i : Nat) (c : Option C) (env : Sl) : Option Out := match c with
  | some c => (stO i c env).map .nx
  | none => none
def retO (e : E) (c : Option C) (env : Sl) : Option Out := match c with
  | some c => some (.ret (retE e env c))
  | none => none
def sliceO (a : Option C) (i j : Option (Option Int)) : Option C := match a, i, j with
  | some x, some i, some j => slice x.2 i j
  | _, _, _ => none
theorem x_var {i : Nat} : ev cf gl (.var i) env = rdV env[i]? := rfl
theorem x_int {i : Int} : ev cf gl (.int i) env = some (.val, .int i) := rfl
theorem x_str {i : Str} : ev cf gl (.str i) env = some (.val, .str i) := rfl
theorem x_bl {i : Bool} : ev cf gl (.bl i) env = some (.val, .bl i) := rfl
theorem x_non : ev cf gl .non env = some (.val, .non) := rfl
theorem x_bin {o : Op2} {a b : E} : ev cf gl (.bin o a b) env = bin2 o (ev cf gl a env) (ev cf gl b env) := by
  rw [ev]; cases ev cf gl a env <;> cases ev cf gl b env <;> rfl
theorem x_and {es : E} : ev cf gl (.and es) env = blO (evAnd cf gl es env) := by
  rw [ev]; cases evAnd cf gl es env <;> rfl
theorem x_or {es : E} : ev cf gl (.or es) env = blO (evOr cf gl es env) := by
  rw [ev]; cases evOr cf gl es env <;> rfl
theorem x_andN : evAnd cf gl .nil env = some true := by rw [evAnd]
theorem x_orN : evOr cf gl .nil env = some false := by rw [evOr]
theorem x_andC {a r : E} : evAnd cf gl (.cons a r) env = andO (asB (ev cf gl a env)) (evAnd cf gl r) env := by
  rw [evAnd]
  cases ev cf gl a env with
  | none => rfl
  | some c => obtain ⟨m, d⟩ := c; cases d <;> first | rfl | (rename_i b; cases b <;> rfl)
theorem x_orC {a r : E} : evOr cf gl (.cons a r) env = orO (asB (ev cf gl a env)) (evOr cf gl r) env := by
  rw [evOr]
  cases ev cf gl a env with
  | none => rfl
  | some c => obtain ⟨m, d⟩ := c; cases d <;> first | rfl | (rename_i b; cases b <;> rfl)
theorem x_not {a : E} : ev cf gl (.not a) env = blO ((asB (ev cf gl a env)).map (!·)) := by
  rw [ev]
  cases ev cf gl a env with
  | none => rfl
  | some c => obtain ⟨m, d⟩ := c; cases d <;> rfl
theorem x_neg {a : E} : ev cf gl (.neg a) env = un1 (fun x => match x.2 with | .int i => some (.val, .int (-i)) | _ => none) (ev cf gl a env) := by
  rw [ev]; cases ev cf gl a env <;> rfl
theorem x_ite {c a b : E} : ev cf gl (.ite c a b) env = iteC (asB (ev cf gl c env)) (ev cf gl a) (ev cf gl b) env := by
  rw [ev]
  cases ev cf gl c env with
  | none => rfl
  | some c => obtain ⟨m, d⟩ := c; cases d <;> first | rfl | (rename_i b; cases b <;> rfl)
theorem x_lst {es : E} : ev cf gl (.lst es) env = mkL .own (evL cf gl es env) := by
  rw [ev]
  cases evL cf gl es env with
  | none => rfl
  | some cs => show ((cs.mapM vl).bind _) = _; unfold mkL; simp only []; cases cs.mapM vl <;> rfl
theorem x_tup {es : E} : ev cf gl (.tup es) env = mkL .val (evL cf gl es env) := by
  rw [ev]
  cases evL cf gl es env with
  | none => rfl
  | some cs => show ((cs.mapM vl).bind _) = _; unfold mkL; simp only []; cases cs.mapM vl <;> rfl
theorem x_nil : evL cf gl .nil env = some [] := by rw [evL]
theorem x_cons {e es : E} : evL cf gl (.cons e es) env = consC (ev cf gl e env) (evL cf gl es env) := by
  rw [evL]; cases ev cf gl e env <;> cases evL cf gl es env <;> rfl
theorem x_call {f : Nat} {es : E} : ev cf gl (.call f es) env = callO (cf f) (evL cf gl es env) := by
  rw [ev]
  cases evL cf gl es env with
  | none => rfl
  | some cs => show ((cf f (cs.map argM)).bind _) = _; unfold callO; simp only []; cases cf f (cs.map argM) <;> rfl
theorem x_bi {b : Bi} {es : E} : ev cf gl (.bi b es) env = biO b (evL cf gl es env) := by
  rw [ev]; cases evL cf gl es env <;> rfl
theorem x_slc {a lo hi : E} : ev cf gl (.slc a lo hi) env = sliceO (ev cf gl a env) (evO cf gl lo env) (evO cf gl hi env) := by
  rw [ev]; cases ev cf gl a env <;> cases evO cf gl lo env <;> cases evO cf gl hi env <;> rfl
theorem x_isi {t : Ty} {a : E} : ev cf gl (.isi t a) env = un1 (fun x => some (.val, .bl (isTy t x.2))) (ev cf gl a env) := by
  rw [ev]; cases ev cf gl a env <;> rfl
theorem x_oN : evO cf gl .nil env = some none := by rw [evO]
theorem x_o {e : E} (h : intE e = true) : evO cf gl e env = (ev cf gl e env).bind optI := evO_of h
theorem x_sNil : evS cf gl fu .nil env = some (.nx env) := by rw [evS]
theorem x_sCons {s r : S} : evS cf gl fu (.cons s r) env = seqO (evS cf gl fu s env) (evS cf gl fu r) := by
  rw [evS]
  cases evS cf gl fu s env with
  | none => rfl
  | some o => cases o <;> rfl
theorem x_set {i : Nat} {e : E} : evS cf gl fu (.set i e) env = stN i (ev cf gl e env) env := by
  rw [evS]; cases ev cf gl e env <;> rfl
theorem x_sIte {c : E} {a b : S} : evS cf gl fu (.ite c a b) env = iteO (asB (ev cf gl c env)) (evS cf gl fu a) (evS cf gl fu b) env := by
  rw [evS]
  cases asB (ev cf gl c env) with
  | none => rfl
  | some t => cases t <;> rfl
theorem x_ret {e : E} : evS cf gl fu (.ret e) env = retO e (ev cf gl e env) env := by
  rw [evS]; cases ev cf gl e env <;> rfl
theorem x_retN : evS cf gl fu .retN env = some (.ret (.val, .non)) := by rw [evS]
theorem x_brk : evS cf gl fu .brk env = some (.brk env) := by rw [evS]
theorem x_cnt : evS cf gl fu .cnt env = some (.cnt env) := by rw [evS]
theorem x_pass : evS cf gl fu .pass env = some (.nx env) := by rw [evS]
theorem x_doc : evS cf gl fu .doc env = some (.nx env) := by rw [evS]
/-! joints met -/
theorem j_bin {o : Op2} {m n : M} {d e : D} : bin2 o (some (m, d)) (some (n, e)) = op2 o d e := rfl
theorem j_un {f : C → Option C} {c : C} : un1 f (some c) = f c := rfl
theorem j_seq {e : Sl} {k : Sl → Option Out} : seqO (some (.nx e)) k = k e := rfl
theorem j_seqR {c : C} {k : Sl → Option Out} : seqO (some (.ret c)) k = some (.ret c) := rfl
theorem j_seqB {c : Sl} {k : Sl → Option Out} : seqO (some (.brk c)) k = some (.brk c) := rfl
theorem j_seqC {c : Sl} {k : Sl → Option Out} : seqO (some (.cnt c)) k = some (.cnt c) := rfl
theorem j_iteT {a b : Sl → Option Out} : iteO (some true) a b env = a env := rfl
theorem j_iteF {a b : Sl → Option Out} : iteO (some false) a b env = b env := rfl
theorem j_iteB {c : Bool} {a b : Sl → Option Out} : iteO (some c) a b env = if c then a env else b env := by cases c <;> rfl
theorem j_iteCT {a b : Sl → Option C} : iteC (some true) a b env = a env := rfl
theorem j_iteCF {a b : Sl → Option C} : iteC (some false) a b env = b env := rfl
theorem j_iteCB {c : Bool} {a b : Sl → Option C} : iteC (some c) a b env = if c then a env else b env := by cases c <;> rfl
theorem j_andT {k : Sl → Option Bool} : andO (some true) k env = k env := rfl
theorem j_andF {k : Sl → Option Bool} : andO (some false) k env = some false := rfl
theorem j_andB {c : Bool} {k : Sl → Option Bool} : andO (some c) k env = if c then k env else some false := by cases c <;> rfl
theorem j_orT {k : Sl → Option Bool} : orO (some true) k env = some true := rfl
theorem j_orF {k : Sl → Option Bool} : orO (some false) k env = k env := rfl
theorem j_orB {c : Bool} {k : Sl → Option Bool} : orO (some c) k env = if c then some true else k env := by cases c <;> rfl
theorem j_bl {b : Bool} : blO (some b) = some (.val, .bl b) := rfl
theorem j_cons {c : C} {cs : List C} : consC (some c) (some cs) = some (c :: cs) := rfl
theorem j_bi {b : Bi} {cs : List C} : biO b (some cs) = biF b cs := rfl
theorem j_call {f : List C → Option C} {cs : List C} {r : C} (h : f (cs.map argM) = some r) (h2 : r.1 = .val ∨ r.1 = .own) : callO f (some cs) = some r := by
  unfold callO; simp only [h, h2, if_true]
theorem j_asB {m : M} {b : Bool} : asB (some (m, .bl b)) = some b := rfl
theorem j_stV {i : Nat} {d : D} : stN i (some (.val, d)) env = if i < env.length then some (.nx (env.set i (some (.val, d)))) else none := by
  simp only [stN, stO]
  split <;> rfl
theorem j_stO {i : Nat} {d : D} : stN i (some (.own, d)) env = if i < env.length then some (.nx (env.set i (some (.own, d)))) else none := by
  simp only [stN, stO]
  split <;> rfl
theorem j_ret {e : E} {c : C} : retO e (some c) env = some (.ret (retE e env c)) := rfl
theorem j_sl {m : M} {d : D} {i j : Option Int} : sliceO (some (m, d)) (some i) (some j) = slice d i j := rfl
theorem j_tup {cs : List C} {ds : List D} (h : cs.mapM vl = some ds) (h2 : ds.length ≤ SL) : mkL .val (some cs) = some (.val, .tup ds) := by
  simp only [mkL, h, h2, if_true, reduceCtorEq, if_false]
theorem j_lst {cs : List C} {ds : List D} (h : cs.mapM vl = some ds) (h2 : ds.length ≤ SL) : mkL .own (some cs) = some (.own, .lst ds) := by
  simp only [mkL, h, h2, if_true]
/-! operators -/
theorem o_add {i j : Int} : op2 .add (.int i) (.int j) = some (.val, .int (i + j)) := rfl
theorem o_sub {i j : Int} : op2 .sub (.int i) (.int j) = some (.val, .int (i - j)) := rfl
theorem o_mulL {i j : Int} (h : -18446744073709551616 < i ∧ i < 18446744073709551616) : op2 .mul (.int i) (.int j) = some (.val, .int (i * j)) := by
  simp only [op2, opMul, h, true_or, and_self, if_true]
theorem o_mulR {i j : Int} (h : -18446744073709551616 < j ∧ j < 18446744073709551616) : op2 .mul (.int i) (.int j) = some (.val, .int (i * j)) := by
  simp only [op2, opMul, h, or_true, and_self, if_true]
theorem o_div {i j : Int} (h : 0 < j ∧ j < 1073741824) : op2 .fdiv (.int i) (.int j) = some (.val, .int (i / j)) := by
  simp only [op2, opDiv, h, and_self, if_true]
theorem o_mod {i j : Int} (h : 0 < j) : op2 .mod (.int i) (.int j) = some (.val, .int (i % j)) := by
  simp only [op2, opMod, h, if_true]
theorem o_pow : op2 .pow (.int 10) (.int 18) = some (.val, .int 1000000000000000000) := by
  simp only [op2, opPow]
  rw [if_pos (by decide)]
  rfl
theorem o_lt {i j : Int} : op2 .lt (.int i) (.int j) = some (.val, .bl (decide (i < j))) := rfl
theorem o_le {i j : Int} : op2 .le (.int i) (.int j) = some (.val, .bl (decide (i ≤ j))) := rfl
theorem o_gt {i j : Int} : op2 .gt (.int i) (.int j) = some (.val, .bl (decide (j < i))) := rfl
theorem o_ge {i j : Int} : op2 .ge (.int i) (.int j) = some (.val, .bl (decide (j ≤ i))) := rfl
theorem eqv_int (i j : Int) : PyData.eqv (.int i) (.int j) = decide (i = j) := by
  simp only [PyData.eqv]
  exact Bool.beq_eq_decide_eq _ _
theorem sh_int (i : Int) : SeqAt.shaped (.int i) = true := by simp [SeqAt.shaped, PyData.canLay0, PyData.depth]
theorem o_eq {i j : Int} : op2 .eq (.int i) (.int j) = some (.val, .bl (decide (i = j))) := by
  simp only [op2, eqD, D.py, Option.bind_some, sh_int, Bool.and_self, if_true, Option.map_some, eqv_int]
theorem o_ne {i j : Int} : op2 .ne (.int i) (.int j) = some (.val, .bl (!decide (i = j))) := by
  simp only [op2, eqD, D.py, Option.bind_some, sh_int, Bool.and_self, if_true, Option.map_some, eqv_int]
theorem o_isB {a b : Bool} : op2 .is (.bl a) (.bl b) = some (.val, .bl (a == b)) := rfl
theorem o_ixL {l : List D} {i : Int} {d : D} (h : L2.atI l i = some d) : op2 .idx (.lst l) (.int i) = some (.val, d) := by
  simp only [op2, opIdx, h, Option.map_some]
theorem o_ixT {l : List D} {i : Int} {d : D} (h : L2.atI l i = some d) : op2 .idx (.tup l) (.int i) = some (.val, d) := by
  simp only [op2, opIdx, h, Option.map_some]
theorem b_int {m : M} {i : Int} : biF .int [(m, .int i)] = some (.val, .int i) := rfl
theorem b_intB {m : M} {b : Bool} : biF .int [(m, .bl b)] = some (.val, .int (if b then 1 else 0)) := rfl
theorem b_lenL {m : M} {l : List D} : biF .len [(m, .lst l)] = some (.val, .int l.length) := rfl
theorem b_lenT {m : M} {l : List D} : biF .len [(m, .tup l)] = some (.val, .int l.length) := rfl
theorem b_max {m n : M} {i j : Int} : biF .max [(m, .int i), (n, .int j)] = some (.val, .int (if j > i then j else i)) := rfl
theorem b_min {m n : M} {i j : Int} : biF .min [(m, .int i), (n, .int j)] = some (.val, .int (if j < i then j else i)) := rfl
theorem b_tupL {m : M} {l : List D} : biF .tuple [(m, .lst l)] = some (.val, .tup l) := rfl
theorem b_tupT {m : M} {l : List D} : biF .tuple [(m, .tup l)] = some (.val, .tup l) := rfl
theorem b_lstL {m : M} {l : List D} : biF .list [(m, .lst l)] = some (.own, .lst l) := rfl
theorem b_lstT {m : M} {l : List D} : biF .list [(m, .tup l)] = some (.own, .lst l) := rfl
theorem b_abs {m : M} {i : Int} : biF .abs [(m, .int i)] = some (.val, .int (if i < 0 then -i else i)) := rfl
/-! loops -/
theorem loopF_inv {g : D → Sl → Option Sl} {b : Sl → Option Out} (P : Nat → Sl → Prop) : ∀ (ds : List D) (n : Nat) (env : Sl), P n env →
    (∀ (i : Nat) (d : D) (e : Sl), ds[i]? = some d → P (n + i) e → ∃ e1 e2, g d e = some e1 ∧ (b e1 = some (.nx e2) ∨ b e1 = some (.cnt e2)) ∧ P (n + i + 1) e2) →
    ∃ e, loopF g b ds env = some (.nx e) ∧ P (n + ds.length) e
  | [], n, env, h, _ => ⟨env, rfl, h⟩
  | d :: ds, n, env, h, st => by
    obtain ⟨e1, e2, h1, h2, h3⟩ := st 0 d env rfl h
    obtain ⟨e, k1, k2⟩ := loopF_inv P ds (n + 1) e2 h3 fun i d e hd hp => by
      have z : n + 1 + i = n + (i + 1) := by omega
      rw [z] at hp ⊢
      exact st (i + 1) d e hd hp
    refine ⟨e, ?_, by rw [List.length_cons, ← Nat.add_assoc, Nat.add_right_comm]; exact k2⟩
    unfold loopF
    rw [h1, Option.bind_some]
    rcases h2 with h2 | h2 <;> (rw [h2, Option.bind_some]; exact k1)
theorem compL_map {f : D → Option (Option D)} {h : D → D} : ∀ (ds : List D), (∀ d ∈ ds, f d = some (some (h d))) → compL f ds = some (ds.map h)
  | [], _ => rfl
  | d :: ds, k => by
    unfold compL
    rw [k d (by simp), Option.bind_some, compL_map ds fun x hx => k x (by simp [hx])]
    rfl
end
/-! statements with loops -/
def lockO (i : Nat) (k : Sl → Option Out) (c : Option (Option C)) (env : Sl) : Option Out := match c with
  | some (some (.own, d)) => (k (env.set i (some (.lck, d)))).bind (unlO i)
  | _ => k env
def forO (ds : Option (List D)) (sf : Bool) (g : D → Sl → Option Sl) (b k : Sl → Option Out) (env : Sl) : Option Out := match ds with
  | some ds => if sf then (match loopF g b ds env with
    | some (.nx e) => k e
    | some (.brk e) => some (.nx e)
    | o => o) else none
  | none => none
def ownG : Option (Option C) → Option (List D)
  | some (some (.own, .lst l)) => some l
  | _ => none
def mthO (i : Nat) (m : Mt) (l : Option (List D)) (cs : Option (List C)) (env : Sl) : Option Out := match l, cs with
  | some l, some cs => (mtF m l cs).map fun r => .nx (env.set i (some (.own, .lst r.1)))
  | _, _ => none
def cmpF (cf : CF) (gl : Nat → Option D) (own : List Nat) (t : Tg) (ifs elt : E) (env : Sl) (x : D) : Option (Option D) :=
  (setT t x (wipeE env own)).bind fun e1 => (evT cf gl ifs e1).bind fun b => if b then ((ev cf gl elt e1).bind vl).map some else some none
def compO (ds : Option (List D)) (f : D → Option (Option D)) : Option C := match ds with
  | some ds => (match compL f ds with
    | some r => if r.length ≤ SL then some (.own, .lst r) else none
    | none => none)
  | none => none
def itO (c : Option C) : Option (List D) := match c with
  | some c => items c.2
  | none => none
def rngO (c : Option (List C)) : Option (List D) := match c with
  | some cs => range3 cs
  | none => none
def zipO (a b : Option C) : Option (List D) := match a, b with
  | some a, some b => (match seqD a.2, seqD b.2 with
    | some l, some r => some (zipD l r)
    | _, _ => none)
  | _, _ => none
def enmO (a : Option C) : Option (List D) := match a with
  | some a => (seqD a.2).map (enmD 0)
  | _ => none
def unpO (t : Tg) (c : Option C) (env : Sl) : Option Out := match c with
  | some c => (match vl c with
    | some d => (setT t d env).map .nx
    | none => none)
  | none => none
def setIxO (i : Nat) (c k : Option C) (l : Option (List D)) (env : Sl) : Option Out := match c, k, l with
  | some c, some (_, .int n), some l => (match vl c with
    | some d => (ixSet l n d).map fun l' => .nx (env.set i (some (.own, .lst l')))
    | none => none)
  | _, _, _ => none
def frzO (i : Nat) (c : Option (Option C)) (env : Sl) : Option Out := match c with
  | some (some (.own, d)) => some (.nx (env.set i (some (.val, d))))
  | _ => some (.nx env)
section
variable {cf : CF} {gl : Nat → Option D} {fu : Nat} {env : Sl}
theorem x_lock {i : Nat} {s : S} : evS cf gl fu (.lock i s) env = lockO i (evS cf gl fu s) env[i]? env := by
  rw [evS]; unfold lockO
  rcases env[i]? with _ | _ | ⟨m, d⟩ <;> first | rfl | (cases m <;> rfl)
theorem x_frz {i : Nat} : evS cf gl fu (.frz i) env = frzO i env[i]? env := by
  rw [evS]; unfold frzO
  rcases env[i]? with _ | _ | ⟨m, d⟩ <;> first | rfl | (cases m <;> rfl)
theorem x_for {t : Tg} {it : E} {b e : S} : evS cf gl fu (.forS t it b e) env = forO (evI cf gl it env) (safeI it env) (setT t) (evS cf gl fu b) (evS cf gl fu e) env := by
  rw [evS]; unfold forO
  cases evI cf gl it env with
  | none => rfl
  | some ds =>
    simp only [Option.bind_some]
    split
    · cases loopF (setT t) (evS cf gl fu b) ds env with
      | none => rfl
      | some o => cases o <;> rfl
    · rfl
theorem x_whl {c : E} {b : S} : evS cf gl fu (.whl c b) env = loopW (fun env => asB (ev cf gl c env)) (evS cf gl fu b) fu env := by rw [evS]
theorem ownL_eq {i : Nat} : ownL i env = ownG env[i]? := by
  unfold ownL ownG
  rcases env[i]? with _ | _ | ⟨m, d⟩ <;> first | rfl | (cases m <;> cases d <;> rfl)
theorem x_mth {i : Nat} {m : Mt} {es : E} : evS cf gl fu (.mth i m es) env = mthO i m (ownG env[i]?) (evL cf gl es env) env := by
  rw [evS, ownL_eq]; unfold mthO
  cases ownG env[i]? with
  | none => rfl
  | some l => cases evL cf gl es env <;> rfl
theorem x_unp {t : Tg} {e : E} : evS cf gl fu (.unp t e) env = unpO t (ev cf gl e env) env := by
  rw [evS]; unfold unpO
  cases ev cf gl e env with
  | none => rfl
  | some c => simp only [Option.bind_some]; cases vl c <;> rfl
theorem x_setIx {i : Nat} {k e : E} : evS cf gl fu (.setIx i k e) env = setIxO i (ev cf gl e env) (ev cf gl k env) (ownG env[i]?) env := by
  rw [evS, ownL_eq]; unfold setIxO
  cases ev cf gl e env with
  | none => rfl
  | some c =>
    simp only [Option.bind_some]
    cases ev cf gl k env with
    | none => cases vl c <;> rfl
    | some n =>
      obtain ⟨m, n⟩ := n
      cases n <;> cases hv : vl c <;> first | rfl | (cases ownG env[i]? <;> first | rfl | (simp only [hv, Option.bind_some, Option.bind_none]))
theorem x_comp {own : List Nat} {t : Tg} {it ifs elt : E} : ev cf gl (.comp own t it ifs elt) env = compO (evI cf gl it env) (cmpF cf gl own t ifs elt env) := by
  rw [ev]; unfold compO
  cases evI cf gl it env with
  | none => rfl
  | some ds =>
    simp only [Option.bind_some]
    show (compL (cmpF cf gl own t ifs elt env) ds).bind _ = _
    cases compL (cmpF cf gl own t ifs elt env) ds <;> rfl
theorem x_it {e : E} : evI cf gl (.it e) env = itO (ev cf gl e env) := by rw [evI]; cases ev cf gl e env <;> rfl
theorem x_rng {e : E} : evI cf gl (.rng e) env = rngO (evL cf gl e env) := by rw [evI]; cases evL cf gl e env <;> rfl
theorem x_enm {e : E} : evI cf gl (.enm e) env = enmO (ev cf gl e env) := by rw [evI]; cases ev cf gl e env <;> rfl
theorem x_zip {a b : E} : evI cf gl (.zip a b) env = zipO (ev cf gl a env) (ev cf gl b env) := by
  rw [evI]; unfold zipO
  cases ev cf gl a env with
  | none => rfl
  | some a =>
    simp only [Option.bind_some]
    cases ev cf gl b env with
    | none => rfl
    | some b =>
      simp only [Option.bind_some]
      cases seqD a.2 with
      | none => rfl
      | some l => cases seqD b.2 <;> rfl
theorem j_lockV {i : Nat} {k : Sl → Option Out} {d : D} : lockO i k (some (some (.val, d))) env = k env := rfl
theorem j_lockB {i : Nat} {k : Sl → Option Out} {d : D} : lockO i k (some (some (.bor, d))) env = k env := rfl
theorem j_lockO {i : Nat} {k : Sl → Option Out} {d : D} : lockO i k (some (some (.own, d))) env = (k (env.set i (some (.lck, d)))).bind (unlO i) := rfl
theorem j_frzO {i : Nat} {d : D} : frzO i (some (some (.own, d))) env = some (.nx (env.set i (some (.val, d)))) := rfl
theorem j_frzV {i : Nat} {d : D} : frzO i (some (some (.val, d))) env = some (.nx env) := rfl
theorem j_frzB {i : Nat} {d : D} : frzO i (some (some (.bor, d))) env = some (.nx env) := rfl
theorem j_own {l : List D} : ownG (some (some (.own, .lst l))) = some l := rfl
theorem j_itL {m : M} {l : List D} : itO (some (m, .lst l)) = some l := rfl
theorem j_itT {m : M} {l : List D} : itO (some (m, .tup l)) = some l := rfl
theorem j_enmL {m : M} {l : List D} : enmO (some (m, .lst l)) = some (enmD 0 l) := rfl
theorem j_enmT {m : M} {l : List D} : enmO (some (m, .tup l)) = some (enmD 0 l) := rfl
theorem j_app {i : Nat} {l : List D} {c : C} {d : D} (h : vl c = some d) (h2 : l.length < 16777216) : mthO i .append (some l) (some [c]) env = some (.nx (env.set i (some (.own, .lst (l ++ [d]))))) := by
  simp only [mthO, mtF, h, Option.bind_some, h2, if_true, Option.map_some]
theorem v_val {d : D} : vl (.val, d) = some d := rfl
theorem v_own {d : D} : vl (.own, d) = some d := rfl
theorem r_1 {m : M} {j : Int} (h : -4611686018427387904 ≤ j ∧ j < 4611686018427387904) : rngO (some [(m, .int j)]) = some ((List.range j.toNat).map fun (i : Nat) => D.int (i : Int)) := by
  simp only [rngO, range3, h, and_self, if_true]
theorem r_2 {m n : M} {i j : Int} (h : -4611686018427387904 ≤ i ∧ i < 4611686018427387904 ∧ -4611686018427387904 ≤ j ∧ j < 4611686018427387904) : rngO (some [(m, .int i), (n, .int j)]) = some ((List.range (j - i).toNat).map fun (k : Nat) => D.int (i + k)) := by
  simp only [rngO, range3, h, and_self, if_true]
theorem j_for {ds : List D} {g : D → Sl → Option Sl} {b k : Sl → Option Out} {e : Sl} (h : loopF g b ds env = some (.nx e)) : forO (some ds) true g b k env = k e := by
  simp only [forO, h, if_true]
theorem j_forR {ds : List D} {g : D → Sl → Option Sl} {b k : Sl → Option Out} {e : C} (h : loopF g b ds env = some (.ret e)) : forO (some ds) true g b k env = some (.ret e) := by
  simp only [forO, h, if_true]
theorem j_comp {ds rs : List D} {f : D → Option (Option D)} (h : compL f ds = some rs) (h2 : rs.length ≤ 16777216) : compO (some ds) f = some (.own, .lst rs) := by
  simp only [compO, h, h2, if_true]
theorem t_nm {i : Nat} {d : D} : setT (.nm i) d env = if i < env.length then some (env.set i (some (.val, d))) else none := by rw [setT]
theorem t_tup {t : Tg} {ds : List D} : setT (.tup t) (.tup ds) env = setTs t ds env := by rw [setT]
theorem t_tupL {t : Tg} {ds : List D} : setT (.tup t) (.lst ds) env = setTs t ds env := by rw [setT]
theorem t_nil : setTs .nil [] env = some env := by rw [setTs]
theorem t_cons {t r : Tg} {d : D} {ds : List D} : setTs (.cons t r) (d :: ds) env = (setT t d env).bind fun e1 => setTs r ds e1 := by rw [setTs]
theorem f_nil : evT cf gl .nil env = some true := by rw [evT]
theorem f_one {e r : E} : evT cf gl (.cons e r) env = asB (ev cf gl e env) := by rw [evT]
def vls : List C → Option (List D)
  | [] => some []
  | c :: cs => match vl c, vls cs with
    | some d, some ds => some (d :: ds)
    | _, _ => none
theorem vls_eq : ∀ cs : List C, cs.mapM vl = vls cs
  | [] => rfl
  | c :: cs => by
    rw [List.mapM_cons, vls_eq cs]
    show ((vl c).bind fun a => (vls cs).bind fun b => some (a :: b)) = (match vl c, vls cs with
    | some d, some ds => some (d :: ds)
    | _, _ => none)
    cases vl c <;> cases vls cs <;> rfl
def lstO : Option (List D) → Option C
  | some ds => if ds.length ≤ 16777216 then some (.own, .lst ds) else none
  | none => none
def tupO : Option (List D) → Option C
  | some ds => if ds.length ≤ 16777216 then some (.val, .tup ds) else none
  | none => none
theorem j_lst2 {cs : List C} : mkL .own (some cs) = lstO (vls cs) := by
  simp only [mkL, vls_eq]
  cases vls cs <;> rfl
theorem j_tup2 {cs : List C} : mkL .val (some cs) = tupO (vls cs) := by
  simp only [mkL, vls_eq]
  cases vls cs <;> rfl
theorem vls_nil : vls [] = some [] := rfl
theorem vls_val {d : D} {cs : List C} : vls ((.val, d) :: cs) = (match vls cs with | some ds => some (d :: ds) | none => none) := by
  show (match vl (.val, d), vls cs with | some d, some ds => some (d :: ds) | _, _ => none) = _
  cases vls cs <;> rfl
theorem vls_own {d : D} {cs : List C} : vls ((.own, d) :: cs) = (match vls cs with | some ds => some (d :: ds) | none => none) := by
  show (match vl (.own, d), vls cs with | some d, some ds => some (d :: ds) | _, _ => none) = _
  cases vls cs <;> rfl
theorem lstO_s {ds : List D} : lstO (some ds) = if ds.length ≤ 16777216 then some (.own, .lst ds) else none := rfl
theorem tupO_s {ds : List D} : tupO (some ds) = if ds.length ≤ 16777216 then some (.val, .tup ds) else none := rfl
def turnO : Option Out → Option Sl
  | some (.nx e) => some e
  | some (.cnt e) => some e
  | _ => none
theorem fin_r {c : C} : finO (some (.ret c)) = some c := rfl
theorem fin_n {e : Sl} : finO (some (.nx e)) = some (.val, .non) := rfl
theorem turn_nx {e : Sl} : turnO (some (.nx e)) = some e := rfl
theorem turn_cnt {e : Sl} : turnO (some (.cnt e)) = some e := rfl
/-- a loop that is not left before its end -/
theorem loop_to {g : D → Sl → Option Sl} {b : Sl → Option Out} (P : Nat → Sl → Prop) {ds : List D} {env : Sl} (h0 : P 0 env)
    (st : ∀ (i : Nat) (d : D) (e : Sl), ds[i]? = some d → i < ds.length → P i e → ∃ e2, turnO ((g d e).bind b) = some e2 ∧ P (i + 1) e2) : ∃ e, loopF g b ds env = some (.nx e) ∧ P ds.length e := by
  obtain ⟨e, h1, h2⟩ := loopF_inv (g := g) (b := b) P ds 0 env h0 fun i d e hd hp => by
    rw [Nat.zero_add] at hp ⊢
    obtain ⟨e2, h1, h2⟩ := st i d e hd (List.getElem?_eq_some_iff.mp hd).1 hp
    cases hg : g d e with
    | none => rw [hg] at h1; cases h1
    | some e1 =>
      rw [hg, Option.bind_some] at h1
      cases hb : b e1 with
      | none => rw [hb] at h1; cases h1
      | some o =>
        rw [hb] at h1
        cases o with
        | nx e => cases h1; exact ⟨e1, _, rfl, .inl hb, h2⟩
        | cnt e => cases h1; exact ⟨e1, _, rfl, .inr hb, h2⟩
        | brk e => cases h1
        | ret e => cases h1
  rw [Nat.zero_add] at h2
  exact ⟨e, h1, h2⟩
/-- a loop that may hand something back: Rt -/
theorem loop_or {g : D → Sl → Option Sl} {b : Sl → Option Out} (P : Nat → Sl → Prop) (Rt : C → Prop) : ∀ (ds : List D) (n : Nat) (env : Sl), P n env →
    (∀ (i : Nat) (d : D) (e : Sl), ds[i]? = some d → P (n + i) e → (∃ e2, turnO ((g d e).bind b) = some e2 ∧ P (n + i + 1) e2) ∨ ∃ c, (g d e).bind b = some (.ret c) ∧ Rt c) →
    (∃ e, loopF g b ds env = some (.nx e) ∧ P (n + ds.length) e) ∨ ∃ c, loopF g b ds env = some (.ret c) ∧ Rt c
  | [], n, env, h, _ => .inl ⟨env, rfl, h⟩
  | d :: ds, n, env, h, st => by
    rcases st 0 d env rfl h with ⟨e2, h1, h2⟩ | ⟨c, h1, h2⟩
    · have go : loopF g b (d :: ds) env = loopF g b ds e2 := by
        unfold loopF
        cases hg : g d env with
        | none => rw [hg] at h1; cases h1
        | some e1 =>
          rw [hg, Option.bind_some] at h1
          rw [Option.bind_some]
          cases hb : b e1 with
          | none => rw [hb] at h1; cases h1
          | some o =>
            rw [hb] at h1
            rw [Option.bind_some]
            cases o with
            | nx e => cases h1; cases ds <;> rfl
            | cnt e => cases h1; cases ds <;> rfl
            | brk e => cases h1
            | ret e => cases h1
      rw [go]
      have ih := loop_or P Rt ds (n + 1) e2 h2 fun i d e hd hp => by
        have z : n + 1 + i = n + (i + 1) := by omega
        rw [z] at hp ⊢
        exact st (i + 1) d e hd hp
      have z : n + (d :: ds).length = n + 1 + ds.length := by rw [List.length_cons]; omega
      rw [z]
      exact ih
    · refine .inr ⟨c, ?_, h2⟩
      unfold loopF
      cases hg : g d env with
      | none => rw [hg] at h1; cases h1
      | some e1 =>
        rw [hg, Option.bind_some] at h1
        rw [Option.bind_some, h1]
        rfl
end
end My
end

section
set_option Elab.async false
set_option linter.all false
set_option maxRecDepth 100000
set_option maxHeartbeats 4000000
/-! k24: the text as E and S (printed by gen.py). -/
namespace My
open PySem PySem.Spec L2 PyProof.Rows
/-- frozen -/
def e0_1 : E := .call 0 (.cons (.var 1) .nil)
def b0 : S := .cons (.ite (.isi .seq (.var 0)) (.cons (.ret (.bi .tuple (.cons (.comp [1] (.nm 1) (.it (.var 0)) (.nil) e0_1) .nil))) .nil) (.nil)) (.cons (.ret (.var 0)) .nil)
def d0 : Df := ⟨"frozen", ["value"], ["value", "item"], b0⟩
/-- is_solution -/
def e1_1 : E := .bin .mul (.var 6) (.var 7)
def b1_2 : S := .cons (.set 5 (.bi .sum (.cons (.comp [6, 7] (.tup (.cons (.nm 6) (.cons (.nm 7) (.nil)))) (.zip (.var 3) (.var 2)) (.nil) e1_1) .nil))) (.cons (.ite (.bin .ne (.bin .mod (.bin .sub (.var 5) (.var 4)) (.var 1)) (.int 0)) (.cons
    (.ret (.bl false)) .nil) (.nil)) .nil)
def b1 : S := .cons (.lock 0 (.forS (.tup (.cons (.nm 3) (.cons (.nm 4) (.nil)))) (.it (.var 0)) b1_2 (.nil))) (.cons (.ret (.bl true)) .nil)
def d1 : Df := ⟨"is_solution", ["rows", "modulus", "x"], ["rows", "modulus", "x", "coefficients", "right", "total", "coefficient", "item"], b1⟩
/-- are_weights -/
def e2_1 : E := .bin .mul (.bin .idx (.bin .idx (.var 7) (.int 0)) (.var 5)) (.var 8)
def b2_2 : S := .cons (.set 6 (.bi .sum (.cons (.comp [7, 8] (.tup (.cons (.nm 7) (.cons (.nm 8) (.nil)))) (.zip (.var 3) (.var 2)) (.nil) e2_1) .nil))) (.cons (.ite (.bin .ne (.bin .mod (.var 6) (.var 1)) (.int 0)) (.cons (.ret (.bl false))
    .nil) (.nil)) .nil)
def e2_3 : E := .bin .mul (.bin .idx (.var 7) (.int 1)) (.var 8)
def b2 : S := .cons (.set 3 (.call 0 (.cons (.var 0) .nil))) (.cons (.set 4 (.ite (.bin .eq (.bi .len (.cons (.var 3) .nil)) (.int 0)) (.int 0) (.bi .len (.cons (.bin .idx (.bin .idx (.var 3) (.int 0)) (.int 0)) .nil)))) (.cons (.forS (.nm 5)
    (.rng (.cons (.var 4) .nil)) b2_2 (.nil)) (.cons (.ret (.bin .ne (.bin .mod (.bi .sum (.cons (.comp [7, 8] (.tup (.cons (.nm 7) (.cons (.nm 8) (.nil)))) (.zip (.var 3) (.var 2)) (.nil) e2_3) .nil)) (.var 1)) (.int 0))) .nil)))
def d2 : Df := ⟨"are_weights", ["rows", "modulus", "y"], ["rows", "modulus", "y", "given", "width", "column", "total", "row", "weight"], b2⟩
/-- _law_cell -/
def b3_1 : S := .cons (.set 2 (.bin .mod (.bi .int (.cons (.bin .add (.bin .mul (.var 2) (.int 31)) (.bin .mod (.bi .int (.cons (.var 3) .nil)) (.int 1000003))) .nil)) (.int 1000003))) .nil
def b3 : S := .cons (.ite (.bin .lt (.var 1) (.bi .len (.cons (.var 0) .nil))) (.cons (.ret (.bin .idx (.var 0) (.var 1))) .nil) (.nil)) (.cons (.set 2 (.int 17)) (.cons (.lock 0 (.forS (.nm 3) (.it (.var 0)) b3_1 (.nil))) (.cons (.ret (.bin
    .mod (.bi .int (.cons (.bin .mul (.bin .mul (.bin .add (.var 2) (.int 7)) (.bin .add (.var 1) (.int 3))) (.int 69621)) .nil)) (.int 2147483647))) .nil)))
def d3 : Df := ⟨"_law_cell", ["script", "k"], ["script", "k", "seed", "cell"], b3⟩
/-- _law_digits -/
def b4_1 : S := .cons (.mth 2 .append (.cons (.bin .mod (.bi .int (.cons (.var 3) .nil)) (.var 6)) .nil)) (.cons (.set 3 (.bin .fdiv (.bi .int (.cons (.var 3) .nil)) (.var 6))) .nil)
def b4_2 : S := .cons (.set 4 (.bin .mod (.bi .int (.cons (.bin .add (.bin .add (.bin .mul (.var 4) (.int 48271)) (.bin .mul (.int 974711) (.var 5))) (.int 12345)) .nil)) (.int 2147483647))) (.cons (.set 7 (.bin .mod (.bi .int (.cons (.bin .mul
    (.var 4) (.bin .add (.bin .fdiv (.var 4) (.int 65537)) (.int 3))) .nil)) (.int 2147483629))) (.cons (.mth 2 .append (.cons (.bin .mod (.bin .fdiv (.var 7) (.int 19)) (.bin .idx (.var 1) (.var 5))) .nil)) .nil))
def b4 : S := .cons (.set 2 (.lst (.nil))) (.cons (.set 3 (.bi .int (.cons (.var 0) .nil))) (.cons (.ite (.bin .ge (.var 3) (.bin .pow (.int 10) (.int 18))) (.cons (.set 3 (.bin .sub (.var 3) (.bin .pow (.int 10) (.int 18)))) (.cons (.lock 1
    (.forS (.nm 6) (.it (.var 1)) b4_1 (.nil))) (.cons (.ret (.var 2)) .nil))) (.nil)) (.cons (.set 4 (.bin .mod (.bi .int (.cons (.var 3) .nil)) (.int 2147483629))) (.cons (.forS (.nm 5) (.rng (.cons (.bi .len (.cons (.var 1) .nil)) .nil)) b4_2
    (.nil)) (.cons (.ret (.var 2)) .nil)))))
def d4 : Df := ⟨"_law_digits", ["cell", "sizes"], ["cell", "sizes", "row", "rest", "seed", "k", "size", "twice"], b4⟩
/-- _law_near -/
def b5 : S := .cons (.set 3 (.bin .fdiv (.int 9000) (.var 1))) (.cons (.ite (.bin .eq (.bin .mod (.bi .int (.cons (.var 2) .nil)) (.int 3)) (.int 0)) (.cons (.ret (.bin .mod (.bi .int (.cons (.var 0) .nil)) (.var 1))) .nil) (.nil)) (.cons (.ret
    (.bin .add (.bin .mod (.bi .int (.cons (.var 0) .nil)) (.var 1)) (.bin .mul (.var 1) (.bin .sub (.bin .mod (.bin .fdiv (.bi .int (.cons (.var 2) .nil)) (.int 3)) (.bin .mul (.int 2) (.var 3))) (.var 3))))) .nil))
def d5 : Df := ⟨"_law_near", ["rest", "size", "digit"], ["rest", "size", "digit", "many"], b5⟩
/-- _law_signed -/
def b6 : S := .cons (.ret (.ite (.bin .le (.var 0) (.int 10000)) (.var 0) (.bin .sub (.var 0) (.int 20001)))) .nil
def d6 : Df := ⟨"_law_signed", ["digit"], ["digit"], b6⟩
/-- _law_row -/
def e7_1 : E := .call 5 (.cons (.bin .add (.bin .mul (.var 9) (.bin .idx (.bin .idx (.var 7) (.int 0)) (.var 16))) (.bin .mul (.var 10) (.bin .idx (.bin .idx (.var 8) (.int 0)) (.var 16)))) (.cons (.var 1) (.cons (.bin .idx (.var 4) (.var 16))
    .nil)))
def e7_2 : E := .call 5 (.cons (.int 0) (.cons (.var 1) (.cons (.bin .idx (.var 4) (.var 16)) .nil)))
def e7_3 : E := .ite (.bin .eq (.var 16) (.var 12)) (.call 6 (.cons (.bin .idx (.var 4) (.var 16)) .nil)) (.int 0)
def e7_4 : E := .var 15
def e7_5 : E := .call 5 (.cons (.bin .mul (.var 14) (.bin .idx (.var 4) (.var 16))) (.cons (.var 1) (.cons (.bin .fdiv (.bin .idx (.var 4) (.var 16)) (.int 127)) .nil)))
def e7_6 : E := .bin .sub (.bin .mod (.bi .int (.cons (.bin .idx (.var 4) (.var 16)) .nil)) (.int 5)) (.int 2)
def e7_7 : E := .call 6 (.cons (.bin .idx (.var 4) (.var 16)) .nil)
def b7 : S := .cons (.set 4 (.slc (.var 0) (.int 7) (.nil))) (.cons (.set 5 (.call 6 (.cons (.bin .idx (.var 0) (.int 1)) .nil))) (.cons (.frz 5) (.cons (.set 6 (.bin .idx (.var 0) (.int 0))) (.cons (.ite (.and (.cons (.bin .isin (.var 6) (.tup
    (.cons (.int 9) (.cons (.int 10) .nil)))) (.cons (.bin .gt (.bi .len (.cons (.var 3) .nil)) (.int 0)) .nil))) (.cons (.set 7 (.bin .idx (.var 3) (.bin .mod (.bi .int (.cons (.bin .idx (.var 0) (.int 2)) .nil)) (.bi .len (.cons (.var 3) .nil)))))
    (.cons (.set 8 (.bin .idx (.var 3) (.bin .mod (.bi .int (.cons (.bin .idx (.var 0) (.int 3)) .nil)) (.bi .len (.cons (.var 3) .nil))))) (.cons (.ite (.bin .eq (.var 6) (.int 9)) (.cons (.ret (.tup (.cons (.bin .idx (.var 7) (.int 0)) (.cons
    (.ite (.bin .gt (.bin .idx (.var 0) (.int 6)) (.int 1)) (.bin .idx (.var 7) (.int 1)) (.var 5)) .nil)))) .nil) (.nil)) (.cons (.set 9 (.bin .sub (.bin .idx (.var 0) (.int 4)) (.int 9))) (.cons (.set 10 (.bin .sub (.bin .idx (.var 0) (.int
    5)) (.int 9))) (.cons (.set 11 (.call 5 (.cons (.bin .add (.bin .add (.bin .mul (.var 9) (.bin .idx (.var 7) (.int 1))) (.bin .mul (.var 10) (.bin .idx (.var 8) (.int 1)))) (.bi .int (.cons (.bin .eq (.bin .idx (.var 0) (.int 6)) (.int 0))
    .nil))) (.cons (.var 1) (.cons (.bin .idx (.var 0) (.int 1)) .nil))))) (.cons (.frz 11) (.cons (.ret (.tup (.cons (.bi .tuple (.cons (.comp [16] (.nm 16) (.rng (.cons (.var 2) .nil)) (.nil) e7_1) .nil)) (.cons (.var 11) .nil)))) .nil))))))))
    (.nil)) (.cons (.ite (.bin .eq (.var 6) (.int 8)) (.cons (.ret (.tup (.cons (.bi .tuple (.cons (.comp [16] (.nm 16) (.rng (.cons (.var 2) .nil)) (.nil) e7_2) .nil)) (.cons (.call 5 (.cons (.bi .int (.cons (.bin .eq (.bin .idx (.var 0) (.int
    6)) (.int 0)) .nil)) (.cons (.var 1) (.cons (.bin .idx (.var 0) (.int 1)) .nil)))) .nil)))) .nil) (.nil)) (.cons (.ite (.bin .eq (.var 6) (.int 11)) (.cons (.set 12 (.bin .mod (.bi .int (.cons (.bin .idx (.var 0) (.int 2)) .nil)) (.bi .max
    (.cons (.int 1) (.cons (.var 2) .nil))))) (.cons (.ret (.tup (.cons (.bi .tuple (.cons (.comp [16] (.nm 16) (.rng (.cons (.var 2) .nil)) (.nil) e7_3) .nil)) (.cons (.var 5) .nil)))) .nil)) (.nil)) (.cons (.ite (.bin .isin (.var 6) (.tup (.cons
    (.int 6) (.cons (.int 7) .nil)))) (.cons (.set 13 (.comp [15] (.nm 15) (.rng (.cons (.int 1) (.cons (.bin .add (.var 1) (.int 1)) .nil))) (.cons (.bin .eq (.bin .mod (.bi .int (.cons (.var 1) .nil)) (.var 15)) (.int 0)) .nil) e7_4)) (.cons
    (.set 14 (.bin .idx (.var 13) (.bin .mod (.bi .int (.cons (.bin .idx (.var 0) (.int 2)) .nil)) (.bi .len (.cons (.var 13) .nil))))) (.cons (.set 11 (.call 5 (.cons (.bin .add (.bin .mul (.var 14) (.bin .idx (.var 0) (.int 4))) (.bi .int (.cons
    (.bin .eq (.bin .idx (.var 0) (.int 6)) (.int 0)) .nil))) (.cons (.var 1) (.cons (.bin .idx (.var 0) (.int 1)) .nil))))) (.cons (.frz 11) (.cons (.ret (.tup (.cons (.bi .tuple (.cons (.comp [16] (.nm 16) (.rng (.cons (.var 2) .nil)) (.nil)
    e7_5) .nil)) (.cons (.var 11) .nil)))) .nil))))) (.nil)) (.cons (.ite (.bin .isin (.var 6) (.tup (.cons (.int 4) (.cons (.int 5) .nil)))) (.cons (.ret (.tup (.cons (.bi .tuple (.cons (.comp [16] (.nm 16) (.rng (.cons (.var 2) .nil)) (.nil)
    e7_6) .nil)) (.cons (.bin .sub (.bin .mod (.bi .int (.cons (.var 5) .nil)) (.int 7)) (.int 3)) .nil)))) .nil) (.nil)) (.cons (.ret (.tup (.cons (.bi .tuple (.cons (.comp [16] (.nm 16) (.rng (.cons (.var 2) .nil)) (.nil) e7_7) .nil)) (.cons
    (.var 5) .nil)))) .nil)))))))))
def d7 : Df := ⟨"_law_row", ["row", "modulus", "width", "before"], ["row", "modulus", "width", "before", "digits", "free", "kind", "one", "two", "a", "b", "right", "at", "parts", "part", "d", "j"], b7⟩
/-- _law_rows -/
def e8_1 : E := .int 20001
def e8_2 : E := .ite (.bin .eq (.bin .idx (.var 3) (.var 8)) (.int 1)) (.call 5 (.cons (.int 0) (.cons (.var 1) (.cons (.bin .idx (.var 6) (.bin .add (.int 7) (.var 8))) .nil)))) (.bin .idx (.bin .idx (.var 7) (.int 0)) (.var 8))
def b8_3 : S := .cons (.set 6 (.call 4 (.cons (.var 5) (.cons (.bin .add (.lst (.cons (.int 12) (.cons (.int 20001) (.cons (.int 160) (.cons (.int 160) (.cons (.int 24) (.cons (.int 24) (.cons (.int 6) .nil)))))))) (.comp [8] (.nm 8) (.rng (.cons
    (.var 2) .nil)) (.nil) e8_1)) .nil)))) (.cons (.frz 6) (.cons (.set 7 (.call 7 (.cons (.var 6) (.cons (.var 1) (.cons (.var 2) (.cons (.var 4) .nil)))))) (.cons (.mth 4 .append (.cons (.tup (.cons (.bi .tuple (.cons (.comp [8] (.nm 8) (.rng
    (.cons (.var 2) .nil)) (.nil) e8_2) .nil)) (.cons (.bin .idx (.var 7) (.int 1)) .nil))) .nil)) .nil)))
def b8 : S := .cons (.set 4 (.lst (.nil))) (.cons (.lock 0 (.forS (.nm 5) (.it (.var 0)) b8_3 (.nil))) (.cons (.frz 4) (.cons (.ret (.var 4)) .nil)))
def d8 : Df := ⟨"_law_rows", ["cells", "modulus", "width", "columns"], ["cells", "modulus", "width", "columns", "rows", "cell", "row", "pair", "j"], b8⟩
/-- _law_sum -/
def b9_1 : S := .cons (.set 2 (.bin .add (.var 2) (.bin .mul (.bin .idx (.var 0) (.var 3)) (.bin .idx (.var 1) (.var 3))))) .nil
def b9 : S := .cons (.set 2 (.int 0)) (.cons (.forS (.nm 3) (.rng (.cons (.bi .len (.cons (.var 1) .nil)) .nil)) b9_1 (.nil)) (.cons (.ret (.var 2)) .nil))
def d9 : Df := ⟨"_law_sum", ["coefs", "x"], ["coefs", "x", "total", "j"], b9⟩
/-- _law_solved -/
def e10_1 : E := .tup (.cons (.bin .idx (.var 3) (.int 0)) (.cons (.call 5 (.cons (.call 9 (.cons (.bin .idx (.var 3) (.int 0)) (.cons (.var 2) .nil))) (.cons (.var 1) (.cons (.bi .abs (.cons (.bin .idx (.var 3) (.int 1)) .nil)) .nil)))) .nil))
def b10 : S := .cons (.ret (.comp [3] (.nm 3) (.it (.var 0)) (.nil) e10_1)) .nil
def d10 : Df := ⟨"_law_solved", ["rows", "modulus", "x"], ["rows", "modulus", "x", "row"], b10⟩
/-- _law_solves -/
def b11_1 : S := .cons (.ite (.bin .ne (.bin .mod (.bi .int (.cons (.bin .sub (.call 9 (.cons (.bin .idx (.var 3) (.int 0)) (.cons (.var 2) .nil))) (.bin .idx (.var 3) (.int 1))) .nil)) (.var 1)) (.int 0)) (.cons (.ret (.bl false)) .nil) (.nil))
    .nil
def b11 : S := .cons (.lock 0 (.forS (.nm 3) (.it (.var 0)) b11_1 (.nil))) (.cons (.ret (.bl true)) .nil)
def d11 : Df := ⟨"_law_solves", ["rows", "modulus", "x"], ["rows", "modulus", "x", "row"], b11⟩
/-- _law_bars -/
def e12_1 : E := .bin .idx (.bin .idx (.var 5) (.int 0)) (.var 4)
def b12_2 : S := .cons (.ite (.bin .ne (.bin .mod (.bi .int (.cons (.call 9 (.cons (.comp [5] (.nm 5) (.it (.var 0)) (.nil) e12_1) (.cons (.var 3) .nil))) .nil)) (.var 1)) (.int 0)) (.cons (.ret (.bl false)) .nil) (.nil)) .nil
def e12_3 : E := .bin .idx (.var 5) (.int 1)
def b12 : S := .cons (.forS (.nm 4) (.rng (.cons (.var 2) .nil)) b12_2 (.nil)) (.cons (.ret (.bin .ne (.bin .mod (.bi .int (.cons (.call 9 (.cons (.comp [5] (.nm 5) (.it (.var 0)) (.nil) e12_3) (.cons (.var 3) .nil))) .nil)) (.var 1)) (.int 0)))
    .nil)
def d12 : Df := ⟨"_law_bars", ["rows", "modulus", "width", "y"], ["rows", "modulus", "width", "y", "j", "row"], b12⟩
/-- _law_passed -/
def b13_1 : S := .cons (.mth 2 .append (.cons (.ite (.bin .ge (.var 1) (.int 2)) (.lst (.cons (.bi .list (.cons (.bin .idx (.var 3) (.int 0)) .nil)) (.cons (.bin .idx (.var 3) (.int 1)) .nil))) (.tup (.cons (.bi .tuple (.cons (.bin .idx (.var
    3) (.int 0)) .nil)) (.cons (.bin .idx (.var 3) (.int 1)) .nil)))) .nil)) .nil
def b13 : S := .cons (.set 2 (.lst (.nil))) (.cons (.lock 0 (.forS (.nm 3) (.it (.var 0)) b13_1 (.nil))) (.cons (.frz 2) (.cons (.ret (.ite (.bin .eq (.bin .mod (.bi .int (.cons (.var 1) .nil)) (.int 2)) (.int 1)) (.var 2) (.bi .tuple (.cons
    (.var 2) .nil)))) .nil)))
def d13 : Df := ⟨"_law_passed", ["rows", "form"], ["rows", "form", "items", "row"], b13⟩
/-- _law_barred -/
def e14_1 : E := .int 20001
def e14_2 : E := .int 8
def e14_3 : E := .var 14
def e14_4 : E := .bin .idx (.lst (.cons (.int 0) (.cons (.int 0) (.cons (.int 0) (.cons (.int 1) (.cons (.bin .sub (.var 6) (.int 1)) (.cons (.int 2) (.cons (.int 3) (.cons (.int 5) .nil))))))))) (.var 15)
def b14_5 : S := .cons (.set 11 (.bin .add (.var 11) (.bin .mul (.bin .idx (.var 8) (.var 12)) (.bin .idx (.bin .idx (.bin .idx (.var 0) (.var 12)) (.int 0)) (.var 10))))) (.cons (.frz 11) .nil)
def b14_6 : S := .cons (.set 11 (.int 0)) (.cons (.frz 11) (.cons (.forS (.nm 12) (.rng (.cons (.bi .len (.cons (.var 0) .nil)) .nil)) b14_5 (.nil)) (.cons (.mth 9 .append (.cons (.call 5 (.cons (.var 11) (.cons (.var 6) (.cons (.bin .idx (.var
    4) (.bin .add (.int 3) (.var 10))) .nil)))) .nil)) .nil)))
def b14_7 : S := .cons (.set 11 (.bin .add (.var 11) (.bin .mul (.bin .idx (.var 8) (.var 12)) (.bin .idx (.bin .idx (.var 0) (.var 12)) (.int 1))))) (.cons (.frz 11) .nil)
def e14_8 : E := .bin .mod (.bi .int (.cons (.bin .mul (.var 16) (.bin .fdiv (.var 1) (.var 6))) .nil)) (.var 1)
def b14 : S := .cons (.set 4 (.call 4 (.cons (.var 3) (.cons (.bin .add (.bin .add (.lst (.cons (.int 60) (.cons (.int 3000) (.cons (.int 119) .nil)))) (.comp [10] (.nm 10) (.rng (.cons (.bin .add (.var 2) (.int 1)) .nil)) (.nil) e14_1)) (.comp
    [16] (.nm 16) (.it (.var 0)) (.nil) e14_2)) .nil)))) (.cons (.set 5 (.comp [14] (.nm 14) (.rng (.cons (.int 2) (.cons (.bin .add (.var 1) (.int 1)) .nil))) (.cons (.bin .eq (.bin .mod (.bi .int (.cons (.var 1) .nil)) (.var 14)) (.int 0))
    .nil) e14_3)) (.cons (.set 6 (.bin .idx (.var 5) (.bin .mod (.bi .int (.cons (.bin .idx (.var 4) (.int 0)) .nil)) (.bi .len (.cons (.var 5) .nil))))) (.cons (.frz 6) (.cons (.set 7 (.bin .mod (.bi .int (.cons (.bin .idx (.var 4) (.int 1))
    .nil)) (.bi .len (.cons (.var 0) .nil)))) (.cons (.frz 7) (.cons (.set 8 (.comp [15] (.nm 15) (.it (.slc (.var 4) (.bin .add (.int 4) (.var 2)) (.nil))) (.nil) e14_4)) (.cons (.setIx 8 (.var 7) (.int 0)) (.cons (.set 9 (.lst (.nil))) (.cons
    (.forS (.nm 10) (.rng (.cons (.var 2) .nil)) b14_6 (.nil)) (.cons (.set 11 (.bin .add (.int 1) (.bin .mod (.bi .int (.cons (.bin .idx (.var 4) (.int 2)) .nil)) (.bin .sub (.var 6) (.int 1))))) (.cons (.frz 11) (.cons (.forS (.nm 12) (.rng
    (.cons (.bi .len (.cons (.var 0) .nil)) .nil)) b14_7 (.nil)) (.cons (.setIx 8 (.var 7) (.neg (.int 1))) (.cons (.set 13 (.tup (.cons (.bi .tuple (.cons (.var 9) .nil)) (.cons (.call 5 (.cons (.var 11) (.cons (.var 6) (.cons (.bin .idx (.var
    4) (.bin .add (.int 3) (.var 2))) .nil)))) .nil)))) (.cons (.frz 13) (.cons (.ret (.lst (.cons (.bin .add (.bin .add (.slc (.var 0) (.nil) (.var 7)) (.lst (.cons (.var 13) .nil))) (.slc (.var 0) (.bin .add (.var 7) (.int 1)) (.nil))) (.cons
    (.comp [16] (.nm 16) (.it (.var 8)) (.nil) e14_8) (.cons (.var 7) .nil))))) .nil))))))))))))))))
def d14 : Df := ⟨"_law_barred", ["rows", "modulus", "width", "cell"], ["rows", "modulus", "width", "cell", "row", "parts", "part", "at", "many", "coefs", "j", "total", "k", "fresh", "d", "digit", "one"], b14⟩
/-- _law_right_side -/
def b15 : S := .cons (.set 3 (.ite (.bin .le (.bin .add (.bin .idx (.bin .idx (.var 0) (.var 1)) (.int 1)) (.var 2)) (.int 10000)) (.bin .add (.bin .idx (.bin .idx (.var 0) (.var 1)) (.int 1)) (.var 2)) (.bin .sub (.bin .idx (.bin .idx (.var
    0) (.var 1)) (.int 1)) (.var 2)))) (.cons (.frz 3) (.cons (.ret (.bin .add (.bin .add (.slc (.var 0) (.nil) (.var 1)) (.lst (.cons (.tup (.cons (.bin .idx (.bin .idx (.var 0) (.var 1)) (.int 0)) (.cons (.var 3) .nil))) .nil))) (.slc (.var
    0) (.bin .add (.var 1) (.int 1)) (.nil)))) .nil))
def d15 : Df := ⟨"_law_right_side", ["rows", "at", "more"], ["rows", "at", "more", "changed"], b15⟩
/-- _law_coefficient -/
def b16 : S := .cons (.set 4 (.bi .list (.cons (.bin .idx (.bin .idx (.var 0) (.var 1)) (.int 0)) .nil))) (.cons (.setIx 4 (.var 2) (.var 3)) (.cons (.ret (.bin .add (.bin .add (.slc (.var 0) (.nil) (.var 1)) (.lst (.cons (.tup (.cons (.bi .tuple
    (.cons (.var 4) .nil)) (.cons (.bin .idx (.bin .idx (.var 0) (.var 1)) (.int 1)) .nil))) .nil))) (.slc (.var 0) (.bin .add (.var 1) (.int 1)) (.nil)))) .nil))
def d16 : Df := ⟨"_law_coefficient", ["rows", "at", "j", "number"], ["rows", "at", "j", "number", "coefs"], b16⟩
/-- _law_changed -/
def b17 : S := .cons (.set 3 (.bi .list (.cons (.var 0) .nil))) (.cons (.setIx 3 (.var 1) (.bin .add (.bin .idx (.var 3) (.var 1)) (.var 2))) (.cons (.ret (.var 3)) .nil))
def d17 : Df := ⟨"_law_changed", ["row", "at", "more"], ["row", "at", "more", "got"], b17⟩
/-- _law_shifted -/
def e18_1 : E := .int 20001
def e18_2 : E := .call 5 (.cons (.bin .idx (.var 0) (.var 4)) (.cons (.var 1) (.cons (.bin .idx (.var 3) (.var 4)) .nil)))
def b18 : S := .cons (.set 3 (.call 4 (.cons (.var 2) (.cons (.comp [5] (.nm 5) (.it (.var 0)) (.nil) e18_1) .nil)))) (.cons (.ret (.comp [4] (.nm 4) (.rng (.cons (.bi .len (.cons (.var 0) .nil)) .nil)) (.nil) e18_2)) .nil)
def d18 : Df := ⟨"_law_shifted", ["row", "modulus", "cell"], ["row", "modulus", "cell", "digits", "k", "one"], b18⟩
/-- _law_solution -/
def b19 : S := .cons (.set 4 (.call 11 (.cons (.var 0) (.cons (.var 1) (.cons (.var 2) .nil))))) (.cons (.set 5 (.call 13 (.cons (.var 0) (.cons (.var 3) .nil)))) (.cons (.frz 5) (.cons (.set 6 (.ite (.bin .eq (.bin .mod (.bi .int (.cons (.var
    3) .nil)) (.int 2)) (.int 0)) (.bi .list (.cons (.var 2) .nil)) (.bi .tuple (.cons (.var 2) .nil)))) (.cons (.frz 6) (.cons (.set 7 (.call 1 (.cons (.var 5) (.cons (.var 1) (.cons (.var 6) .nil))))) (.cons (.ite (.or (.cons (.bin .ne (.var
    5) (.call 13 (.cons (.var 0) (.cons (.var 3) .nil)))) (.cons (.bin .ne (.bi .list (.cons (.var 6) .nil)) (.bi .list (.cons (.var 2) .nil))) .nil))) (.cons (.ret (.bl false)) .nil) (.nil)) (.cons (.ret (.ite (.var 4) (.bin .is (.var 7) (.bl
    true)) (.bin .is (.var 7) (.bl false)))) .nil)))))))
def d19 : Df := ⟨"_law_solution", ["rows", "modulus", "x", "form"], ["rows", "modulus", "x", "form", "due", "handed", "numbers", "told"], b19⟩
/-- _law_weights -/
def b20 : S := .cons (.set 5 (.call 12 (.cons (.var 0) (.cons (.var 1) (.cons (.var 2) (.cons (.var 3) .nil)))))) (.cons (.set 6 (.call 13 (.cons (.var 0) (.cons (.var 4) .nil)))) (.cons (.frz 6) (.cons (.set 7 (.ite (.bin .eq (.bin .mod (.bi
    .int (.cons (.var 4) .nil)) (.int 2)) (.int 0)) (.bi .list (.cons (.var 3) .nil)) (.bi .tuple (.cons (.var 3) .nil)))) (.cons (.frz 7) (.cons (.set 8 (.call 2 (.cons (.var 6) (.cons (.var 1) (.cons (.var 7) .nil))))) (.cons (.ite (.or (.cons
    (.bin .ne (.var 6) (.call 13 (.cons (.var 0) (.cons (.var 4) .nil)))) (.cons (.bin .ne (.bi .list (.cons (.var 7) .nil)) (.bi .list (.cons (.var 3) .nil))) .nil))) (.cons (.ret (.bl false)) .nil) (.nil)) (.cons (.ret (.ite (.var 5) (.bin
    .is (.var 8) (.bl true)) (.bin .is (.var 8) (.bl false)))) .nil)))))))
def d20 : Df := ⟨"_law_weights", ["rows", "modulus", "width", "y", "form"], ["rows", "modulus", "width", "y", "form", "due", "handed", "numbers", "told"], b20⟩
/-- _law_ask_solutions -/
def b21_1 : S := .cons (.ite (.not (.call 19 (.cons (.bin .idx (.bin .idx (.var 9) (.var 10)) (.int 0)) (.cons (.var 1) (.cons (.bin .idx (.bin .idx (.var 9) (.var 10)) (.int 1)) (.cons (.bin .mod (.bi .int (.cons (.bin .add (.var 10) (.var 5))
    .nil)) (.int 4)) .nil)))))) (.cons (.ret (.bl false)) .nil) (.nil)) .nil
def b21 : S := .cons (.set 7 (.bin .mod (.bi .int (.cons (.bin .idx (.var 4) (.int 0)) .nil)) (.bi .len (.cons (.var 0) .nil)))) (.cons (.frz 7) (.cons (.set 8 (.bin .mod (.bi .int (.cons (.bin .idx (.var 4) (.int 1)) .nil)) (.bi .max (.cons
    (.int 1) (.cons (.var 2) .nil))))) (.cons (.frz 8) (.cons (.set 9 (.lst (.cons (.tup (.cons (.var 0) (.cons (.var 3) .nil))) (.cons (.tup (.cons (.call 15 (.cons (.var 0) (.cons (.var 7) (.cons (.bin .add (.int 1) (.bin .mod (.bi .int (.cons
    (.bin .idx (.var 4) (.int 2)) .nil)) (.int 119))) .nil)))) (.cons (.var 3) .nil))) (.cons (.tup (.cons (.call 15 (.cons (.var 0) (.cons (.var 7) (.cons (.bin .mul (.var 1) (.bin .add (.int 1) (.bin .idx (.var 4) (.int 3)))) .nil)))) (.cons
    (.var 3) .nil))) .nil))))) (.cons (.ite (.bin .gt (.var 2) (.int 0)) (.cons (.mth 9 .append (.cons (.tup (.cons (.var 0) (.cons (.call 17 (.cons (.var 3) (.cons (.var 8) (.cons (.bin .add (.int 1) (.bin .mod (.bi .int (.cons (.bin .idx (.var
    4) (.int 2)) .nil)) (.int 119))) .nil)))) .nil))) .nil)) (.cons (.mth 9 .append (.cons (.tup (.cons (.call 16 (.cons (.var 0) (.cons (.var 7) (.cons (.var 8) (.cons (.call 6 (.cons (.bin .idx (.var 4) (.int 4)) .nil)) .nil))))) (.cons (.var
    3) .nil))) .nil)) (.cons (.mth 9 .append (.cons (.tup (.cons (.call 16 (.cons (.var 0) (.cons (.var 7) (.cons (.var 8) (.cons (.call 5 (.cons (.bin .idx (.bin .idx (.bin .idx (.var 0) (.var 7)) (.int 0)) (.var 8)) (.cons (.var 1) (.cons (.bin
    .idx (.var 4) (.int 4)) .nil)))) .nil))))) (.cons (.var 3) .nil))) .nil)) .nil))) (.nil)) (.cons (.forS (.nm 10) (.rng (.cons (.bin .mod (.bi .int (.cons (.var 5) .nil)) (.var 6)) (.cons (.bi .len (.cons (.var 9) .nil)) (.cons (.var 6) .nil))))
    b21_1 (.nil)) (.cons (.ret (.bl true)) .nil)))))))
def d21 : Df := ⟨"_law_ask_solutions", ["solved", "modulus", "width", "x", "row", "form", "step"], ["solved", "modulus", "width", "x", "row", "form", "step", "at", "j", "asked", "k"], b21⟩
/-- _law_ask_weights -/
def e22_1 : E := .bin .idx (.var 14) (.int 1)
def e22_2 : E := .bin .mod (.bi .int (.cons (.bin .mul (.var 14) (.bin .add (.int 2) (.bin .idx (.var 4) (.int 3)))) .nil)) (.var 1)
def b22_3 : S := .cons (.ite (.bin .eq (.bin .mod (.bi .int (.cons (.bin .add (.var 10) (.bin .mul (.var 12) (.bin .idx (.var 3) (.bin .idx (.var 0) (.int 2))))) .nil)) (.var 1)) (.int 0)) (.cons (.mth 11 .append (.cons (.tup (.cons (.call 15
    (.cons (.var 7) (.cons (.bin .idx (.var 0) (.int 2)) (.cons (.var 12) .nil)))) (.cons (.var 3) .nil))) .nil)) (.cons (.brk) .nil)) (.nil)) .nil
def e22_4 : E := .call 5 (.cons (.int 0) (.cons (.var 1) (.cons (.bin .add (.bi .int (.cons (.bin .idx (.var 4) (.int 4)) .nil)) (.var 13)) .nil)))
def b22_5 : S := .cons (.ite (.not (.call 20 (.cons (.bin .idx (.bin .idx (.var 11) (.var 13)) (.int 0)) (.cons (.var 1) (.cons (.var 2) (.cons (.bin .idx (.bin .idx (.var 11) (.var 13)) (.int 1)) (.cons (.bin .mod (.bi .int (.cons (.bin .add
    (.var 13) (.var 5)) .nil)) (.int 4)) .nil))))))) (.cons (.ret (.bl false)) .nil) (.nil)) .nil
def b22 : S := .cons (.set 7 (.bin .idx (.var 0) (.int 0))) (.cons (.frz 7) (.cons (.set 8 (.bin .mod (.bi .int (.cons (.bin .idx (.var 4) (.int 0)) .nil)) (.bi .len (.cons (.var 7) .nil)))) (.cons (.frz 8) (.cons (.set 9 (.bin .mod (.bi .int
    (.cons (.bin .idx (.var 4) (.int 1)) .nil)) (.bi .max (.cons (.int 1) (.cons (.var 2) .nil))))) (.cons (.frz 9) (.cons (.set 10 (.call 9 (.cons (.comp [14] (.nm 14) (.it (.var 7)) (.nil) e22_1) (.cons (.var 3) .nil)))) (.cons (.set 11 (.lst
    (.cons (.tup (.cons (.var 7) (.cons (.var 3) .nil))) (.cons (.tup (.cons (.var 7) (.cons (.call 17 (.cons (.var 3) (.cons (.var 8) (.cons (.bin .add (.int 1) (.bin .mod (.bi .int (.cons (.bin .idx (.var 4) (.int 2)) .nil)) (.int 119))) .nil))))
    .nil))) (.cons (.tup (.cons (.var 7) (.cons (.comp [14] (.nm 14) (.it (.var 3)) (.nil) e22_2) .nil))) .nil))))) (.cons (.forS (.nm 12) (.rng (.cons (.int 1) (.cons (.var 1) .nil))) b22_3 (.nil)) (.cons (.mth 11 .append (.cons (.tup (.cons
    (.call 15 (.cons (.var 7) (.cons (.var 8) (.cons (.bin .mul (.var 1) (.bin .add (.int 1) (.bin .idx (.var 4) (.int 3)))) .nil)))) (.cons (.var 3) .nil))) .nil)) (.cons (.mth 11 .append (.cons (.tup (.cons (.var 7) (.cons (.comp [13] (.nm
    13) (.rng (.cons (.bi .len (.cons (.var 7) .nil)) .nil)) (.nil) e22_4) .nil))) .nil)) (.cons (.ite (.bin .gt (.var 2) (.int 0)) (.cons (.mth 11 .append (.cons (.tup (.cons (.call 16 (.cons (.var 7) (.cons (.var 8) (.cons (.var 9) (.cons (.call
    6 (.cons (.bin .idx (.var 4) (.int 4)) .nil)) .nil))))) (.cons (.var 3) .nil))) .nil)) (.cons (.mth 11 .append (.cons (.tup (.cons (.call 16 (.cons (.var 7) (.cons (.bin .idx (.var 0) (.int 2)) (.cons (.var 9) (.cons (.call 6 (.cons (.bin
    .idx (.var 4) (.int 4)) .nil)) .nil))))) (.cons (.var 3) .nil))) .nil)) (.cons (.mth 11 .append (.cons (.tup (.cons (.call 16 (.cons (.var 7) (.cons (.var 8) (.cons (.var 9) (.cons (.call 5 (.cons (.bin .idx (.bin .idx (.bin .idx (.var 7)
    (.var 8)) (.int 0)) (.var 9)) (.cons (.var 1) (.cons (.bin .idx (.var 4) (.int 4)) .nil)))) .nil))))) (.cons (.var 3) .nil))) .nil)) .nil))) (.nil)) (.cons (.forS (.nm 13) (.rng (.cons (.bin .mod (.bi .int (.cons (.var 5) .nil)) (.var 6))
    (.cons (.bi .len (.cons (.var 11) .nil)) (.cons (.var 6) .nil)))) b22_5 (.nil)) (.cons (.ret (.bl true)) .nil)))))))))))))
def d22 : Df := ⟨"_law_ask_weights", ["barred", "modulus", "width", "y", "row", "form", "step"], ["barred", "modulus", "width", "y", "row", "form", "step", "rows", "at", "j", "total", "asked", "more", "k", "one"], b22⟩
/-- law -/
def e23_1 : E := .ite (.bin .lt (.bin .idx (.var 1) (.int 6)) (.int 2)) (.int 6) (.int 100000)
def e23_2 : E := .call 3 (.cons (.var 0) (.cons (.bin .add (.int 5) (.var 18)) .nil))
def e23_3 : E := .bin .idx (.var 7) (.bin .mod (.bi .int (.cons (.var 18) .nil)) (.var 4))
def e23_4 : E := .var 3
def e23_5 : E := .var 3
def b23 : S := .cons (.set 1 (.call 4 (.cons (.call 3 (.cons (.var 0) (.cons (.int 0) .nil))) (.cons (.lst (.cons (.int 3) (.cons (.int 120) (.cons (.int 20) (.cons (.int 64) (.cons (.int 61) (.cons (.int 41) (.cons (.int 6) (.cons (.int 4) (.cons
    (.int 4) (.cons (.int 2501) .nil))))))))))) .nil)))) (.cons (.set 2 (.lst (.cons (.int 4) (.cons (.int 6) (.cons (.int 8) (.cons (.int 9) (.cons (.int 12) (.cons (.int 36) (.cons (.int 60) (.cons (.int 120) (.cons (.int 4) (.cons (.int 12)
    (.cons (.int 16) (.cons (.int 27) (.cons (.int 30) (.cons (.int 72) (.cons (.int 2) (.cons (.int 3) (.cons (.int 5) (.cons (.int 1) (.cons (.int 8) (.cons (.int 6) .nil)))))))))))))))))))))) (.cons (.set 3 (.ite (.bin .eq (.bin .idx (.var
    1) (.int 0)) (.int 0)) (.bin .add (.int 1) (.bin .idx (.var 1) (.int 1))) (.bin .idx (.var 2) (.bin .idx (.var 1) (.int 2))))) (.cons (.frz 3) (.cons (.set 4 (.bin .mod (.bi .int (.cons (.bin .idx (.var 1) (.int 4)) .nil)) (.int 10))) (.cons
    (.set 5 (.bin .mod (.bi .int (.cons (.bin .idx (.var 1) (.int 5)) .nil)) (.int 6))) (.cons (.frz 5) (.cons (.ite (.bin .eq (.bin .idx (.var 1) (.int 3)) (.int 0)) (.cons (.set 4 (.bin .add (.int 1) (.bin .mod (.bi .int (.cons (.bin .idx (.var
    1) (.int 4)) .nil)) (.int 20)))) (.cons (.set 5 (.bin .idx (.lst (.cons (.int 40) (.cons (.int 39) (.cons (.int 12) (.cons (.int 3) .nil))))) (.bin .idx (.var 1) (.int 8)))) (.cons (.frz 5) .nil))) (.cons (.ite (.bin .lt (.bin .idx (.var
    1) (.int 3)) (.int 7)) (.cons (.set 4 (.bin .mod (.bi .int (.cons (.bin .idx (.var 1) (.int 4)) .nil)) (.int 25))) (.cons (.set 5 (.bin .mod (.bi .int (.cons (.bin .idx (.var 1) (.int 5)) .nil)) (.int 13))) (.cons (.frz 5) .nil))) (.nil))
    .nil)) (.cons (.set 6 (.call 4 (.cons (.call 3 (.cons (.var 0) (.cons (.int 2) .nil))) (.cons (.comp [17] (.nm 17) (.rng (.cons (.var 5) .nil)) (.nil) e23_1) .nil)))) (.cons (.frz 6) (.cons (.set 7 (.call 8 (.cons (.comp [18] (.nm 18) (.rng
    (.cons (.var 4) .nil)) (.nil) e23_2) (.cons (.var 3) (.cons (.var 5) (.cons (.var 6) .nil)))))) (.cons (.frz 7) (.cons (.ite (.bin .eq (.bin .idx (.var 1) (.int 3)) (.int 0)) (.cons (.set 7 (.comp [18] (.nm 18) (.rng (.cons (.bin .idx (.lst
    (.cons (.int 3000) (.cons (.int 2999) (.cons (.bin .add (.int 500) (.bin .idx (.var 1) (.int 9))) (.cons (.bin .add (.int 500) (.bin .idx (.var 1) (.int 9))) .nil))))) (.bin .idx (.var 1) (.int 8))) .nil)) (.nil) e23_3)) (.cons (.frz 7) .nil))
    (.nil)) (.cons (.set 8 (.call 4 (.cons (.call 3 (.cons (.var 0) (.cons (.int 1) .nil))) (.cons (.comp [17] (.nm 17) (.rng (.cons (.var 5) .nil)) (.nil) e23_4) .nil)))) (.cons (.frz 8) (.cons (.set 9 (.call 4 (.cons (.call 3 (.cons (.var 0)
    (.cons (.int 3) .nil))) (.cons (.comp [19] (.nm 19) (.it (.var 7)) (.nil) e23_5) .nil)))) (.cons (.frz 9) (.cons (.set 10 (.call 4 (.cons (.call 3 (.cons (.var 0) (.cons (.int 4) .nil))) (.cons (.lst (.cons (.int 3000) (.cons (.int 40) (.cons
    (.int 119) (.cons (.int 80) (.cons (.int 20001) (.cons (.int 3000) (.cons (.int 40) (.cons (.int 119) (.cons (.int 80) (.cons (.int 20001) .nil))))))))))) .nil)))) (.cons (.set 11 (.bin .idx (.var 1) (.int 7))) (.cons (.frz 11) (.cons (.set
    12 (.ite (.bin .eq (.bin .idx (.var 1) (.int 3)) (.int 0)) (.int 3) (.int 1))) (.cons (.frz 12) (.cons (.set 13 (.call 10 (.cons (.var 7) (.cons (.var 3) (.cons (.var 8) .nil))))) (.cons (.frz 13) (.cons (.set 14 (.call 18 (.cons (.var 8)
    (.cons (.var 3) (.cons (.call 3 (.cons (.var 0) (.cons (.int 1) .nil))) .nil))))) (.cons (.frz 14) (.cons (.ite (.or (.cons (.not (.call 19 (.cons (.var 7) (.cons (.var 3) (.cons (.var 8) (.cons (.var 11) .nil)))))) (.cons (.not (.call 20
    (.cons (.var 7) (.cons (.var 3) (.cons (.var 5) (.cons (.var 9) (.cons (.var 11) .nil))))))) .nil))) (.cons (.ret (.bl false)) .nil) (.nil)) (.cons (.ite (.or (.cons (.not (.call 20 (.cons (.var 13) (.cons (.var 3) (.cons (.var 5) (.cons
    (.var 9) (.cons (.var 11) .nil))))))) (.cons (.not (.call 19 (.cons (.var 13) (.cons (.var 3) (.cons (.var 14) (.cons (.bin .sub (.int 3) (.var 11)) .nil)))))) .nil))) (.cons (.ret (.bl false)) .nil) (.nil)) (.cons (.ite (.and (.cons (.bin
    .gt (.bi .len (.cons (.var 7) .nil)) (.int 0)) (.cons (.not (.call 21 (.cons (.var 13) (.cons (.var 3) (.cons (.var 5) (.cons (.var 14) (.cons (.slc (.var 10) (.nil) (.int 5)) (.cons (.var 11) (.cons (.var 12) .nil))))))))) .nil))) (.cons
    (.ret (.bl false)) .nil) (.nil)) (.cons (.ite (.and (.cons (.bin .gt (.bi .len (.cons (.var 7) .nil)) (.int 0)) (.cons (.bin .gt (.var 3) (.int 1)) .nil))) (.cons (.set 15 (.call 14 (.cons (.ite (.bin .gt (.bin .idx (.var 1) (.int 6)) (.int
    2)) (.var 13) (.var 7)) (.cons (.var 3) (.cons (.var 5) (.cons (.call 3 (.cons (.var 0) (.cons (.int 3) .nil))) .nil)))))) (.cons (.frz 15) (.cons (.set 16 (.call 18 (.cons (.bin .idx (.var 15) (.int 1)) (.cons (.var 3) (.cons (.call 3 (.cons
    (.var 0) (.cons (.int 4) .nil))) .nil))))) (.cons (.frz 16) (.cons (.ite (.or (.cons (.not (.call 19 (.cons (.bin .idx (.var 15) (.int 0)) (.cons (.var 3) (.cons (.var 8) (.cons (.bin .sub (.int 3) (.var 11)) .nil)))))) (.cons (.not (.call
    20 (.cons (.bin .idx (.var 15) (.int 0)) (.cons (.var 3) (.cons (.var 5) (.cons (.bin .idx (.var 15) (.int 1)) (.cons (.var 11) .nil))))))) .nil))) (.cons (.ret (.bl false)) .nil) (.nil)) (.cons (.ite (.not (.call 22 (.cons (.var 15) (.cons
    (.var 3) (.cons (.var 5) (.cons (.var 16) (.cons (.slc (.var 10) (.int 5) (.nil)) (.cons (.var 11) (.cons (.var 12) .nil))))))))) (.cons (.ret (.bl false)) .nil) (.nil)) .nil)))))) (.nil)) (.cons (.ret (.and (.cons (.bin .is (.call 1 (.cons
    (.lst (.nil)) (.cons (.var 3) (.cons (.bi .list (.cons (.var 8) .nil)) .nil)))) (.bl true)) (.cons (.bin .is (.call 2 (.cons (.lst (.nil)) (.cons (.var 3) (.cons (.lst (.nil)) .nil)))) (.bl false)) .nil)))) .nil))))))))))))))))))))))))))))))
def d23 : Df := ⟨"law", ["script"], ["script", "pick", "menu", "modulus", "many", "width", "columns", "rows", "x", "y", "row", "form", "step", "solved", "shifted", "barred", "weights", "j", "k", "one"], b23⟩
def tab : Nat → Option Df
  | 0 => some d0
  | 1 => some d1
  | 2 => some d2
  | 3 => some d3
  | 4 => some d4
  | 5 => some d5
  | 6 => some d6
  | 7 => some d7
  | 8 => some d8
  | 9 => some d9
  | 10 => some d10
  | 11 => some d11
  | 12 => some d12
  | 13 => some d13
  | 14 => some d14
  | 15 => some d15
  | 16 => some d16
  | 17 => some d17
  | 18 => some d18
  | 19 => some d19
  | 20 => some d20
  | 21 => some d21
  | 22 => some d22
  | 23 => some d23
  | _ => none
abbrev pr : Program := PySem.Challenge.pw_likemakeslike_k24_system_judges
def top (i : Nat) : Stmt := pr.main.body.getD i (.Pass ⟨0, 0, 0, 0⟩)
def stt : Nat → Stmt
  | 0 => top 1
  | 1 => top 3
  | 2 => top 4
  | 3 => top 6
  | 4 => top 7
  | 5 => top 8
  | 6 => top 9
  | 7 => top 10
  | 8 => top 11
  | 9 => top 12
  | 10 => top 13
  | 11 => top 14
  | 12 => top 15
  | 13 => top 16
  | 14 => top 17
  | 15 => top 18
  | 16 => top 19
  | 17 => top 20
  | 18 => top 21
  | 19 => top 22
  | 20 => top 23
  | 21 => top 24
  | 22 => top 25
  | 23 => top 26
  | _ => top 0
def bis : List Str := ["abs", "int", "isinstance", "len", "list", "max", "range", "sum", "tuple", "zip"]
def glN : Nat → Option Str := fun _ => none
def glD : Nat → Option D := fun _ => none
abbrev chOk (f : Nat) (d : Df) : Prop := FnScope d.N d.ps (defScope (stt f)) ∧ chSs ⟨d.N, fun g => (tab g).map Df.nm, glN, bis⟩ d.body (defScope (stt f)) (fun _ => true) (defBody (stt f)) = true
theorem ch0 : chOk 0 d0 := ⟨⟨rfl, rfl, rfl, by decide +kernel, rfl, by decide +kernel, by decide +kernel⟩, by decide +kernel⟩
theorem ch1 : chOk 1 d1 := ⟨⟨rfl, rfl, rfl, by decide +kernel, rfl, by decide +kernel, by decide +kernel⟩, by decide +kernel⟩
theorem ch2 : chOk 2 d2 := ⟨⟨rfl, rfl, rfl, by decide +kernel, rfl, by decide +kernel, by decide +kernel⟩, by decide +kernel⟩
theorem ch3 : chOk 3 d3 := ⟨⟨rfl, rfl, rfl, by decide +kernel, rfl, by decide +kernel, by decide +kernel⟩, by decide +kernel⟩
theorem ch4 : chOk 4 d4 := ⟨⟨rfl, rfl, rfl, by decide +kernel, rfl, by decide +kernel, by decide +kernel⟩, by decide +kernel⟩
theorem ch5 : chOk 5 d5 := ⟨⟨rfl, rfl, rfl, by decide +kernel, rfl, by decide +kernel, by decide +kernel⟩, by decide +kernel⟩
theorem ch6 : chOk 6 d6 := ⟨⟨rfl, rfl, rfl, by decide +kernel, rfl, by decide +kernel, by decide +kernel⟩, by decide +kernel⟩
theorem ch7 : chOk 7 d7 := ⟨⟨rfl, rfl, rfl, by decide +kernel, rfl, by decide +kernel, by decide +kernel⟩, by decide +kernel⟩
theorem ch8 : chOk 8 d8 := ⟨⟨rfl, rfl, rfl, by decide +kernel, rfl, by decide +kernel, by decide +kernel⟩, by decide +kernel⟩
theorem ch9 : chOk 9 d9 := ⟨⟨rfl, rfl, rfl, by decide +kernel, rfl, by decide +kernel, by decide +kernel⟩, by decide +kernel⟩
theorem ch10 : chOk 10 d10 := ⟨⟨rfl, rfl, rfl, by decide +kernel, rfl, by decide +kernel, by decide +kernel⟩, by decide +kernel⟩
theorem ch11 : chOk 11 d11 := ⟨⟨rfl, rfl, rfl, by decide +kernel, rfl, by decide +kernel, by decide +kernel⟩, by decide +kernel⟩
theorem ch12 : chOk 12 d12 := ⟨⟨rfl, rfl, rfl, by decide +kernel, rfl, by decide +kernel, by decide +kernel⟩, by decide +kernel⟩
theorem ch13 : chOk 13 d13 := ⟨⟨rfl, rfl, rfl, by decide +kernel, rfl, by decide +kernel, by decide +kernel⟩, by decide +kernel⟩
theorem ch14 : chOk 14 d14 := ⟨⟨rfl, rfl, rfl, by decide +kernel, rfl, by decide +kernel, by decide +kernel⟩, by decide +kernel⟩
theorem ch15 : chOk 15 d15 := ⟨⟨rfl, rfl, rfl, by decide +kernel, rfl, by decide +kernel, by decide +kernel⟩, by decide +kernel⟩
theorem ch16 : chOk 16 d16 := ⟨⟨rfl, rfl, rfl, by decide +kernel, rfl, by decide +kernel, by decide +kernel⟩, by decide +kernel⟩
theorem ch17 : chOk 17 d17 := ⟨⟨rfl, rfl, rfl, by decide +kernel, rfl, by decide +kernel, by decide +kernel⟩, by decide +kernel⟩
theorem ch18 : chOk 18 d18 := ⟨⟨rfl, rfl, rfl, by decide +kernel, rfl, by decide +kernel, by decide +kernel⟩, by decide +kernel⟩
theorem ch19 : chOk 19 d19 := ⟨⟨rfl, rfl, rfl, by decide +kernel, rfl, by decide +kernel, by decide +kernel⟩, by decide +kernel⟩
theorem ch20 : chOk 20 d20 := ⟨⟨rfl, rfl, rfl, by decide +kernel, rfl, by decide +kernel, by decide +kernel⟩, by decide +kernel⟩
theorem ch21 : chOk 21 d21 := ⟨⟨rfl, rfl, rfl, by decide +kernel, rfl, by decide +kernel, by decide +kernel⟩, by decide +kernel⟩
theorem ch22 : chOk 22 d22 := ⟨⟨rfl, rfl, rfl, by decide +kernel, rfl, by decide +kernel, by decide +kernel⟩, by decide +kernel⟩
theorem ch23 : chOk 23 d23 := ⟨⟨rfl, rfl, rfl, by decide +kernel, rfl, by decide +kernel, by decide +kernel⟩, by decide +kernel⟩
theorem chAll : ∀ f d, tab f = some d → chOk f d := by
  intro f d h
  unfold tab at h
  split at h <;> cases h
  · exact ch0
  · exact ch1
  · exact ch2
  · exact ch3
  · exact ch4
  · exact ch5
  · exact ch6
  · exact ch7
  · exact ch8
  · exact ch9
  · exact ch10
  · exact ch11
  · exact ch12
  · exact ch13
  · exact ch14
  · exact ch15
  · exact ch16
  · exact ch17
  · exact ch18
  · exact ch19
  · exact ch20
  · exact ch21
  · exact ch22
  · exact ch23
theorem mk {w : World} {K : PySem.W.Frag} {h : Heap} {mg : Str → Option Value} {fa : Addr} (X : K.In h) (G : h.Ns mainGlobals mg) (hfa : mg "law" = some (.ref fa))
    {f0 : Addr} {od0 an0 : Option Addr} {sl0 : Array (Option Value)} {oc0 kV0 dc0 pm0 cd0 ct0 : Value}
    (a0 : PySem.W.nsIn K mainGlobals "frozen" = some (some (.ref f0))) (l0 : K.lookup f0 = some ⟨oc0, od0, .func (PySem.W.fnOf "frozen" "frozen" (defArgs (top 1)) (defBody (top 1)) (defScope (top 1)) .none kV0 dc0 pm0 an0 cd0 ct0), sl0⟩) (c0 : PySem.W.codeIn K cd0 "frozen" = true) (k0 : PySem.W.keepIn K (.ref f0) = true)
    {f1 : Addr} {od1 an1 : Option Addr} {sl1 : Array (Option Value)} {oc1 kV1 dc1 pm1 cd1 ct1 : Value}
    (a1 : PySem.W.nsIn K mainGlobals "is_solution" = some (some (.ref f1))) (l1 : K.lookup f1 = some ⟨oc1, od1, .func (PySem.W.fnOf "is_solution" "is_solution" (defArgs (top 3)) (defBody (top 3)) (defScope (top 3)) .none kV1 dc1 pm1 an1 cd1 ct1), sl1⟩) (c1 : PySem.W.codeIn K cd1 "is_solution" = true) (k1 : PySem.W.keepIn K (.ref f1) = true)
    {f2 : Addr} {od2 an2 : Option Addr} {sl2 : Array (Option Value)} {oc2 kV2 dc2 pm2 cd2 ct2 : Value}
    (a2 : PySem.W.nsIn K mainGlobals "are_weights" = some (some (.ref f2))) (l2 : K.lookup f2 = some ⟨oc2, od2, .func (PySem.W.fnOf "are_weights" "are_weights" (defArgs (top 4)) (defBody (top 4)) (defScope (top 4)) .none kV2 dc2 pm2 an2 cd2 ct2), sl2⟩) (c2 : PySem.W.codeIn K cd2 "are_weights" = true) (k2 : PySem.W.keepIn K (.ref f2) = true)
    {f3 : Addr} {od3 an3 : Option Addr} {sl3 : Array (Option Value)} {oc3 kV3 dc3 pm3 cd3 ct3 : Value}
    (a3 : PySem.W.nsIn K mainGlobals "_law_cell" = some (some (.ref f3))) (l3 : K.lookup f3 = some ⟨oc3, od3, .func (PySem.W.fnOf "_law_cell" "_law_cell" (defArgs (top 6)) (defBody (top 6)) (defScope (top 6)) .none kV3 dc3 pm3 an3 cd3 ct3), sl3⟩) (c3 : PySem.W.codeIn K cd3 "_law_cell" = true) (k3 : PySem.W.keepIn K (.ref f3) = true)
    {f4 : Addr} {od4 an4 : Option Addr} {sl4 : Array (Option Value)} {oc4 kV4 dc4 pm4 cd4 ct4 : Value}
    (a4 : PySem.W.nsIn K mainGlobals "_law_digits" = some (some (.ref f4))) (l4 : K.lookup f4 = some ⟨oc4, od4, .func (PySem.W.fnOf "_law_digits" "_law_digits" (defArgs (top 7)) (defBody (top 7)) (defScope (top 7)) .none kV4 dc4 pm4 an4 cd4 ct4), sl4⟩) (c4 : PySem.W.codeIn K cd4 "_law_digits" = true) (k4 : PySem.W.keepIn K (.ref f4) = true)
    {f5 : Addr} {od5 an5 : Option Addr} {sl5 : Array (Option Value)} {oc5 kV5 dc5 pm5 cd5 ct5 : Value}
    (a5 : PySem.W.nsIn K mainGlobals "_law_near" = some (some (.ref f5))) (l5 : K.lookup f5 = some ⟨oc5, od5, .func (PySem.W.fnOf "_law_near" "_law_near" (defArgs (top 8)) (defBody (top 8)) (defScope (top 8)) .none kV5 dc5 pm5 an5 cd5 ct5), sl5⟩) (c5 : PySem.W.codeIn K cd5 "_law_near" = true) (k5 : PySem.W.keepIn K (.ref f5) = true)
    {f6 : Addr} {od6 an6 : Option Addr} {sl6 : Array (Option Value)} {oc6 kV6 dc6 pm6 cd6 ct6 : Value}
    (a6 : PySem.W.nsIn K mainGlobals "_law_signed" = some (some (.ref f6))) (l6 : K.lookup f6 = some ⟨oc6, od6, .func (PySem.W.fnOf "_law_signed" "_law_signed" (defArgs (top 9)) (defBody (top 9)) (defScope (top 9)) .none kV6 dc6 pm6 an6 cd6 ct6), sl6⟩) (c6 : PySem.W.codeIn K cd6 "_law_signed" = true) (k6 : PySem.W.keepIn K (.ref f6) = true)
    {f7 : Addr} {od7 an7 : Option Addr} {sl7 : Array (Option Value)} {oc7 kV7 dc7 pm7 cd7 ct7 : Value}
    (a7 : PySem.W.nsIn K mainGlobals "_law_row" = some (some (.ref f7))) (l7 : K.lookup f7 = some ⟨oc7, od7, .func (PySem.W.fnOf "_law_row" "_law_row" (defArgs (top 10)) (defBody (top 10)) (defScope (top 10)) .none kV7 dc7 pm7 an7 cd7 ct7), sl7⟩) (c7 : PySem.W.codeIn K cd7 "_law_row" = true) (k7 : PySem.W.keepIn K (.ref f7) = true)
    {f8 : Addr} {od8 an8 : Option Addr} {sl8 : Array (Option Value)} {oc8 kV8 dc8 pm8 cd8 ct8 : Value}
    (a8 : PySem.W.nsIn K mainGlobals "_law_rows" = some (some (.ref f8))) (l8 : K.lookup f8 = some ⟨oc8, od8, .func (PySem.W.fnOf "_law_rows" "_law_rows" (defArgs (top 11)) (defBody (top 11)) (defScope (top 11)) .none kV8 dc8 pm8 an8 cd8 ct8), sl8⟩) (c8 : PySem.W.codeIn K cd8 "_law_rows" = true) (k8 : PySem.W.keepIn K (.ref f8) = true)
    {f9 : Addr} {od9 an9 : Option Addr} {sl9 : Array (Option Value)} {oc9 kV9 dc9 pm9 cd9 ct9 : Value}
    (a9 : PySem.W.nsIn K mainGlobals "_law_sum" = some (some (.ref f9))) (l9 : K.lookup f9 = some ⟨oc9, od9, .func (PySem.W.fnOf "_law_sum" "_law_sum" (defArgs (top 12)) (defBody (top 12)) (defScope (top 12)) .none kV9 dc9 pm9 an9 cd9 ct9), sl9⟩) (c9 : PySem.W.codeIn K cd9 "_law_sum" = true) (k9 : PySem.W.keepIn K (.ref f9) = true)
    {f10 : Addr} {od10 an10 : Option Addr} {sl10 : Array (Option Value)} {oc10 kV10 dc10 pm10 cd10 ct10 : Value}
    (a10 : PySem.W.nsIn K mainGlobals "_law_solved" = some (some (.ref f10))) (l10 : K.lookup f10 = some ⟨oc10, od10, .func (PySem.W.fnOf "_law_solved" "_law_solved" (defArgs (top 13)) (defBody (top 13)) (defScope (top 13)) .none kV10 dc10 pm10 an10 cd10 ct10), sl10⟩) (c10 : PySem.W.codeIn K cd10 "_law_solved" = true) (k10 : PySem.W.keepIn K (.ref f10) = true)
    {f11 : Addr} {od11 an11 : Option Addr} {sl11 : Array (Option Value)} {oc11 kV11 dc11 pm11 cd11 ct11 : Value}
    (a11 : PySem.W.nsIn K mainGlobals "_law_solves" = some (some (.ref f11))) (l11 : K.lookup f11 = some ⟨oc11, od11, .func (PySem.W.fnOf "_law_solves" "_law_solves" (defArgs (top 14)) (defBody (top 14)) (defScope (top 14)) .none kV11 dc11 pm11 an11 cd11 ct11), sl11⟩) (c11 : PySem.W.codeIn K cd11 "_law_solves" = true) (k11 : PySem.W.keepIn K (.ref f11) = true)
    {f12 : Addr} {od12 an12 : Option Addr} {sl12 : Array (Option Value)} {oc12 kV12 dc12 pm12 cd12 ct12 : Value}
    (a12 : PySem.W.nsIn K mainGlobals "_law_bars" = some (some (.ref f12))) (l12 : K.lookup f12 = some ⟨oc12, od12, .func (PySem.W.fnOf "_law_bars" "_law_bars" (defArgs (top 15)) (defBody (top 15)) (defScope (top 15)) .none kV12 dc12 pm12 an12 cd12 ct12), sl12⟩) (c12 : PySem.W.codeIn K cd12 "_law_bars" = true) (k12 : PySem.W.keepIn K (.ref f12) = true)
    {f13 : Addr} {od13 an13 : Option Addr} {sl13 : Array (Option Value)} {oc13 kV13 dc13 pm13 cd13 ct13 : Value}
    (a13 : PySem.W.nsIn K mainGlobals "_law_passed" = some (some (.ref f13))) (l13 : K.lookup f13 = some ⟨oc13, od13, .func (PySem.W.fnOf "_law_passed" "_law_passed" (defArgs (top 16)) (defBody (top 16)) (defScope (top 16)) .none kV13 dc13 pm13 an13 cd13 ct13), sl13⟩) (c13 : PySem.W.codeIn K cd13 "_law_passed" = true) (k13 : PySem.W.keepIn K (.ref f13) = true)
    {f14 : Addr} {od14 an14 : Option Addr} {sl14 : Array (Option Value)} {oc14 kV14 dc14 pm14 cd14 ct14 : Value}
    (a14 : PySem.W.nsIn K mainGlobals "_law_barred" = some (some (.ref f14))) (l14 : K.lookup f14 = some ⟨oc14, od14, .func (PySem.W.fnOf "_law_barred" "_law_barred" (defArgs (top 17)) (defBody (top 17)) (defScope (top 17)) .none kV14 dc14 pm14 an14 cd14 ct14), sl14⟩) (c14 : PySem.W.codeIn K cd14 "_law_barred" = true) (k14 : PySem.W.keepIn K (.ref f14) = true)
    {f15 : Addr} {od15 an15 : Option Addr} {sl15 : Array (Option Value)} {oc15 kV15 dc15 pm15 cd15 ct15 : Value}
    (a15 : PySem.W.nsIn K mainGlobals "_law_right_side" = some (some (.ref f15))) (l15 : K.lookup f15 = some ⟨oc15, od15, .func (PySem.W.fnOf "_law_right_side" "_law_right_side" (defArgs (top 18)) (defBody (top 18)) (defScope (top 18)) .none kV15 dc15 pm15 an15 cd15 ct15), sl15⟩) (c15 : PySem.W.codeIn K cd15 "_law_right_side" = true) (k15 : PySem.W.keepIn K (.ref f15) = true)
    {f16 : Addr} {od16 an16 : Option Addr} {sl16 : Array (Option Value)} {oc16 kV16 dc16 pm16 cd16 ct16 : Value}
    (a16 : PySem.W.nsIn K mainGlobals "_law_coefficient" = some (some (.ref f16))) (l16 : K.lookup f16 = some ⟨oc16, od16, .func (PySem.W.fnOf "_law_coefficient" "_law_coefficient" (defArgs (top 19)) (defBody (top 19)) (defScope (top 19)) .none kV16 dc16 pm16 an16 cd16 ct16), sl16⟩) (c16 : PySem.W.codeIn K cd16 "_law_coefficient" = true) (k16 : PySem.W.keepIn K (.ref f16) = true)
    {f17 : Addr} {od17 an17 : Option Addr} {sl17 : Array (Option Value)} {oc17 kV17 dc17 pm17 cd17 ct17 : Value}
    (a17 : PySem.W.nsIn K mainGlobals "_law_changed" = some (some (.ref f17))) (l17 : K.lookup f17 = some ⟨oc17, od17, .func (PySem.W.fnOf "_law_changed" "_law_changed" (defArgs (top 20)) (defBody (top 20)) (defScope (top 20)) .none kV17 dc17 pm17 an17 cd17 ct17), sl17⟩) (c17 : PySem.W.codeIn K cd17 "_law_changed" = true) (k17 : PySem.W.keepIn K (.ref f17) = true)
    {f18 : Addr} {od18 an18 : Option Addr} {sl18 : Array (Option Value)} {oc18 kV18 dc18 pm18 cd18 ct18 : Value}
    (a18 : PySem.W.nsIn K mainGlobals "_law_shifted" = some (some (.ref f18))) (l18 : K.lookup f18 = some ⟨oc18, od18, .func (PySem.W.fnOf "_law_shifted" "_law_shifted" (defArgs (top 21)) (defBody (top 21)) (defScope (top 21)) .none kV18 dc18 pm18 an18 cd18 ct18), sl18⟩) (c18 : PySem.W.codeIn K cd18 "_law_shifted" = true) (k18 : PySem.W.keepIn K (.ref f18) = true)
    {f19 : Addr} {od19 an19 : Option Addr} {sl19 : Array (Option Value)} {oc19 kV19 dc19 pm19 cd19 ct19 : Value}
    (a19 : PySem.W.nsIn K mainGlobals "_law_solution" = some (some (.ref f19))) (l19 : K.lookup f19 = some ⟨oc19, od19, .func (PySem.W.fnOf "_law_solution" "_law_solution" (defArgs (top 22)) (defBody (top 22)) (defScope (top 22)) .none kV19 dc19 pm19 an19 cd19 ct19), sl19⟩) (c19 : PySem.W.codeIn K cd19 "_law_solution" = true) (k19 : PySem.W.keepIn K (.ref f19) = true)
    {f20 : Addr} {od20 an20 : Option Addr} {sl20 : Array (Option Value)} {oc20 kV20 dc20 pm20 cd20 ct20 : Value}
    (a20 : PySem.W.nsIn K mainGlobals "_law_weights" = some (some (.ref f20))) (l20 : K.lookup f20 = some ⟨oc20, od20, .func (PySem.W.fnOf "_law_weights" "_law_weights" (defArgs (top 23)) (defBody (top 23)) (defScope (top 23)) .none kV20 dc20 pm20 an20 cd20 ct20), sl20⟩) (c20 : PySem.W.codeIn K cd20 "_law_weights" = true) (k20 : PySem.W.keepIn K (.ref f20) = true)
    {f21 : Addr} {od21 an21 : Option Addr} {sl21 : Array (Option Value)} {oc21 kV21 dc21 pm21 cd21 ct21 : Value}
    (a21 : PySem.W.nsIn K mainGlobals "_law_ask_solutions" = some (some (.ref f21))) (l21 : K.lookup f21 = some ⟨oc21, od21, .func (PySem.W.fnOf "_law_ask_solutions" "_law_ask_solutions" (defArgs (top 24)) (defBody (top 24)) (defScope (top 24)) .none kV21 dc21 pm21 an21 cd21 ct21), sl21⟩) (c21 : PySem.W.codeIn K cd21 "_law_ask_solutions" = true) (k21 : PySem.W.keepIn K (.ref f21) = true)
    {f22 : Addr} {od22 an22 : Option Addr} {sl22 : Array (Option Value)} {oc22 kV22 dc22 pm22 cd22 ct22 : Value}
    (a22 : PySem.W.nsIn K mainGlobals "_law_ask_weights" = some (some (.ref f22))) (l22 : K.lookup f22 = some ⟨oc22, od22, .func (PySem.W.fnOf "_law_ask_weights" "_law_ask_weights" (defArgs (top 25)) (defBody (top 25)) (defScope (top 25)) .none kV22 dc22 pm22 an22 cd22 ct22), sl22⟩) (c22 : PySem.W.codeIn K cd22 "_law_ask_weights" = true) (k22 : PySem.W.keepIn K (.ref f22) = true)
    {f23 : Addr} {od23 an23 : Option Addr} {sl23 : Array (Option Value)} {oc23 kV23 dc23 pm23 cd23 ct23 : Value}
    (a23 : PySem.W.nsIn K mainGlobals "law" = some (some (.ref f23))) (l23 : K.lookup f23 = some ⟨oc23, od23, .func (PySem.W.fnOf "law" "law" (defArgs (top 26)) (defBody (top 26)) (defScope (top 26)) .none kV23 dc23 pm23 an23 cd23 ct23), sl23⟩) (c23 : PySem.W.codeIn K cd23 "law" = true) (k23 : PySem.W.keepIn K (.ref f23) = true)
    (z0 : PySem.W.nsIn K mainGlobals "abs" = some none)
    (z1 : PySem.W.nsIn K mainGlobals "int" = some none)
    (z2 : PySem.W.nsIn K mainGlobals "isinstance" = some none)
    (z3 : PySem.W.nsIn K mainGlobals "len" = some none)
    (z4 : PySem.W.nsIn K mainGlobals "list" = some none)
    (z5 : PySem.W.nsIn K mainGlobals "max" = some none)
    (z6 : PySem.W.nsIn K mainGlobals "range" = some none)
    (z7 : PySem.W.nsIn K mainGlobals "sum" = some none)
    (z8 : PySem.W.nsIn K mainGlobals "tuple" = some none)
    (z9 : PySem.W.nsIn K mainGlobals "zip" = some none)
    {fu kk : Nat} (hlaw : ∀ ns : List Int, ns.length ≤ 63 → callF tab glD fu kk 23 [(.bor, .lst (ns.map D.int))] = some (.val, .bl true)) :
    ∃ fd : FuncData, (∀ (s : Shared) (u : Value), BindsTo s fd ⟨[u], []⟩ [("script", u)]) ∧ ∀ base : Heap, K.In base → base.Ns mainGlobals mg → FnOk pr w K mg base CX0 kk fa fd ["script"] (spLaw K) := by
  have e := hfa.symm.trans (PySem.W.mg_of X G a23)
  cases e
  have F0 := fun_mk (st := stt 0) l0 c0 k0
  have B0 := F0.binds (ps := d0.ps) fun _ _ _ _ _ _ us hl => match us, hl with | [_], _ => rfl
  have F1 := fun_mk (st := stt 1) l1 c1 k1
  have B1 := F1.binds (ps := d1.ps) fun _ _ _ _ _ _ us hl => match us, hl with | [_, _, _], _ => rfl
  have F2 := fun_mk (st := stt 2) l2 c2 k2
  have B2 := F2.binds (ps := d2.ps) fun _ _ _ _ _ _ us hl => match us, hl with | [_, _, _], _ => rfl
  have F3 := fun_mk (st := stt 3) l3 c3 k3
  have B3 := F3.binds (ps := d3.ps) fun _ _ _ _ _ _ us hl => match us, hl with | [_, _], _ => rfl
  have F4 := fun_mk (st := stt 4) l4 c4 k4
  have B4 := F4.binds (ps := d4.ps) fun _ _ _ _ _ _ us hl => match us, hl with | [_, _], _ => rfl
  have F5 := fun_mk (st := stt 5) l5 c5 k5
  have B5 := F5.binds (ps := d5.ps) fun _ _ _ _ _ _ us hl => match us, hl with | [_, _, _], _ => rfl
  have F6 := fun_mk (st := stt 6) l6 c6 k6
  have B6 := F6.binds (ps := d6.ps) fun _ _ _ _ _ _ us hl => match us, hl with | [_], _ => rfl
  have F7 := fun_mk (st := stt 7) l7 c7 k7
  have B7 := F7.binds (ps := d7.ps) fun _ _ _ _ _ _ us hl => match us, hl with | [_, _, _, _], _ => rfl
  have F8 := fun_mk (st := stt 8) l8 c8 k8
  have B8 := F8.binds (ps := d8.ps) fun _ _ _ _ _ _ us hl => match us, hl with | [_, _, _, _], _ => rfl
  have F9 := fun_mk (st := stt 9) l9 c9 k9
  have B9 := F9.binds (ps := d9.ps) fun _ _ _ _ _ _ us hl => match us, hl with | [_, _], _ => rfl
  have F10 := fun_mk (st := stt 10) l10 c10 k10
  have B10 := F10.binds (ps := d10.ps) fun _ _ _ _ _ _ us hl => match us, hl with | [_, _, _], _ => rfl
  have F11 := fun_mk (st := stt 11) l11 c11 k11
  have B11 := F11.binds (ps := d11.ps) fun _ _ _ _ _ _ us hl => match us, hl with | [_, _, _], _ => rfl
  have F12 := fun_mk (st := stt 12) l12 c12 k12
  have B12 := F12.binds (ps := d12.ps) fun _ _ _ _ _ _ us hl => match us, hl with | [_, _, _, _], _ => rfl
  have F13 := fun_mk (st := stt 13) l13 c13 k13
  have B13 := F13.binds (ps := d13.ps) fun _ _ _ _ _ _ us hl => match us, hl with | [_, _], _ => rfl
  have F14 := fun_mk (st := stt 14) l14 c14 k14
  have B14 := F14.binds (ps := d14.ps) fun _ _ _ _ _ _ us hl => match us, hl with | [_, _, _, _], _ => rfl
  have F15 := fun_mk (st := stt 15) l15 c15 k15
  have B15 := F15.binds (ps := d15.ps) fun _ _ _ _ _ _ us hl => match us, hl with | [_, _, _], _ => rfl
  have F16 := fun_mk (st := stt 16) l16 c16 k16
  have B16 := F16.binds (ps := d16.ps) fun _ _ _ _ _ _ us hl => match us, hl with | [_, _, _, _], _ => rfl
  have F17 := fun_mk (st := stt 17) l17 c17 k17
  have B17 := F17.binds (ps := d17.ps) fun _ _ _ _ _ _ us hl => match us, hl with | [_, _, _], _ => rfl
  have F18 := fun_mk (st := stt 18) l18 c18 k18
  have B18 := F18.binds (ps := d18.ps) fun _ _ _ _ _ _ us hl => match us, hl with | [_, _, _], _ => rfl
  have F19 := fun_mk (st := stt 19) l19 c19 k19
  have B19 := F19.binds (ps := d19.ps) fun _ _ _ _ _ _ us hl => match us, hl with | [_, _, _, _], _ => rfl
  have F20 := fun_mk (st := stt 20) l20 c20 k20
  have B20 := F20.binds (ps := d20.ps) fun _ _ _ _ _ _ us hl => match us, hl with | [_, _, _, _, _], _ => rfl
  have F21 := fun_mk (st := stt 21) l21 c21 k21
  have B21 := F21.binds (ps := d21.ps) fun _ _ _ _ _ _ us hl => match us, hl with | [_, _, _, _, _, _, _], _ => rfl
  have F22 := fun_mk (st := stt 22) l22 c22 k22
  have B22 := F22.binds (ps := d22.ps) fun _ _ _ _ _ _ us hl => match us, hl with | [_, _, _, _, _, _, _], _ => rfl
  have F23 := fun_mk (st := stt 23) l23 c23 k23
  have B23 := F23.binds (ps := d23.ps) fun _ _ _ _ _ _ us hl => match us, hl with | [_], _ => rfl
  refine ⟨PySem.W.fnOf "law" "law" (defArgs (stt 23)) (defBody (stt 23)) (defScope (stt 23)) .none kV23 dc23 pm23 an23 cd23 ct23, fun s v => .of_eq rfl, fun base _ _ => ?_⟩
  have T : TabOk pr w K mg tab stt glN bis glD := ⟨fun f d h => ?_, chAll, fun x hx => ?_, fun j x h => nomatch h⟩
  · exact law_ok T (f := 23) (d := d23) rfl F23 hlaw
  · unfold tab at h
    split at h <;> cases h
    · exact ⟨f0, _, F0, B0, PySem.W.mg_of X G a0⟩
    · exact ⟨f1, _, F1, B1, PySem.W.mg_of X G a1⟩
    · exact ⟨f2, _, F2, B2, PySem.W.mg_of X G a2⟩
    · exact ⟨f3, _, F3, B3, PySem.W.mg_of X G a3⟩
    · exact ⟨f4, _, F4, B4, PySem.W.mg_of X G a4⟩
    · exact ⟨f5, _, F5, B5, PySem.W.mg_of X G a5⟩
    · exact ⟨f6, _, F6, B6, PySem.W.mg_of X G a6⟩
    · exact ⟨f7, _, F7, B7, PySem.W.mg_of X G a7⟩
    · exact ⟨f8, _, F8, B8, PySem.W.mg_of X G a8⟩
    · exact ⟨f9, _, F9, B9, PySem.W.mg_of X G a9⟩
    · exact ⟨f10, _, F10, B10, PySem.W.mg_of X G a10⟩
    · exact ⟨f11, _, F11, B11, PySem.W.mg_of X G a11⟩
    · exact ⟨f12, _, F12, B12, PySem.W.mg_of X G a12⟩
    · exact ⟨f13, _, F13, B13, PySem.W.mg_of X G a13⟩
    · exact ⟨f14, _, F14, B14, PySem.W.mg_of X G a14⟩
    · exact ⟨f15, _, F15, B15, PySem.W.mg_of X G a15⟩
    · exact ⟨f16, _, F16, B16, PySem.W.mg_of X G a16⟩
    · exact ⟨f17, _, F17, B17, PySem.W.mg_of X G a17⟩
    · exact ⟨f18, _, F18, B18, PySem.W.mg_of X G a18⟩
    · exact ⟨f19, _, F19, B19, PySem.W.mg_of X G a19⟩
    · exact ⟨f20, _, F20, B20, PySem.W.mg_of X G a20⟩
    · exact ⟨f21, _, F21, B21, PySem.W.mg_of X G a21⟩
    · exact ⟨f22, _, F22, B22, PySem.W.mg_of X G a22⟩
    · exact ⟨fa, _, F23, B23, PySem.W.mg_of X G a23⟩
  · unfold bis at hx
    simp only [List.mem_cons, List.not_mem_nil, or_false] at hx
    rcases hx with rfl | rfl | rfl | rfl | rfl | rfl | rfl | rfl | rfl | rfl
    · exact PySem.W.mg_none_of X G z0
    · exact PySem.W.mg_none_of X G z1
    · exact PySem.W.mg_none_of X G z2
    · exact PySem.W.mg_none_of X G z3
    · exact PySem.W.mg_none_of X G z4
    · exact PySem.W.mg_none_of X G z5
    · exact PySem.W.mg_none_of X G z6
    · exact PySem.W.mg_none_of X G z7
    · exact PySem.W.mg_none_of X G z8
    · exact PySem.W.mg_none_of X G z9
end My
end

section
set_option Elab.async false
set_option linter.all false
set_option maxRecDepth 100000
set_option maxHeartbeats 1000000
namespace My
open PySem
def near (r s d : Int) : Int := if d % 3 = 0 then r % s else r % s + s * (d / 3 % (2 * (9000 / s)) - 9000 / s)
theorem near_ok (cf : CF) (gl : Nat → Option D) (fu : Nat) (r s d : Int) (h : 0 < s) (h2 : s ≤ 9000) :
    runF cf gl fu d5 [(.val, .int r), (.val, .int s), (.val, .int d)] = some (.val, .int (near r s d)) := by
  have h3 : 0 < 2 * (9000 / s) := by
    have : 1 ≤ 9000 / s := (Int.le_ediv_iff_mul_le h).mpr (by omega)
    omega
  by_cases q : d % 3 = 0
  · simp -implicitDefEqProofs (disch := omega) only [d5, b5, runF, List.length_cons, List.length_nil, List.map_cons, List.map_nil, List.cons_append, List.nil_append, List.append_nil, List.replicate_succ, List.replicate_zero, Nat.reduceAdd, Nat.reduceSub, Nat.zero_add, Nat.reduceLT, Nat.reduceLeDiff, List.getElem?_cons_zero, List.getElem?_cons_succ, List.set_cons_zero, List.set_cons_succ, rdV, D.isMut, if_true, if_false, ite_true, ite_false, reduceCtorEq, true_or, or_true, and_self, or_false, false_or, Bool.false_eq_true, x_var, x_int, x_str, x_bl, x_non, x_bin, x_and, x_or, x_andN, x_orN, x_andC, x_orC, x_not, x_neg, x_ite, x_lst, x_tup, x_nil, x_cons, x_call, x_bi, x_slc, x_isi, x_oN, x_sNil, x_sCons, x_set, x_sIte, x_ret, x_retN, x_brk, x_cnt, x_pass, x_doc, j_bin, j_un, j_seq, j_seqR, j_seqB, j_seqC, j_iteT, j_iteF, j_iteCT, j_iteCF, j_andT, j_andF, j_orT, j_orF, j_bl, j_cons, j_bi, j_asB, j_stV, j_stO, j_ret, retE, j_sl, o_add, o_sub, o_mulL, o_mulR, o_div, o_mod, o_pow, o_lt, o_le, o_gt, o_ge, o_eq, o_ne, o_isB, b_int, b_intB, b_lenL, b_lenT, b_max, b_min, b_tupL, b_tupT, b_lstL, b_lstT, b_abs, Option.bind_some, Option.map_some, Option.bind_none, Option.map_none, x_lock, x_frz, x_for, x_mth, x_unp, x_setIx, x_comp, x_it, x_rng, x_enm, x_zip, j_lockV, j_lockB, j_lockO, j_frzO, j_frzV, j_frzB, j_own, j_itL, j_itT, j_enmL, j_enmT, safeI, safeS, t_nm, t_tup, t_tupL, t_nil, t_cons, f_nil, f_one, v_val, v_own, argM, j_lst2, j_tup2, vls_nil, vls_val, vls_own, lstO_s, tupO_s, turn_nx, turn_cnt, fin_r, fin_n, q, decide_true, near]
  · simp -implicitDefEqProofs (disch := omega) only [d5, b5, runF, List.length_cons, List.length_nil, List.map_cons, List.map_nil, List.cons_append, List.nil_append, List.append_nil, List.replicate_succ, List.replicate_zero, Nat.reduceAdd, Nat.reduceSub, Nat.zero_add, Nat.reduceLT, Nat.reduceLeDiff, List.getElem?_cons_zero, List.getElem?_cons_succ, List.set_cons_zero, List.set_cons_succ, rdV, D.isMut, if_true, if_false, ite_true, ite_false, reduceCtorEq, true_or, or_true, and_self, or_false, false_or, Bool.false_eq_true, x_var, x_int, x_str, x_bl, x_non, x_bin, x_and, x_or, x_andN, x_orN, x_andC, x_orC, x_not, x_neg, x_ite, x_lst, x_tup, x_nil, x_cons, x_call, x_bi, x_slc, x_isi, x_oN, x_sNil, x_sCons, x_set, x_sIte, x_ret, x_retN, x_brk, x_cnt, x_pass, x_doc, j_bin, j_un, j_seq, j_seqR, j_seqB, j_seqC, j_iteT, j_iteF, j_iteCT, j_iteCF, j_andT, j_andF, j_orT, j_orF, j_bl, j_cons, j_bi, j_asB, j_stV, j_stO, j_ret, retE, j_sl, o_add, o_sub, o_mulL, o_mulR, o_div, o_mod, o_pow, o_lt, o_le, o_gt, o_ge, o_eq, o_ne, o_isB, b_int, b_intB, b_lenL, b_lenT, b_max, b_min, b_tupL, b_tupT, b_lstL, b_lstT, b_abs, Option.bind_some, Option.map_some, Option.bind_none, Option.map_none, x_lock, x_frz, x_for, x_mth, x_unp, x_setIx, x_comp, x_it, x_rng, x_enm, x_zip, j_lockV, j_lockB, j_lockO, j_frzO, j_frzV, j_frzB, j_own, j_itL, j_itT, j_enmL, j_enmT, safeI, safeS, t_nm, t_tup, t_tupL, t_nil, t_cons, f_nil, f_one, v_val, v_own, argM, j_lst2, j_tup2, vls_nil, vls_val, vls_own, lstO_s, tupO_s, turn_nx, turn_cnt, fin_r, fin_n, q, decide_false, near]
def signed (d : Int) : Int := if d ≤ 10000 then d else d - 20001
theorem signed_ok (cf : CF) (gl : Nat → Option D) (fu : Nat) (d : Int) : runF cf gl fu d6 [(.val, .int d)] = some (.val, .int (signed d)) := by
  by_cases q : d ≤ 10000
  · simp -implicitDefEqProofs (disch := omega) only [d6, b6, runF, List.length_cons, List.length_nil, List.map_cons, List.map_nil, List.cons_append, List.nil_append, List.append_nil, List.replicate_succ, List.replicate_zero, Nat.reduceAdd, Nat.reduceSub, Nat.zero_add, Nat.reduceLT, Nat.reduceLeDiff, List.getElem?_cons_zero, List.getElem?_cons_succ, List.set_cons_zero, List.set_cons_succ, rdV, D.isMut, if_true, if_false, ite_true, ite_false, reduceCtorEq, true_or, or_true, and_self, or_false, false_or, Bool.false_eq_true, x_var, x_int, x_str, x_bl, x_non, x_bin, x_and, x_or, x_andN, x_orN, x_andC, x_orC, x_not, x_neg, x_ite, x_lst, x_tup, x_nil, x_cons, x_call, x_bi, x_slc, x_isi, x_oN, x_sNil, x_sCons, x_set, x_sIte, x_ret, x_retN, x_brk, x_cnt, x_pass, x_doc, j_bin, j_un, j_seq, j_seqR, j_seqB, j_seqC, j_iteT, j_iteF, j_iteCT, j_iteCF, j_andT, j_andF, j_orT, j_orF, j_bl, j_cons, j_bi, j_asB, j_stV, j_stO, j_ret, retE, j_sl, o_add, o_sub, o_mulL, o_mulR, o_div, o_mod, o_pow, o_lt, o_le, o_gt, o_ge, o_eq, o_ne, o_isB, b_int, b_intB, b_lenL, b_lenT, b_max, b_min, b_tupL, b_tupT, b_lstL, b_lstT, b_abs, Option.bind_some, Option.map_some, Option.bind_none, Option.map_none, x_lock, x_frz, x_for, x_mth, x_unp, x_setIx, x_comp, x_it, x_rng, x_enm, x_zip, j_lockV, j_lockB, j_lockO, j_frzO, j_frzV, j_frzB, j_own, j_itL, j_itT, j_enmL, j_enmT, safeI, safeS, t_nm, t_tup, t_tupL, t_nil, t_cons, f_nil, f_one, v_val, v_own, argM, j_lst2, j_tup2, vls_nil, vls_val, vls_own, lstO_s, tupO_s, turn_nx, turn_cnt, fin_r, fin_n, q, decide_true, signed]
  · simp -implicitDefEqProofs (disch := omega) only [d6, b6, runF, List.length_cons, List.length_nil, List.map_cons, List.map_nil, List.cons_append, List.nil_append, List.append_nil, List.replicate_succ, List.replicate_zero, Nat.reduceAdd, Nat.reduceSub, Nat.zero_add, Nat.reduceLT, Nat.reduceLeDiff, List.getElem?_cons_zero, List.getElem?_cons_succ, List.set_cons_zero, List.set_cons_succ, rdV, D.isMut, if_true, if_false, ite_true, ite_false, reduceCtorEq, true_or, or_true, and_self, or_false, false_or, Bool.false_eq_true, x_var, x_int, x_str, x_bl, x_non, x_bin, x_and, x_or, x_andN, x_orN, x_andC, x_orC, x_not, x_neg, x_ite, x_lst, x_tup, x_nil, x_cons, x_call, x_bi, x_slc, x_isi, x_oN, x_sNil, x_sCons, x_set, x_sIte, x_ret, x_retN, x_brk, x_cnt, x_pass, x_doc, j_bin, j_un, j_seq, j_seqR, j_seqB, j_seqC, j_iteT, j_iteF, j_iteCT, j_iteCF, j_andT, j_andF, j_orT, j_orF, j_bl, j_cons, j_bi, j_asB, j_stV, j_stO, j_ret, retE, j_sl, o_add, o_sub, o_mulL, o_mulR, o_div, o_mod, o_pow, o_lt, o_le, o_gt, o_ge, o_eq, o_ne, o_isB, b_int, b_intB, b_lenL, b_lenT, b_max, b_min, b_tupL, b_tupT, b_lstL, b_lstT, b_abs, Option.bind_some, Option.map_some, Option.bind_none, Option.map_none, x_lock, x_frz, x_for, x_mth, x_unp, x_setIx, x_comp, x_it, x_rng, x_enm, x_zip, j_lockV, j_lockB, j_lockO, j_frzO, j_frzV, j_frzB, j_own, j_itL, j_itT, j_enmL, j_enmT, safeI, safeS, t_nm, t_tup, t_tupL, t_nil, t_cons, f_nil, f_one, v_val, v_own, argM, j_lst2, j_tup2, vls_nil, vls_val, vls_own, lstO_s, tupO_s, turn_nx, turn_cnt, fin_r, fin_n, q, decide_false, signed]
end My
end

section
set_option Elab.async false
set_option linter.all false
set_option maxRecDepth 100000
set_option maxHeartbeats 1000000
namespace My
open PySem
theorem atI_ints {ns : List Int} {k : Int} (h0 : 0 ≤ k) (h : k < ns.length) : L2.atI (ns.map D.int) k = some (.int (ns.getD k.toNat 0)) := by
  have hk : k.toNat < ns.length := by omega
  have e : k = ((k.toNat : Nat) : Int) := by omega
  have z := L2.atI_nat (xs := ns.map D.int) (j := k.toNat) (v := .int (ns.getD k.toNat 0)) (by rw [List.getElem?_map, List.getElem?_eq_getElem hk]; simp [List.getD_eq_getElem?_getD, hk])
  rw [← e] at z
  exact z
theorem cell_ok (cf : CF) (gl : Nat → Option D) (fu : Nat) (ns : List Int) (k : Int) (h0 : 0 ≤ k) : ∃ v, runF cf gl fu d3 [(.bor, .lst (ns.map D.int)), (.val, .int k)] = some (.val, .int v) := by
  by_cases q : k < ((ns.map D.int).length : Nat)
  · have a := atI_ints h0 (by simpa using q)
    exact ⟨_, by simp -implicitDefEqProofs (disch := omega) only [d3, b3, runF, List.length_cons, List.length_nil, List.map_cons, List.map_nil, List.cons_append, List.nil_append, List.append_nil, List.replicate_succ, List.replicate_zero, Nat.reduceAdd, Nat.reduceSub, Nat.zero_add, Nat.reduceLT, Nat.reduceLeDiff, List.getElem?_cons_zero, List.getElem?_cons_succ, List.set_cons_zero, List.set_cons_succ, rdV, D.isMut, if_true, if_false, ite_true, ite_false, reduceCtorEq, true_or, or_true, and_self, or_false, false_or, Bool.false_eq_true, x_var, x_int, x_str, x_bl, x_non, x_bin, x_and, x_or, x_andN, x_orN, x_andC, x_orC, x_not, x_neg, x_ite, x_lst, x_tup, x_nil, x_cons, x_call, x_bi, x_slc, x_isi, x_oN, x_sNil, x_sCons, x_set, x_sIte, x_ret, x_retN, x_brk, x_cnt, x_pass, x_doc, j_bin, j_un, j_seq, j_seqR, j_seqB, j_seqC, j_iteT, j_iteF, j_iteCT, j_iteCF, j_andT, j_andF, j_orT, j_orF, j_bl, j_cons, j_bi, j_asB, j_stV, j_stO, j_ret, retE, j_sl, o_add, o_sub, o_mulL, o_mulR, o_div, o_mod, o_pow, o_lt, o_le, o_gt, o_ge, o_eq, o_ne, o_isB, b_int, b_intB, b_lenL, b_lenT, b_max, b_min, b_tupL, b_tupT, b_lstL, b_lstT, b_abs, Option.bind_some, Option.map_some, Option.bind_none, Option.map_none, x_lock, x_frz, x_for, x_mth, x_unp, x_setIx, x_comp, x_it, x_rng, x_enm, x_zip, j_lockV, j_lockB, j_lockO, j_frzO, j_frzV, j_frzB, j_own, j_itL, j_itT, j_enmL, j_enmT, safeI, safeS, t_nm, t_tup, t_tupL, t_nil, t_cons, f_nil, f_one, v_val, v_own, argM, j_lst2, j_tup2, vls_nil, vls_val, vls_own, lstO_s, tupO_s, turn_nx, turn_cnt, fin_r, fin_n, q, decide_true, o_ixL a]; rfl⟩
  · obtain ⟨e, he, hp⟩ := loopF_inv (g := setT (.nm 3)) (b := evS cf gl fu b3_1) (fun _ e => ∃ (v : Int) (x : Option C), 0 ≤ v ∧ v < 1000003 ∧ e = [some (.bor, .lst (ns.map D.int)), some (.val, .int k), some (.val, .int v), x]) (ns.map D.int) 0
      [some (.bor, .lst (ns.map D.int)), some (.val, .int k), some (.val, .int 17), none] ⟨17, none, by omega, by omega, rfl⟩ (by
        rintro i d e hd ⟨v, x, h1, h2, rfl⟩
        rw [List.getElem?_map] at hd
        obtain ⟨n, _, rfl⟩ := Option.map_eq_some_iff.mp hd
        refine ⟨_, _, by simp -implicitDefEqProofs only [runF, List.length_cons, List.length_nil, List.map_cons, List.map_nil, List.cons_append, List.nil_append, List.append_nil, List.replicate_succ, List.replicate_zero, Nat.reduceAdd, Nat.reduceSub, Nat.zero_add, Nat.reduceLT, Nat.reduceLeDiff, List.getElem?_cons_zero, List.getElem?_cons_succ, List.set_cons_zero, List.set_cons_succ, rdV, D.isMut, if_true, if_false, ite_true, ite_false, reduceCtorEq, true_or, or_true, and_self, or_false, false_or, Bool.false_eq_true, x_var, x_int, x_str, x_bl, x_non, x_bin, x_and, x_or, x_andN, x_orN, x_andC, x_orC, x_not, x_neg, x_ite, x_lst, x_tup, x_nil, x_cons, x_call, x_bi, x_slc, x_isi, x_oN, x_sNil, x_sCons, x_set, x_sIte, x_ret, x_retN, x_brk, x_cnt, x_pass, x_doc, j_bin, j_un, j_seq, j_seqR, j_seqB, j_seqC, j_iteT, j_iteF, j_iteCT, j_iteCF, j_andT, j_andF, j_orT, j_orF, j_bl, j_cons, j_bi, j_asB, j_stV, j_stO, j_ret, retE, j_sl, o_add, o_sub, o_mulL, o_mulR, o_div, o_mod, o_pow, o_lt, o_le, o_gt, o_ge, o_eq, o_ne, o_isB, b_int, b_intB, b_lenL, b_lenT, b_max, b_min, b_tupL, b_tupT, b_lstL, b_lstT, b_abs, Option.bind_some, Option.map_some, Option.bind_none, Option.map_none, x_lock, x_frz, x_for, x_mth, x_unp, x_setIx, x_comp, x_it, x_rng, x_enm, x_zip, j_lockV, j_lockB, j_lockO, j_frzO, j_frzV, j_frzB, j_own, j_itL, j_itT, j_enmL, j_enmT, safeI, safeS, t_nm, t_tup, t_tupL, t_nil, t_cons, f_nil, f_one, v_val, v_own, argM, j_lst2, j_tup2, vls_nil, vls_val, vls_own, lstO_s, tupO_s, turn_nx, turn_cnt, fin_r, fin_n]; rfl, .inl ?_, (v * 31 + n % 1000003) % 1000003, some (.val, .int n), by omega, by omega, rfl⟩
        simp -implicitDefEqProofs (disch := omega) only [b3_1, runF, List.length_cons, List.length_nil, List.map_cons, List.map_nil, List.cons_append, List.nil_append, List.append_nil, List.replicate_succ, List.replicate_zero, Nat.reduceAdd, Nat.reduceSub, Nat.zero_add, Nat.reduceLT, Nat.reduceLeDiff, List.getElem?_cons_zero, List.getElem?_cons_succ, List.set_cons_zero, List.set_cons_succ, rdV, D.isMut, if_true, if_false, ite_true, ite_false, reduceCtorEq, true_or, or_true, and_self, or_false, false_or, Bool.false_eq_true, x_var, x_int, x_str, x_bl, x_non, x_bin, x_and, x_or, x_andN, x_orN, x_andC, x_orC, x_not, x_neg, x_ite, x_lst, x_tup, x_nil, x_cons, x_call, x_bi, x_slc, x_isi, x_oN, x_sNil, x_sCons, x_set, x_sIte, x_ret, x_retN, x_brk, x_cnt, x_pass, x_doc, j_bin, j_un, j_seq, j_seqR, j_seqB, j_seqC, j_iteT, j_iteF, j_iteCT, j_iteCF, j_andT, j_andF, j_orT, j_orF, j_bl, j_cons, j_bi, j_asB, j_stV, j_stO, j_ret, retE, j_sl, o_add, o_sub, o_mulL, o_mulR, o_div, o_mod, o_pow, o_lt, o_le, o_gt, o_ge, o_eq, o_ne, o_isB, b_int, b_intB, b_lenL, b_lenT, b_max, b_min, b_tupL, b_tupT, b_lstL, b_lstT, b_abs, Option.bind_some, Option.map_some, Option.bind_none, Option.map_none, x_lock, x_frz, x_for, x_mth, x_unp, x_setIx, x_comp, x_it, x_rng, x_enm, x_zip, j_lockV, j_lockB, j_lockO, j_frzO, j_frzV, j_frzB, j_own, j_itL, j_itT, j_enmL, j_enmT, safeI, safeS, t_nm, t_tup, t_tupL, t_nil, t_cons, f_nil, f_one, v_val, v_own, argM, j_lst2, j_tup2, vls_nil, vls_val, vls_own, lstO_s, tupO_s, turn_nx, turn_cnt, fin_r, fin_n])
    obtain ⟨v, x, h1, h2, rfl⟩ := hp
    exact ⟨_, by simp -implicitDefEqProofs (disch := omega) only [d3, b3, runF, List.length_cons, List.length_nil, List.map_cons, List.map_nil, List.cons_append, List.nil_append, List.append_nil, List.replicate_succ, List.replicate_zero, Nat.reduceAdd, Nat.reduceSub, Nat.zero_add, Nat.reduceLT, Nat.reduceLeDiff, List.getElem?_cons_zero, List.getElem?_cons_succ, List.set_cons_zero, List.set_cons_succ, rdV, D.isMut, if_true, if_false, ite_true, ite_false, reduceCtorEq, true_or, or_true, and_self, or_false, false_or, Bool.false_eq_true, x_var, x_int, x_str, x_bl, x_non, x_bin, x_and, x_or, x_andN, x_orN, x_andC, x_orC, x_not, x_neg, x_ite, x_lst, x_tup, x_nil, x_cons, x_call, x_bi, x_slc, x_isi, x_oN, x_sNil, x_sCons, x_set, x_sIte, x_ret, x_retN, x_brk, x_cnt, x_pass, x_doc, j_bin, j_un, j_seq, j_seqR, j_seqB, j_seqC, j_iteT, j_iteF, j_iteCT, j_iteCF, j_andT, j_andF, j_orT, j_orF, j_bl, j_cons, j_bi, j_asB, j_stV, j_stO, j_ret, retE, j_sl, o_add, o_sub, o_mulL, o_mulR, o_div, o_mod, o_pow, o_lt, o_le, o_gt, o_ge, o_eq, o_ne, o_isB, b_int, b_intB, b_lenL, b_lenT, b_max, b_min, b_tupL, b_tupT, b_lstL, b_lstT, b_abs, Option.bind_some, Option.map_some, Option.bind_none, Option.map_none, x_lock, x_frz, x_for, x_mth, x_unp, x_setIx, x_comp, x_it, x_rng, x_enm, x_zip, j_lockV, j_lockB, j_lockO, j_frzO, j_frzV, j_frzB, j_own, j_itL, j_itT, j_enmL, j_enmT, safeI, safeS, t_nm, t_tup, t_tupL, t_nil, t_cons, f_nil, f_one, v_val, v_own, argM, j_lst2, j_tup2, vls_nil, vls_val, vls_own, lstO_s, tupO_s, turn_nx, turn_cnt, fin_r, fin_n, q, decide_false, j_for he]; rfl⟩
end My
end

section
set_option Elab.async false
set_option linter.all false
set_option maxRecDepth 100000
set_option maxHeartbeats 1000000
namespace My
open PySem
/-- digits: each below its size -/
def DgP (i : Nat) (ds sizes : List Int) : Prop := ds.length = i ∧ ∀ j, j < i → 0 ≤ ds.getD j 0 ∧ ds.getD j 0 < sizes.getD j 0
theorem DgP.step {i : Nat} {ds sizes : List Int} {x : Int} (h : DgP i ds sizes) (h0 : 0 ≤ x) (h1 : x < sizes.getD i 0) : DgP (i + 1) (ds ++ [x]) sizes := by
  obtain ⟨rfl, h⟩ := h
  refine ⟨by simp, fun j hj => ?_⟩
  by_cases e : j = ds.length
  · subst e
    have z : (ds ++ [x]).getD ds.length 0 = x := by simp [List.getD_eq_getElem?_getD]
    rw [z]
    exact ⟨h0, h1⟩
  · have z : (ds ++ [x]).getD j 0 = ds.getD j 0 := by
      rw [List.getD_eq_getElem?_getD, List.getD_eq_getElem?_getD, List.getElem?_append_left (by omega)]
    rw [z]
    exact h j (by omega)
theorem map_app (l : List Int) (x : Int) : l.map D.int ++ [D.int x] = (l ++ [x]).map D.int := by simp
theorem getD_of {l : List Int} {i : Nat} {n : Int} (h : l[i]? = some n) : l.getD i 0 = n := by rw [List.getD_eq_getElem?_getD, h]; rfl
theorem digits_ok (cf : CF) (gl : Nat → Option D) (fu : Nat) (c : Int) (sizes : List Int) {m : M} (hm : m = .val ∨ m = .bor) (hs : ∀ s ∈ sizes, 0 < s ∧ s < 1073741824) (hl : sizes.length < 16777216) :
    ∃ ds, DgP sizes.length ds sizes ∧ runF cf gl fu d4 [(.val, .int c), (m, .lst (sizes.map D.int))] = some (.own, .lst (ds.map D.int)) := by
  have hlm : (sizes.map D.int).length = sizes.length := List.length_map _
  by_cases q : 1000000000000000000 ≤ c
  · obtain ⟨e, he, hp⟩ := loopF_inv (g := setT (.nm 6)) (b := evS cf gl fu b4_1) (fun i e => ∃ (acc : List Int) (rest : Int) (x : Option C), DgP i acc sizes ∧ i ≤ sizes.length ∧ e = [some (.val, .int c), some (m, .lst (sizes.map D.int)), some (.own, .lst (acc.map D.int)), some (.val, .int rest), none, none, x, none]) (sizes.map D.int) 0
      [some (.val, .int c), some (m, .lst (sizes.map D.int)), some (.own, .lst []), some (.val, .int (c - 1000000000000000000)), none, none, none, none] ⟨[], _, none, ⟨rfl, fun j h => absurd h (Nat.not_lt_zero j)⟩, Nat.zero_le _, rfl⟩ (by
        rintro i d e hd ⟨acc, rest, x, h1, h2, rfl⟩
        rw [List.getElem?_map] at hd
        obtain ⟨n, hn, rfl⟩ := Option.map_eq_some_iff.mp hd
        have hb := hs n (List.mem_of_getElem? hn)
        have hi := (List.getElem?_eq_some_iff.mp hn).1
        have hal : (acc.map D.int).length < 16777216 := by rw [List.length_map]; have := h1.1; omega
        rw [Nat.zero_add] at h1 ⊢
        refine ⟨_, _, by simp -implicitDefEqProofs only [runF, List.length_cons, List.length_nil, List.map_cons, List.map_nil, List.cons_append, List.nil_append, List.append_nil, List.replicate_succ, List.replicate_zero, Nat.reduceAdd, Nat.reduceSub, Nat.zero_add, Nat.reduceLT, Nat.reduceLeDiff, List.getElem?_cons_zero, List.getElem?_cons_succ, List.set_cons_zero, List.set_cons_succ, rdV, D.isMut, if_true, if_false, ite_true, ite_false, reduceCtorEq, true_or, or_true, and_self, or_false, false_or, Bool.false_eq_true, x_var, x_int, x_str, x_bl, x_non, x_bin, x_and, x_or, x_andN, x_orN, x_andC, x_orC, x_not, x_neg, x_ite, x_lst, x_tup, x_nil, x_cons, x_call, x_bi, x_slc, x_isi, x_oN, x_sNil, x_sCons, x_set, x_sIte, x_ret, x_retN, x_brk, x_cnt, x_pass, x_doc, j_bin, j_un, j_seq, j_seqR, j_seqB, j_seqC, j_iteT, j_iteF, j_iteCT, j_iteCF, j_andT, j_andF, j_orT, j_orF, j_bl, j_cons, j_bi, j_asB, j_stV, j_stO, j_ret, retE, j_sl, o_add, o_sub, o_mulL, o_mulR, o_div, o_mod, o_pow, o_lt, o_le, o_gt, o_ge, o_eq, o_ne, o_isB, b_int, b_intB, b_lenL, b_lenT, b_max, b_min, b_tupL, b_tupT, b_lstL, b_lstT, b_abs, Option.bind_some, Option.map_some, Option.bind_none, Option.map_none, x_lock, x_frz, x_for, x_mth, x_unp, x_setIx, x_comp, x_it, x_rng, x_enm, x_zip, j_lockV, j_lockB, j_lockO, j_frzO, j_frzV, j_frzB, j_own, j_itL, j_itT, j_enmL, j_enmT, safeI, safeS, t_nm, t_tup, t_tupL, t_nil, t_cons, f_nil, f_one, v_val, v_own, argM, j_lst2, j_tup2, vls_nil, vls_val, vls_own, lstO_s, tupO_s, turn_nx, turn_cnt, fin_r, fin_n]; rfl, .inl ?_, acc ++ [rest % n], rest / n, some (.val, .int n), h1.step (Int.emod_nonneg _ (by omega)) (by rw [getD_of hn]; exact Int.emod_lt_of_pos _ hb.1), hi, rfl⟩
        simp -implicitDefEqProofs (disch := omega) only [b4_1, runF, List.length_cons, List.length_nil, List.map_cons, List.map_nil, List.cons_append, List.nil_append, List.append_nil, List.replicate_succ, List.replicate_zero, Nat.reduceAdd, Nat.reduceSub, Nat.zero_add, Nat.reduceLT, Nat.reduceLeDiff, List.getElem?_cons_zero, List.getElem?_cons_succ, List.set_cons_zero, List.set_cons_succ, rdV, D.isMut, if_true, if_false, ite_true, ite_false, reduceCtorEq, true_or, or_true, and_self, or_false, false_or, Bool.false_eq_true, x_var, x_int, x_str, x_bl, x_non, x_bin, x_and, x_or, x_andN, x_orN, x_andC, x_orC, x_not, x_neg, x_ite, x_lst, x_tup, x_nil, x_cons, x_call, x_bi, x_slc, x_isi, x_oN, x_sNil, x_sCons, x_set, x_sIte, x_ret, x_retN, x_brk, x_cnt, x_pass, x_doc, j_bin, j_un, j_seq, j_seqR, j_seqB, j_seqC, j_iteT, j_iteF, j_iteCT, j_iteCF, j_andT, j_andF, j_orT, j_orF, j_bl, j_cons, j_bi, j_asB, j_stV, j_stO, j_ret, retE, j_sl, o_add, o_sub, o_mulL, o_mulR, o_div, o_mod, o_pow, o_lt, o_le, o_gt, o_ge, o_eq, o_ne, o_isB, b_int, b_intB, b_lenL, b_lenT, b_max, b_min, b_tupL, b_tupT, b_lstL, b_lstT, b_abs, Option.bind_some, Option.map_some, Option.bind_none, Option.map_none, x_lock, x_frz, x_for, x_mth, x_unp, x_setIx, x_comp, x_it, x_rng, x_enm, x_zip, j_lockV, j_lockB, j_lockO, j_frzO, j_frzV, j_frzB, j_own, j_itL, j_itT, j_enmL, j_enmT, safeI, safeS, t_nm, t_tup, t_tupL, t_nil, t_cons, f_nil, f_one, v_val, v_own, argM, j_lst2, j_tup2, vls_nil, vls_val, vls_own, lstO_s, tupO_s, turn_nx, turn_cnt, fin_r, fin_n, j_app v_val hal, map_app])
    obtain ⟨acc, rest, x, h1, h2, rfl⟩ := hp
    rw [Nat.zero_add, hlm] at h1
    refine ⟨acc, h1, ?_⟩
    rcases hm with rfl | rfl <;> simp -implicitDefEqProofs (disch := omega) only [d4, b4, runF, List.length_cons, List.length_nil, List.map_cons, List.map_nil, List.cons_append, List.nil_append, List.append_nil, List.replicate_succ, List.replicate_zero, Nat.reduceAdd, Nat.reduceSub, Nat.zero_add, Nat.reduceLT, Nat.reduceLeDiff, List.getElem?_cons_zero, List.getElem?_cons_succ, List.set_cons_zero, List.set_cons_succ, rdV, D.isMut, if_true, if_false, ite_true, ite_false, reduceCtorEq, true_or, or_true, and_self, or_false, false_or, Bool.false_eq_true, x_var, x_int, x_str, x_bl, x_non, x_bin, x_and, x_or, x_andN, x_orN, x_andC, x_orC, x_not, x_neg, x_ite, x_lst, x_tup, x_nil, x_cons, x_call, x_bi, x_slc, x_isi, x_oN, x_sNil, x_sCons, x_set, x_sIte, x_ret, x_retN, x_brk, x_cnt, x_pass, x_doc, j_bin, j_un, j_seq, j_seqR, j_seqB, j_seqC, j_iteT, j_iteF, j_iteCT, j_iteCF, j_andT, j_andF, j_orT, j_orF, j_bl, j_cons, j_bi, j_asB, j_stV, j_stO, j_ret, retE, j_sl, o_add, o_sub, o_mulL, o_mulR, o_div, o_mod, o_pow, o_lt, o_le, o_gt, o_ge, o_eq, o_ne, o_isB, b_int, b_intB, b_lenL, b_lenT, b_max, b_min, b_tupL, b_tupT, b_lstL, b_lstT, b_abs, Option.bind_some, Option.map_some, Option.bind_none, Option.map_none, x_lock, x_frz, x_for, x_mth, x_unp, x_setIx, x_comp, x_it, x_rng, x_enm, x_zip, j_lockV, j_lockB, j_lockO, j_frzO, j_frzV, j_frzB, j_own, j_itL, j_itT, j_enmL, j_enmT, safeI, safeS, t_nm, t_tup, t_tupL, t_nil, t_cons, f_nil, f_one, v_val, v_own, argM, j_lst2, j_tup2, vls_nil, vls_val, vls_own, lstO_s, tupO_s, turn_nx, turn_cnt, fin_r, fin_n, q, decide_true, j_for he]
  · have hr : (-4611686018427387904 : Int) ≤ (sizes.length : Nat) ∧ ((sizes.length : Nat) : Int) < 4611686018427387904 := by omega
    obtain ⟨e, he, hp⟩ := loop_to (g := setT (.nm 5)) (b := evS cf gl fu b4_2) (fun i e => ∃ (acc : List Int) (seed : Int) (x y : Option C), DgP i acc sizes ∧ i ≤ sizes.length ∧ 0 ≤ seed ∧ seed < 2147483647 ∧ e = [some (.val, .int c), some (m, .lst (sizes.map D.int)), some (.own, .lst (acc.map D.int)), some (.val, .int c), some (.val, .int seed), x, none, y])
      (env := [some (.val, .int c), some (m, .lst (sizes.map D.int)), some (.own, .lst []), some (.val, .int c), some (.val, .int (c % 2147483629)), none, none, none]) (ds := (List.range sizes.length).map fun (i : Nat) => D.int (i : Int)) ⟨[], _, none, none, ⟨rfl, fun j h => absurd h (Nat.not_lt_zero j)⟩, Nat.zero_le _, by omega, by omega, rfl⟩ (by
        rintro i d e hd _ ⟨acc, seed, x, y, h1, h2, h3, h4, rfl⟩
        rw [List.getElem?_map] at hd
        obtain ⟨n, hn, rfl⟩ := Option.map_eq_some_iff.mp hd
        have hi : i < sizes.length := by simpa using (List.getElem?_eq_some_iff.mp hn).1
        have en : n = i := by rw [List.getElem?_range hi] at hn; exact (Option.some.inj hn).symm
        subst en
        have hg : sizes[n]? = some (sizes.getD n 0) := by rw [List.getD_eq_getElem?_getD, List.getElem?_eq_getElem hi]; rfl
        have hb := hs _ (List.mem_of_getElem? hg)
        have ha := atI_ints (ns := sizes) (k := (n : Int)) (by omega) (by omega)
        have hn2 : ((n : Int)).toNat = n := by omega
        rw [hn2] at ha
        have hal : (acc.map D.int).length < 16777216 := by rw [List.length_map]; have := h1.1; omega
        have st := h1.step (x := ((seed * 48271 + 974711 * n + 12345) % 2147483647 * ((seed * 48271 + 974711 * n + 12345) % 2147483647 / 65537 + 3)) % 2147483629 / 19 % sizes.getD n 0) (Int.emod_nonneg _ (by omega)) (Int.emod_lt_of_pos _ hb.1)
        rcases hm with rfl | rfl <;> exact ⟨_, by simp -implicitDefEqProofs (disch := omega) only [b4_2, runF, List.length_cons, List.length_nil, List.map_cons, List.map_nil, List.cons_append, List.nil_append, List.append_nil, List.replicate_succ, List.replicate_zero, Nat.reduceAdd, Nat.reduceSub, Nat.zero_add, Nat.reduceLT, Nat.reduceLeDiff, List.getElem?_cons_zero, List.getElem?_cons_succ, List.set_cons_zero, List.set_cons_succ, rdV, D.isMut, if_true, if_false, ite_true, ite_false, reduceCtorEq, true_or, or_true, and_self, or_false, false_or, Bool.false_eq_true, x_var, x_int, x_str, x_bl, x_non, x_bin, x_and, x_or, x_andN, x_orN, x_andC, x_orC, x_not, x_neg, x_ite, x_lst, x_tup, x_nil, x_cons, x_call, x_bi, x_slc, x_isi, x_oN, x_sNil, x_sCons, x_set, x_sIte, x_ret, x_retN, x_brk, x_cnt, x_pass, x_doc, j_bin, j_un, j_seq, j_seqR, j_seqB, j_seqC, j_iteT, j_iteF, j_iteCT, j_iteCF, j_andT, j_andF, j_orT, j_orF, j_bl, j_cons, j_bi, j_asB, j_stV, j_stO, j_ret, retE, j_sl, o_add, o_sub, o_mulL, o_mulR, o_div, o_mod, o_pow, o_lt, o_le, o_gt, o_ge, o_eq, o_ne, o_isB, b_int, b_intB, b_lenL, b_lenT, b_max, b_min, b_tupL, b_tupT, b_lstL, b_lstT, b_abs, Option.bind_some, Option.map_some, Option.bind_none, Option.map_none, x_lock, x_frz, x_for, x_mth, x_unp, x_setIx, x_comp, x_it, x_rng, x_enm, x_zip, j_lockV, j_lockB, j_lockO, j_frzO, j_frzV, j_frzB, j_own, j_itL, j_itT, j_enmL, j_enmT, safeI, safeS, t_nm, t_tup, t_tupL, t_nil, t_cons, f_nil, f_one, v_val, v_own, argM, j_lst2, j_tup2, vls_nil, vls_val, vls_own, lstO_s, tupO_s, turn_nx, turn_cnt, fin_r, fin_n, j_app v_val hal, map_app, o_ixL ha]; rfl, _, _, _, _, st, hi, by omega, by omega, rfl⟩)
    obtain ⟨acc, seed, x, y, h1, h2, h3, h4, rfl⟩ := hp
    rw [List.length_map, List.length_range] at h1
    refine ⟨acc, h1, ?_⟩
    have hr1 : ∀ m : M, rngO (some [(m, .int ((sizes.map D.int).length : Nat))]) = some ((List.range sizes.length).map fun (i : Nat) => D.int (i : Int)) := fun m => by
      rw [r_1 (by rw [hlm]; exact hr), hlm]
      rfl
    rcases hm with rfl | rfl <;> simp -implicitDefEqProofs (disch := omega) only [d4, b4, runF, List.length_cons, List.length_nil, List.map_cons, List.map_nil, List.cons_append, List.nil_append, List.append_nil, List.replicate_succ, List.replicate_zero, Nat.reduceAdd, Nat.reduceSub, Nat.zero_add, Nat.reduceLT, Nat.reduceLeDiff, List.getElem?_cons_zero, List.getElem?_cons_succ, List.set_cons_zero, List.set_cons_succ, rdV, D.isMut, if_true, if_false, ite_true, ite_false, reduceCtorEq, true_or, or_true, and_self, or_false, false_or, Bool.false_eq_true, x_var, x_int, x_str, x_bl, x_non, x_bin, x_and, x_or, x_andN, x_orN, x_andC, x_orC, x_not, x_neg, x_ite, x_lst, x_tup, x_nil, x_cons, x_call, x_bi, x_slc, x_isi, x_oN, x_sNil, x_sCons, x_set, x_sIte, x_ret, x_retN, x_brk, x_cnt, x_pass, x_doc, j_bin, j_un, j_seq, j_seqR, j_seqB, j_seqC, j_iteT, j_iteF, j_iteCT, j_iteCF, j_andT, j_andF, j_orT, j_orF, j_bl, j_cons, j_bi, j_asB, j_stV, j_stO, j_ret, retE, j_sl, o_add, o_sub, o_mulL, o_mulR, o_div, o_mod, o_pow, o_lt, o_le, o_gt, o_ge, o_eq, o_ne, o_isB, b_int, b_intB, b_lenL, b_lenT, b_max, b_min, b_tupL, b_tupT, b_lstL, b_lstT, b_abs, Option.bind_some, Option.map_some, Option.bind_none, Option.map_none, x_lock, x_frz, x_for, x_mth, x_unp, x_setIx, x_comp, x_it, x_rng, x_enm, x_zip, j_lockV, j_lockB, j_lockO, j_frzO, j_frzV, j_frzB, j_own, j_itL, j_itT, j_enmL, j_enmT, safeI, safeS, t_nm, t_tup, t_tupL, t_nil, t_cons, f_nil, f_one, v_val, v_own, argM, j_lst2, j_tup2, vls_nil, vls_val, vls_own, lstO_s, tupO_s, turn_nx, turn_cnt, fin_r, fin_n, decide_eq_false q, hr1, j_for he]
end My
end

section
set_option Elab.async false
set_option linter.all false
set_option maxRecDepth 100000
set_option maxHeartbeats 1000000
namespace My
open PySem
def sm (f : Nat → Int) : Nat → Int
  | 0 => 0
  | n + 1 => sm f n + f n
theorem rngO_nat {m : M} {n : Nat} (h : n < 4611686018427387904) : rngO (some [(m, .int (n : Int))]) = some ((List.range n).map fun (i : Nat) => D.int (i : Int)) := by
  rw [r_1 (by omega)]
  rfl
theorem rng_at {n i : Nat} {d : D} (h : ((List.range n).map fun (i : Nat) => D.int (i : Int))[i]? = some d) : i < n ∧ d = .int (i : Int) := by
  rw [List.getElem?_map] at h
  obtain ⟨k, hk, rfl⟩ := Option.map_eq_some_iff.mp h
  have hi : i < n := by simpa using (List.getElem?_eq_some_iff.mp hk).1
  rw [List.getElem?_range hi] at hk
  cases hk
  exact ⟨hi, rfl⟩
/-- _law_sum -/
theorem sum_ok (cf : CF) (gl : Nat → Option D) (fu : Nat) {m1 m2 : M} (h1 : m1 = .val ∨ m1 = .bor) (h2 : m2 = .val ∨ m2 = .bor) {dc dx : D} {n : Nat} (c x : Nat → Int) (hn : n < 4611686018427387904)
    (hl : ∀ m, biF .len [(m, dx)] = some (.val, .int (n : Int))) (hc : ∀ j, j < n → op2 .idx dc (.int (j : Int)) = some (.val, .int (c j))) (hx : ∀ j, j < n → op2 .idx dx (.int (j : Int)) = some (.val, .int (x j)))
    (hb : ∀ j, j < n → -18446744073709551616 < c j ∧ c j < 18446744073709551616) : runF cf gl fu d9 [(m1, dc), (m2, dx)] = some (.val, .int (sm (fun j => c j * x j) n)) := by
  obtain ⟨e, he, t, rfl⟩ := loop_to (g := setT (.nm 3)) (b := evS cf gl fu b9_1) (fun i e => ∃ t : Option C, e = [some (m1, dc), some (m2, dx), some (.val, .int (sm (fun j => c j * x j) i)), t])
    (ds := (List.range n).map fun (i : Nat) => D.int (i : Int)) (env := [some (m1, dc), some (m2, dx), some (.val, .int 0), none]) ⟨none, rfl⟩ (by
      rintro i d e hd _ ⟨t, rfl⟩
      obtain ⟨hi, rfl⟩ := rng_at hd
      have bb := hb i hi
      rcases h1 with rfl | rfl <;> rcases h2 with rfl | rfl <;> exact ⟨_, by simp -implicitDefEqProofs (disch := omega) only [b9_1, runF, List.length_cons, List.length_nil, List.map_cons, List.map_nil, List.cons_append, List.nil_append, List.append_nil, List.replicate_succ, List.replicate_zero, Nat.reduceAdd, Nat.reduceSub, Nat.zero_add, Nat.reduceLT, Nat.reduceLeDiff, List.getElem?_cons_zero, List.getElem?_cons_succ, List.set_cons_zero, List.set_cons_succ, rdV, D.isMut, if_true, if_false, ite_true, ite_false, reduceCtorEq, true_or, or_true, and_self, or_false, false_or, Bool.false_eq_true, x_var, x_int, x_str, x_bl, x_non, x_bin, x_and, x_or, x_andN, x_orN, x_andC, x_orC, x_not, x_neg, x_ite, x_lst, x_tup, x_nil, x_cons, x_call, x_bi, x_slc, x_isi, x_oN, x_sNil, x_sCons, x_set, x_sIte, x_ret, x_retN, x_brk, x_cnt, x_pass, x_doc, j_bin, j_un, j_seq, j_seqR, j_seqB, j_seqC, j_iteT, j_iteF, j_iteCT, j_iteCF, j_andT, j_andF, j_orT, j_orF, j_bl, j_cons, j_bi, j_asB, j_stV, j_stO, j_ret, retE, j_sl, o_add, o_sub, o_mulL, o_mulR, o_div, o_mod, o_pow, o_lt, o_le, o_gt, o_ge, o_eq, o_ne, o_isB, b_int, b_intB, b_lenL, b_lenT, b_max, b_min, b_tupL, b_tupT, b_lstL, b_lstT, b_abs, Option.bind_some, Option.map_some, Option.bind_none, Option.map_none, x_lock, x_frz, x_for, x_mth, x_unp, x_setIx, x_comp, x_it, x_rng, x_enm, x_zip, j_lockV, j_lockB, j_lockO, j_frzO, j_frzV, j_frzB, j_own, j_itL, j_itT, j_enmL, j_enmT, safeI, safeS, t_nm, t_tup, t_tupL, t_nil, t_cons, f_nil, f_one, v_val, v_own, argM, j_lst2, j_tup2, vls_nil, vls_val, vls_own, lstO_s, tupO_s, turn_nx, turn_cnt, fin_r, fin_n, hc i hi, hx i hi]; rfl, _, rfl⟩)
  rw [List.length_map, List.length_range] at he
  have hr : ∀ m, rngO (some [(m, .int (n : Int))]) = some ((List.range n).map fun (i : Nat) => D.int (i : Int)) := fun m => rngO_nat hn
  rcases h1 with rfl | rfl <;> rcases h2 with rfl | rfl <;> simp -implicitDefEqProofs (disch := omega) only [d9, b9, runF, List.length_cons, List.length_nil, List.map_cons, List.map_nil, List.cons_append, List.nil_append, List.append_nil, List.replicate_succ, List.replicate_zero, Nat.reduceAdd, Nat.reduceSub, Nat.zero_add, Nat.reduceLT, Nat.reduceLeDiff, List.getElem?_cons_zero, List.getElem?_cons_succ, List.set_cons_zero, List.set_cons_succ, rdV, D.isMut, if_true, if_false, ite_true, ite_false, reduceCtorEq, true_or, or_true, and_self, or_false, false_or, Bool.false_eq_true, x_var, x_int, x_str, x_bl, x_non, x_bin, x_and, x_or, x_andN, x_orN, x_andC, x_orC, x_not, x_neg, x_ite, x_lst, x_tup, x_nil, x_cons, x_call, x_bi, x_slc, x_isi, x_oN, x_sNil, x_sCons, x_set, x_sIte, x_ret, x_retN, x_brk, x_cnt, x_pass, x_doc, j_bin, j_un, j_seq, j_seqR, j_seqB, j_seqC, j_iteT, j_iteF, j_iteCT, j_iteCF, j_andT, j_andF, j_orT, j_orF, j_bl, j_cons, j_bi, j_asB, j_stV, j_stO, j_ret, retE, j_sl, o_add, o_sub, o_mulL, o_mulR, o_div, o_mod, o_pow, o_lt, o_le, o_gt, o_ge, o_eq, o_ne, o_isB, b_int, b_intB, b_lenL, b_lenT, b_max, b_min, b_tupL, b_tupT, b_lstL, b_lstT, b_abs, Option.bind_some, Option.map_some, Option.bind_none, Option.map_none, x_lock, x_frz, x_for, x_mth, x_unp, x_setIx, x_comp, x_it, x_rng, x_enm, x_zip, j_lockV, j_lockB, j_lockO, j_frzO, j_frzV, j_frzB, j_own, j_itL, j_itT, j_enmL, j_enmT, safeI, safeS, t_nm, t_tup, t_tupL, t_nil, t_cons, f_nil, f_one, v_val, v_own, argM, j_lst2, j_tup2, vls_nil, vls_val, vls_own, lstO_s, tupO_s, turn_nx, turn_cnt, fin_r, fin_n, hl, hr, j_for he]
end My
end

section
set_option Elab.async false
set_option linter.all false
set_option maxRecDepth 100000
set_option maxHeartbeats 1000000
namespace My
open PySem
/-- a row of n things by place -/
def row (n : Nat) (f : Nat → D) : List D := (List.range n).map f
def rowI (n : Nat) (f : Nat → Int) : List D := row n fun i => .int (f i)
theorem row_len {n : Nat} {f : Nat → D} : (row n f).length = n := by simp [row]
theorem row_at {n : Nat} {f : Nat → D} {i : Nat} (h : i < n) : (row n f)[i]? = some (f i) := by simp [row, h]
theorem row_some {n : Nat} {f : Nat → D} {i : Nat} {d : D} (h : (row n f)[i]? = some d) : i < n ∧ d = f i := by
  have hi : i < n := by simpa [row] using (List.getElem?_eq_some_iff.mp h).1
  rw [row_at hi] at h
  exact ⟨hi, (Option.some.inj h).symm⟩
theorem row_atI {n : Nat} {f : Nat → D} {i : Nat} (h : i < n) : L2.atI (row n f) (i : Int) = some (f i) := L2.atI_nat (row_at h)
theorem compL_row {f : D → Option (Option D)} {h : Nat → D} {n : Nat} {g : Nat → D} (k : ∀ i, i < n → f (g i) = some (some (h i))) : compL f (row n g) = some (row n h) := by
  unfold row
  generalize hl : List.range n = l
  have hm : ∀ i ∈ l, f (g i) = some (some (h i)) := fun i hi => k i (by rw [← hl] at hi; simpa using hi)
  clear hl k
  induction l with
  | nil => rfl
  | cons a r ih =>
    rw [List.map_cons, compL, hm a (by simp), Option.bind_some, ih fun i hi => hm i (by simp [hi])]
    rfl
theorem zip_row {n : Nat} {f g : Nat → D} : zipD (row n f) (row n g) = row n fun i => .tup [f i, g i] := by
  unfold row
  induction List.range n with
  | nil => rfl
  | cons a r ih => rw [List.map_cons, List.map_cons, List.map_cons, zipD, ih]
theorem rng_row {n : Nat} : ((List.range n).map fun (i : Nat) => D.int (i : Int)) = rowI n fun i => (i : Int) := rfl
theorem dInts_row {n : Nat} {f : Nat → Int} : dInts (rowI n f) = some ((List.range n).map f) := by
  unfold rowI row
  induction List.range n with
  | nil => rfl
  | cons a r ih => rw [List.map_cons, List.map_cons, dInts, ih]; rfl
theorem sum_sm {f : Nat → Int} : ∀ n : Nat, ((List.range n).map f).sum = sm f n
  | 0 => rfl
  | n + 1 => by rw [List.range_succ, List.map_append, List.sum_append, sum_sm n]; simp [sm]
theorem b_sum {m : M} {n : Nat} {f : Nat → Int} : biF .sum [(m, .lst (rowI n f))] = some (.val, .int (sm f n)) := by
  simp only [biF, biSum, dInts_row, Option.map_some, sum_sm]
/-- a loop that hands back False at the first place where ok fails -/
theorem loop_all {g : D → Sl → Option Sl} {b : Sl → Option Out} {c : C} (P : Nat → Sl → Prop) (ok : Nat → Bool) {ds : List D} {env : Sl} (h0 : P 0 env)
    (st : ∀ (i : Nat) (d : D) (e : Sl), ds[i]? = some d → i < ds.length → P i e → (ok i = true → ∃ e2, turnO ((g d e).bind b) = some e2 ∧ P (i + 1) e2) ∧ (ok i = false → (g d e).bind b = some (.ret c))) :
    ((∀ i, i < ds.length → ok i = true) ∧ ∃ e, loopF g b ds env = some (.nx e) ∧ P ds.length e) ∨ ((∃ i, i < ds.length ∧ ok i = false) ∧ loopF g b ds env = some (.ret c)) := by
  rcases loop_or (g := g) (b := b) (fun i e => (∀ j, j < i → ok j = true) ∧ P i e) (fun c' => c' = c ∧ ∃ i, i < ds.length ∧ ok i = false) ds 0 env ⟨fun j h => absurd h (Nat.not_lt_zero j), h0⟩ (by
    rintro i d e hd ⟨h1, h2⟩
    rw [Nat.zero_add] at h1 h2 ⊢
    have hi := (List.getElem?_eq_some_iff.mp hd).1
    obtain ⟨s1, s2⟩ := st i d e hd hi h2
    cases ho : ok i with
    | true =>
      obtain ⟨e2, k1, k2⟩ := s1 ho
      refine .inl ⟨e2, k1, fun j hj => ?_, k2⟩
      by_cases z : j = i
      · rw [z]; exact ho
      · exact h1 j (by omega)
    | false => exact .inr ⟨c, s2 ho, rfl, i, hi, ho⟩) with ⟨e, h1, h2, h3⟩ | ⟨c', h1, rfl, h2⟩
  · rw [Nat.zero_add] at h2 h3
    exact .inl ⟨h2, e, h1, h3⟩
  · exact .inr ⟨h2, h1⟩
end My
end

section
set_option Elab.async false
set_option linter.all false
set_option maxRecDepth 100000
set_option maxHeartbeats 1000000
namespace My
open PySem
/-- a tuple or a list -/
def sq (t : Bool) (l : List D) : D := if t then .tup l else .lst l
section
variable {t u : Bool} {l r : List D} {m m' : M} {env : Sl}
theorem sq_it : itO (some (m, sq t l)) = some l := by cases t <;> rfl
theorem sq_set {g : Tg} : setT (.tup g) (sq t l) env = setTs g l env := by cases t <;> simp [sq, setT]
theorem sq_zip : zipO (some (m, sq t l)) (some (m', sq u r)) = some (zipD l r) := by cases t <;> cases u <;> rfl
theorem sq_len : biF .len [(m, sq t l)] = some (.val, .int l.length) := by cases t <;> rfl
theorem sq_ix {i : Int} {d : D} (h : L2.atI l i = some d) : op2 .idx (sq t l) (.int i) = some (.val, d) := by
  cases t
  · exact o_ixL h
  · exact o_ixT h
theorem sq_tup : biF .tuple [(m, sq t l)] = some (.val, .tup l) := by cases t <;> rfl
theorem sq_lst : biF .list [(m, sq t l)] = some (.own, .lst l) := by cases t <;> rfl
end
def rowsD (o t : Bool) (n w : Nat) (C : Nat → Nat → Int) (B : Nat → Int) : D := sq o (row n fun i => sq t [sq t (rowI w (C i)), .int (B i)])
theorem rowsD_it {o t : Bool} {n w : Nat} {C : Nat → Nat → Int} {B : Nat → Int} {m : M} : itO (some (m, rowsD o t n w C B)) = some (row n fun i => sq t [sq t (rowI w (C i)), .int (B i)]) := sq_it
/-- is_solution -/
theorem solution_ok (cf : CF) (gl : Nat → Option D) (fu : Nat) {o t u : Bool} {n w : Nat} {C : Nat → Nat → Int} {B x : Nat → Int} {N : Int} (hN : 0 < N) (hw : w < 16777216) (hC : ∀ i j, i < n → j < w → -18446744073709551616 < C i j ∧ C i j < 18446744073709551616) :
    runF cf gl fu d1 [(.val, rowsD o t n w C B), (.val, .int N), (.val, sq u (rowI w x))] = some (.val, .bl (decide (∀ i, i < n → (sm (fun j => C i j * x j) w - B i) % N = 0))) := by
  have inner : ∀ (i : Nat) (a b c d f : Option My.C), i < n →
      (setT (.tup (.cons (.nm 3) (.cons (.nm 4) .nil))) (sq t [sq t (rowI w (C i)), .int (B i)]) [some (.val, rowsD o t n w C B), some (.val, .int N), some (.val, sq u (rowI w x)), a, b, c, d, f]).bind (evS cf gl fu b1_2) =
        (if (sm (fun j => C i j * x j) w - B i) % N = 0 then some (.nx [some (.val, rowsD o t n w C B), some (.val, .int N), some (.val, sq u (rowI w x)), some (.val, sq t (rowI w (C i))), some (.val, .int (B i)), some (.val, .int (sm (fun j => C i j * x j) w)), d, f]) else some (.ret (.val, .bl false))) := by
    intro i a b c d f hi
    have hz : compL (cmpF cf gl [6, 7] (.tup (.cons (.nm 6) (.cons (.nm 7) .nil))) .nil e1_1 [some (.val, rowsD o t n w C B), some (.val, .int N), some (.val, sq u (rowI w x)), some (.val, sq t (rowI w (C i))), some (.val, .int (B i)), c, d, f]) (zipD (rowI w (C i)) (rowI w x)) = some (rowI w fun j => C i j * x j) := by
      rw [rowI, rowI, zip_row]
      refine compL_row fun j hj => ?_
      have hb := hC i j hi hj
      simp -implicitDefEqProofs (disch := omega) only [cmpF, wipeE, e1_1, runF, List.length_cons, List.length_nil, List.map_cons, List.map_nil, List.cons_append, List.nil_append, List.append_nil, List.replicate_succ, List.replicate_zero, Nat.reduceAdd, Nat.reduceSub, Nat.zero_add, Nat.reduceLT, Nat.reduceLeDiff, List.getElem?_cons_zero, List.getElem?_cons_succ, List.set_cons_zero, List.set_cons_succ, rdV, D.isMut, if_true, if_false, ite_true, ite_false, reduceCtorEq, true_or, or_true, and_self, or_false, false_or, Bool.false_eq_true, x_var, x_int, x_str, x_bl, x_non, x_bin, x_and, x_or, x_andN, x_orN, x_andC, x_orC, x_not, x_neg, x_ite, x_lst, x_tup, x_nil, x_cons, x_call, x_bi, x_slc, x_isi, x_oN, x_sNil, x_sCons, x_set, x_sIte, x_ret, x_retN, x_brk, x_cnt, x_pass, x_doc, j_bin, j_un, j_seq, j_seqR, j_seqB, j_seqC, j_iteT, j_iteF, j_iteCT, j_iteCF, j_andT, j_andF, j_orT, j_orF, j_bl, j_cons, j_bi, j_asB, j_stV, j_stO, j_ret, retE, j_sl, o_add, o_sub, o_mulL, o_mulR, o_div, o_mod, o_pow, o_lt, o_le, o_gt, o_ge, o_eq, o_ne, o_isB, b_int, b_intB, b_lenL, b_lenT, b_max, b_min, b_tupL, b_tupT, b_lstL, b_lstT, b_abs, Option.bind_some, Option.map_some, Option.bind_none, Option.map_none, x_lock, x_frz, x_for, x_mth, x_unp, x_setIx, x_comp, x_it, x_rng, x_enm, x_zip, j_lockV, j_lockB, j_lockO, j_frzO, j_frzV, j_frzB, j_own, j_itL, j_itT, j_enmL, j_enmT, safeI, safeS, t_nm, t_tup, t_tupL, t_nil, t_cons, f_nil, f_one, v_val, v_own, argM, j_lst2, j_tup2, vls_nil, vls_val, vls_own, lstO_s, tupO_s, turn_nx, turn_cnt, fin_r, fin_n]
    have hz2 := j_comp hz (by rw [rowI, row_len]; omega)
    by_cases q : (sm (fun j => C i j * x j) w - B i) % N = 0
    · simp -implicitDefEqProofs (disch := omega) only [b1_2, runF, List.length_cons, List.length_nil, List.map_cons, List.map_nil, List.cons_append, List.nil_append, List.append_nil, List.replicate_succ, List.replicate_zero, Nat.reduceAdd, Nat.reduceSub, Nat.zero_add, Nat.reduceLT, Nat.reduceLeDiff, List.getElem?_cons_zero, List.getElem?_cons_succ, List.set_cons_zero, List.set_cons_succ, rdV, D.isMut, if_true, if_false, ite_true, ite_false, reduceCtorEq, true_or, or_true, and_self, or_false, false_or, Bool.false_eq_true, x_var, x_int, x_str, x_bl, x_non, x_bin, x_and, x_or, x_andN, x_orN, x_andC, x_orC, x_not, x_neg, x_ite, x_lst, x_tup, x_nil, x_cons, x_call, x_bi, x_slc, x_isi, x_oN, x_sNil, x_sCons, x_set, x_sIte, x_ret, x_retN, x_brk, x_cnt, x_pass, x_doc, j_bin, j_un, j_seq, j_seqR, j_seqB, j_seqC, j_iteT, j_iteF, j_iteCT, j_iteCF, j_andT, j_andF, j_orT, j_orF, j_bl, j_cons, j_bi, j_asB, j_stV, j_stO, j_ret, retE, j_sl, o_add, o_sub, o_mulL, o_mulR, o_div, o_mod, o_pow, o_lt, o_le, o_gt, o_ge, o_eq, o_ne, o_isB, b_int, b_intB, b_lenL, b_lenT, b_max, b_min, b_tupL, b_tupT, b_lstL, b_lstT, b_abs, Option.bind_some, Option.map_some, Option.bind_none, Option.map_none, x_lock, x_frz, x_for, x_mth, x_unp, x_setIx, x_comp, x_it, x_rng, x_enm, x_zip, j_lockV, j_lockB, j_lockO, j_frzO, j_frzV, j_frzB, j_own, j_itL, j_itT, j_enmL, j_enmT, safeI, safeS, t_nm, t_tup, t_tupL, t_nil, t_cons, f_nil, f_one, v_val, v_own, argM, j_lst2, j_tup2, vls_nil, vls_val, vls_own, lstO_s, tupO_s, turn_nx, turn_cnt, fin_r, fin_n, sq_set, sq_zip, hz2, b_sum, q, decide_true, Bool.not_true]
    · simp -implicitDefEqProofs (disch := omega) only [b1_2, runF, List.length_cons, List.length_nil, List.map_cons, List.map_nil, List.cons_append, List.nil_append, List.append_nil, List.replicate_succ, List.replicate_zero, Nat.reduceAdd, Nat.reduceSub, Nat.zero_add, Nat.reduceLT, Nat.reduceLeDiff, List.getElem?_cons_zero, List.getElem?_cons_succ, List.set_cons_zero, List.set_cons_succ, rdV, D.isMut, if_true, if_false, ite_true, ite_false, reduceCtorEq, true_or, or_true, and_self, or_false, false_or, Bool.false_eq_true, x_var, x_int, x_str, x_bl, x_non, x_bin, x_and, x_or, x_andN, x_orN, x_andC, x_orC, x_not, x_neg, x_ite, x_lst, x_tup, x_nil, x_cons, x_call, x_bi, x_slc, x_isi, x_oN, x_sNil, x_sCons, x_set, x_sIte, x_ret, x_retN, x_brk, x_cnt, x_pass, x_doc, j_bin, j_un, j_seq, j_seqR, j_seqB, j_seqC, j_iteT, j_iteF, j_iteCT, j_iteCF, j_andT, j_andF, j_orT, j_orF, j_bl, j_cons, j_bi, j_asB, j_stV, j_stO, j_ret, retE, j_sl, o_add, o_sub, o_mulL, o_mulR, o_div, o_mod, o_pow, o_lt, o_le, o_gt, o_ge, o_eq, o_ne, o_isB, b_int, b_intB, b_lenL, b_lenT, b_max, b_min, b_tupL, b_tupT, b_lstL, b_lstT, b_abs, Option.bind_some, Option.map_some, Option.bind_none, Option.map_none, x_lock, x_frz, x_for, x_mth, x_unp, x_setIx, x_comp, x_it, x_rng, x_enm, x_zip, j_lockV, j_lockB, j_lockO, j_frzO, j_frzV, j_frzB, j_own, j_itL, j_itT, j_enmL, j_enmT, safeI, safeS, t_nm, t_tup, t_tupL, t_nil, t_cons, f_nil, f_one, v_val, v_own, argM, j_lst2, j_tup2, vls_nil, vls_val, vls_own, lstO_s, tupO_s, turn_nx, turn_cnt, fin_r, fin_n, sq_set, sq_zip, hz2, b_sum, q, decide_false, Bool.not_false]
  rcases loop_all (g := setT (.tup (.cons (.nm 3) (.cons (.nm 4) .nil)))) (b := evS cf gl fu b1_2) (c := (.val, .bl false)) (fun i e => ∃ a b c d f, e = [some (.val, rowsD o t n w C B), some (.val, .int N), some (.val, sq u (rowI w x)), a, b, c, d, f])
      (fun i => decide ((sm (fun j => C i j * x j) w - B i) % N = 0)) (ds := row n fun i => sq t [sq t (rowI w (C i)), .int (B i)]) (env := [some (.val, rowsD o t n w C B), some (.val, .int N), some (.val, sq u (rowI w x)), none, none, none, none, none]) ⟨none, none, none, none, none, rfl⟩ (by
    rintro i dd e hd _ ⟨a, b, c, d, f, rfl⟩
    obtain ⟨hi, rfl⟩ := row_some hd
    rw [inner i a b c d f hi]
    refine ⟨fun q => ?_, fun q => ?_⟩
    · rw [if_pos (of_decide_eq_true q)]
      exact ⟨_, rfl, _, _, _, _, _, rfl⟩
    · rw [if_neg (of_decide_eq_false q)]) with ⟨q, e, he, a, b, c, d, f, rfl⟩ | ⟨q, he⟩
  · have z : decide (∀ i, i < n → (sm (fun j => C i j * x j) w - B i) % N = 0) = true := decide_eq_true fun i hi => of_decide_eq_true (q i (by rw [row_len]; exact hi))
    rw [z]
    simp -implicitDefEqProofs (disch := omega) only [d1, b1, runF, List.length_cons, List.length_nil, List.map_cons, List.map_nil, List.cons_append, List.nil_append, List.append_nil, List.replicate_succ, List.replicate_zero, Nat.reduceAdd, Nat.reduceSub, Nat.zero_add, Nat.reduceLT, Nat.reduceLeDiff, List.getElem?_cons_zero, List.getElem?_cons_succ, List.set_cons_zero, List.set_cons_succ, rdV, D.isMut, if_true, if_false, ite_true, ite_false, reduceCtorEq, true_or, or_true, and_self, or_false, false_or, Bool.false_eq_true, x_var, x_int, x_str, x_bl, x_non, x_bin, x_and, x_or, x_andN, x_orN, x_andC, x_orC, x_not, x_neg, x_ite, x_lst, x_tup, x_nil, x_cons, x_call, x_bi, x_slc, x_isi, x_oN, x_sNil, x_sCons, x_set, x_sIte, x_ret, x_retN, x_brk, x_cnt, x_pass, x_doc, j_bin, j_un, j_seq, j_seqR, j_seqB, j_seqC, j_iteT, j_iteF, j_iteCT, j_iteCF, j_andT, j_andF, j_orT, j_orF, j_bl, j_cons, j_bi, j_asB, j_stV, j_stO, j_ret, retE, j_sl, o_add, o_sub, o_mulL, o_mulR, o_div, o_mod, o_pow, o_lt, o_le, o_gt, o_ge, o_eq, o_ne, o_isB, b_int, b_intB, b_lenL, b_lenT, b_max, b_min, b_tupL, b_tupT, b_lstL, b_lstT, b_abs, Option.bind_some, Option.map_some, Option.bind_none, Option.map_none, x_lock, x_frz, x_for, x_mth, x_unp, x_setIx, x_comp, x_it, x_rng, x_enm, x_zip, j_lockV, j_lockB, j_lockO, j_frzO, j_frzV, j_frzB, j_own, j_itL, j_itT, j_enmL, j_enmT, safeI, safeS, t_nm, t_tup, t_tupL, t_nil, t_cons, f_nil, f_one, v_val, v_own, argM, j_lst2, j_tup2, vls_nil, vls_val, vls_own, lstO_s, tupO_s, turn_nx, turn_cnt, fin_r, fin_n, rowsD_it, j_for he]
  · have z : decide (∀ i, i < n → (sm (fun j => C i j * x j) w - B i) % N = 0) = false := decide_eq_false fun k => by
      obtain ⟨i, hi, ho⟩ := q
      rw [row_len] at hi
      exact of_decide_eq_false ho (k i hi)
    rw [z]
    simp -implicitDefEqProofs (disch := omega) only [d1, b1, runF, List.length_cons, List.length_nil, List.map_cons, List.map_nil, List.cons_append, List.nil_append, List.append_nil, List.replicate_succ, List.replicate_zero, Nat.reduceAdd, Nat.reduceSub, Nat.zero_add, Nat.reduceLT, Nat.reduceLeDiff, List.getElem?_cons_zero, List.getElem?_cons_succ, List.set_cons_zero, List.set_cons_succ, rdV, D.isMut, if_true, if_false, ite_true, ite_false, reduceCtorEq, true_or, or_true, and_self, or_false, false_or, Bool.false_eq_true, x_var, x_int, x_str, x_bl, x_non, x_bin, x_and, x_or, x_andN, x_orN, x_andC, x_orC, x_not, x_neg, x_ite, x_lst, x_tup, x_nil, x_cons, x_call, x_bi, x_slc, x_isi, x_oN, x_sNil, x_sCons, x_set, x_sIte, x_ret, x_retN, x_brk, x_cnt, x_pass, x_doc, j_bin, j_un, j_seq, j_seqR, j_seqB, j_seqC, j_iteT, j_iteF, j_iteCT, j_iteCF, j_andT, j_andF, j_orT, j_orF, j_bl, j_cons, j_bi, j_asB, j_stV, j_stO, j_ret, retE, j_sl, o_add, o_sub, o_mulL, o_mulR, o_div, o_mod, o_pow, o_lt, o_le, o_gt, o_ge, o_eq, o_ne, o_isB, b_int, b_intB, b_lenL, b_lenT, b_max, b_min, b_tupL, b_tupT, b_lstL, b_lstT, b_abs, Option.bind_some, Option.map_some, Option.bind_none, Option.map_none, x_lock, x_frz, x_for, x_mth, x_unp, x_setIx, x_comp, x_it, x_rng, x_enm, x_zip, j_lockV, j_lockB, j_lockO, j_frzO, j_frzV, j_frzB, j_own, j_itL, j_itT, j_enmL, j_enmT, safeI, safeS, t_nm, t_tup, t_tupL, t_nil, t_cons, f_nil, f_one, v_val, v_own, argM, j_lst2, j_tup2, vls_nil, vls_val, vls_own, lstO_s, tupO_s, turn_nx, turn_cnt, fin_r, fin_n, rowsD_it, j_forR he]
end My
end

section
set_option Elab.async false
set_option linter.all false
set_option maxRecDepth 100000
set_option maxHeartbeats 1000000
namespace My
open PySem
theorem isi_seq {t : Bool} {l : List D} : isTy .seq (sq t l) = true := by cases t <;> rfl
theorem isi_int {i : Int} : isTy .seq (.int i) = false := rfl
theorem frozen_int (cf : CF) (gl : Nat → Option D) (fu : Nat) (i : Int) : runF cf gl fu d0 [(.val, .int i)] = some (.val, .int i) := by
  simp -implicitDefEqProofs (disch := omega) only [d0, b0, runF, List.length_cons, List.length_nil, List.map_cons, List.map_nil, List.cons_append, List.nil_append, List.append_nil, List.replicate_succ, List.replicate_zero, Nat.reduceAdd, Nat.reduceSub, Nat.zero_add, Nat.reduceLT, Nat.reduceLeDiff, List.getElem?_cons_zero, List.getElem?_cons_succ, List.set_cons_zero, List.set_cons_succ, rdV, D.isMut, if_true, if_false, ite_true, ite_false, reduceCtorEq, true_or, or_true, and_self, or_false, false_or, Bool.false_eq_true, x_var, x_int, x_str, x_bl, x_non, x_bin, x_and, x_or, x_andN, x_orN, x_andC, x_orC, x_not, x_neg, x_ite, x_lst, x_tup, x_nil, x_cons, x_call, x_bi, x_slc, x_isi, x_oN, x_sNil, x_sCons, x_set, x_sIte, x_ret, x_retN, x_brk, x_cnt, x_pass, x_doc, j_bin, j_un, j_seq, j_seqR, j_seqB, j_seqC, j_iteT, j_iteF, j_iteCT, j_iteCF, j_andT, j_andF, j_orT, j_orF, j_bl, j_cons, j_bi, j_asB, j_stV, j_stO, j_ret, retE, j_sl, o_add, o_sub, o_mulL, o_mulR, o_div, o_mod, o_pow, o_lt, o_le, o_gt, o_ge, o_eq, o_ne, o_isB, b_int, b_intB, b_lenL, b_lenT, b_max, b_min, b_tupL, b_tupT, b_lstL, b_lstT, b_abs, Option.bind_some, Option.map_some, Option.bind_none, Option.map_none, x_lock, x_frz, x_for, x_mth, x_unp, x_setIx, x_comp, x_it, x_rng, x_enm, x_zip, j_lockV, j_lockB, j_lockO, j_frzO, j_frzV, j_frzB, j_own, j_itL, j_itT, j_enmL, j_enmT, safeI, safeS, t_nm, t_tup, t_tupL, t_nil, t_cons, f_nil, f_one, v_val, v_own, argM, j_lst2, j_tup2, vls_nil, vls_val, vls_own, lstO_s, tupO_s, turn_nx, turn_cnt, fin_r, fin_n, isi_int]
theorem frozen_row (cf : CF) (gl : Nat → Option D) (fu : Nat) {t : Bool} {n : Nat} {f g : Nat → D} (hn : n ≤ 16777216) (h : ∀ i, i < n → cf 0 [(.val, f i)] = some (.val, g i)) :
    runF cf gl fu d0 [(.val, sq t (row n f))] = some (.val, .tup (row n g)) := by
  have hz : compL (cmpF cf gl [1] (.nm 1) .nil e0_1 [some (.val, sq t (row n f)), none]) (row n f) = some (row n g) := compL_row fun i hi => by
    have hc : callO (cf 0) (some [(.val, f i)]) = some (.val, g i) := j_call (h i hi) (.inl rfl)
    simp -implicitDefEqProofs (disch := omega) only [cmpF, wipeE, e0_1, runF, List.length_cons, List.length_nil, List.map_cons, List.map_nil, List.cons_append, List.nil_append, List.append_nil, List.replicate_succ, List.replicate_zero, Nat.reduceAdd, Nat.reduceSub, Nat.zero_add, Nat.reduceLT, Nat.reduceLeDiff, List.getElem?_cons_zero, List.getElem?_cons_succ, List.set_cons_zero, List.set_cons_succ, rdV, D.isMut, if_true, if_false, ite_true, ite_false, reduceCtorEq, true_or, or_true, and_self, or_false, false_or, Bool.false_eq_true, x_var, x_int, x_str, x_bl, x_non, x_bin, x_and, x_or, x_andN, x_orN, x_andC, x_orC, x_not, x_neg, x_ite, x_lst, x_tup, x_nil, x_cons, x_call, x_bi, x_slc, x_isi, x_oN, x_sNil, x_sCons, x_set, x_sIte, x_ret, x_retN, x_brk, x_cnt, x_pass, x_doc, j_bin, j_un, j_seq, j_seqR, j_seqB, j_seqC, j_iteT, j_iteF, j_iteCT, j_iteCF, j_andT, j_andF, j_orT, j_orF, j_bl, j_cons, j_bi, j_asB, j_stV, j_stO, j_ret, retE, j_sl, o_add, o_sub, o_mulL, o_mulR, o_div, o_mod, o_pow, o_lt, o_le, o_gt, o_ge, o_eq, o_ne, o_isB, b_int, b_intB, b_lenL, b_lenT, b_max, b_min, b_tupL, b_tupT, b_lstL, b_lstT, b_abs, Option.bind_some, Option.map_some, Option.bind_none, Option.map_none, x_lock, x_frz, x_for, x_mth, x_unp, x_setIx, x_comp, x_it, x_rng, x_enm, x_zip, j_lockV, j_lockB, j_lockO, j_frzO, j_frzV, j_frzB, j_own, j_itL, j_itT, j_enmL, j_enmT, safeI, safeS, t_nm, t_tup, t_tupL, t_nil, t_cons, f_nil, f_one, v_val, v_own, argM, j_lst2, j_tup2, vls_nil, vls_val, vls_own, lstO_s, tupO_s, turn_nx, turn_cnt, fin_r, fin_n, hc]
  have hz2 := j_comp hz (by rw [row_len]; exact hn)
  simp -implicitDefEqProofs (disch := omega) only [d0, b0, runF, List.length_cons, List.length_nil, List.map_cons, List.map_nil, List.cons_append, List.nil_append, List.append_nil, List.replicate_succ, List.replicate_zero, Nat.reduceAdd, Nat.reduceSub, Nat.zero_add, Nat.reduceLT, Nat.reduceLeDiff, List.getElem?_cons_zero, List.getElem?_cons_succ, List.set_cons_zero, List.set_cons_succ, rdV, D.isMut, if_true, if_false, ite_true, ite_false, reduceCtorEq, true_or, or_true, and_self, or_false, false_or, Bool.false_eq_true, x_var, x_int, x_str, x_bl, x_non, x_bin, x_and, x_or, x_andN, x_orN, x_andC, x_orC, x_not, x_neg, x_ite, x_lst, x_tup, x_nil, x_cons, x_call, x_bi, x_slc, x_isi, x_oN, x_sNil, x_sCons, x_set, x_sIte, x_ret, x_retN, x_brk, x_cnt, x_pass, x_doc, j_bin, j_un, j_seq, j_seqR, j_seqB, j_seqC, j_iteT, j_iteF, j_iteCT, j_iteCF, j_andT, j_andF, j_orT, j_orF, j_bl, j_cons, j_bi, j_asB, j_stV, j_stO, j_ret, retE, j_sl, o_add, o_sub, o_mulL, o_mulR, o_div, o_mod, o_pow, o_lt, o_le, o_gt, o_ge, o_eq, o_ne, o_isB, b_int, b_intB, b_lenL, b_lenT, b_max, b_min, b_tupL, b_tupT, b_lstL, b_lstT, b_abs, Option.bind_some, Option.map_some, Option.bind_none, Option.map_none, x_lock, x_frz, x_for, x_mth, x_unp, x_setIx, x_comp, x_it, x_rng, x_enm, x_zip, j_lockV, j_lockB, j_lockO, j_frzO, j_frzV, j_frzB, j_own, j_itL, j_itT, j_enmL, j_enmT, safeI, safeS, t_nm, t_tup, t_tupL, t_nil, t_cons, f_nil, f_one, v_val, v_own, argM, j_lst2, j_tup2, vls_nil, vls_val, vls_own, lstO_s, tupO_s, turn_nx, turn_cnt, fin_r, fin_n, isi_seq, sq_it, hz2]
end My
end

section
set_option Elab.async false
set_option linter.all false
set_option maxRecDepth 100000
set_option maxHeartbeats 1000000
namespace My
open PySem
theorem row_at0 {n : Nat} {f : Nat → D} (h : 0 < n) : L2.atI (row n f) 0 = some (f 0) := row_atI (i := 0) h
theorem sm_zero {f : Nat → Int} : ∀ n : Nat, (∀ i, i < n → f i = 0) → sm f n = 0
  | 0, _ => rfl
  | n + 1, h => by unfold sm; rw [sm_zero n fun i hi => h i (by omega), h n (by omega)]; rfl
def barsB (n w : Nat) (C : Nat → Nat → Int) (B y : Nat → Int) (N : Int) : Bool := decide (∀ j, j < w → sm (fun i => C i j * y i) n % N = 0) && !decide (sm (fun i => B i * y i) n % N = 0)
/-- are_weights -/
theorem weights_ok (cf : CF) (gl : Nat → Option D) (fu : Nat) {dr : D} {u : Bool} {n w : Nat} {C : Nat → Nat → Int} {B y : Nat → Int} {N : Int} (hN : 0 < N) (hn : n < 16777216) (hw : w < 16777216)
    (hC : ∀ i j, i < n → j < w → -18446744073709551616 < C i j ∧ C i j < 18446744073709551616) (hB : ∀ i, i < n → -18446744073709551616 < B i ∧ B i < 18446744073709551616)
    (hf : cf 0 [(.val, dr)] = some (.val, rowsD true true n w C B)) :
    runF cf gl fu d2 [(.val, dr), (.val, .int N), (.val, sq u (rowI n y))] = some (.val, .bl (barsB n w C B y N)) := by
  have hc0 : callO (cf 0) (some [(.val, dr)]) = some (.val, rowsD true true n w C B) := j_call hf (.inl rfl)
  have rl : ∀ m, biF .len [(m, rowsD true true n w C B)] = some (.val, .int (n : Int)) := fun m => by
    rw [rowsD, sq_len, row_len]
  have rz : ∀ m m', zipO (some (m, rowsD true true n w C B)) (some (m', sq u (rowI n y))) = some (row n fun i => .tup [sq true [sq true (rowI w (C i)), .int (B i)], .int (y i)]) := fun m m' => by
    rw [rowsD, sq_zip, rowI, zip_row]
  have a0 : ∀ i, op2 .idx (sq true [sq true (rowI w (C i)), .int (B i)]) (.int 0) = some (.val, sq true (rowI w (C i))) := fun i => sq_ix rfl
  have a1 : ∀ i, op2 .idx (sq true [sq true (rowI w (C i)), .int (B i)]) (.int 1) = some (.val, .int (B i)) := fun i => sq_ix rfl
  have aj : ∀ i j, j < w → op2 .idx (sq true (rowI w (C i))) (.int (j : Int)) = some (.val, .int (C i j)) := fun i j h => sq_ix (row_atI h)
  -- the columns
  have inner : ∀ (j : Nat) (wd : D) (a b c d : Option My.C), j < w →
      (setT (.nm 5) (.int (j : Int)) [some (.val, dr), some (.val, .int N), some (.val, sq u (rowI n y)), some (.val, rowsD true true n w C B), some (.val, wd), a, b, c, d]).bind (evS cf gl fu b2_2) =
        (if sm (fun i => C i j * y i) n % N = 0 then some (.nx [some (.val, dr), some (.val, .int N), some (.val, sq u (rowI n y)), some (.val, rowsD true true n w C B), some (.val, wd), some (.val, .int (j : Int)), some (.val, .int (sm (fun i => C i j * y i) n)), c, d]) else some (.ret (.val, .bl false))) := by
    intro j wd a b c d hj
    have hz : compL (cmpF cf gl [7, 8] (.tup (.cons (.nm 7) (.cons (.nm 8) .nil))) .nil e2_1 [some (.val, dr), some (.val, .int N), some (.val, sq u (rowI n y)), some (.val, rowsD true true n w C B), some (.val, wd), some (.val, .int (j : Int)), b, c, d])
        (row n fun i => .tup [sq true [sq true (rowI w (C i)), .int (B i)], .int (y i)]) = some (rowI n fun i => C i j * y i) := compL_row fun i hi => by
      have hb := hC i j hi hj
      simp -implicitDefEqProofs (disch := omega) only [cmpF, wipeE, e2_1, runF, List.length_cons, List.length_nil, List.map_cons, List.map_nil, List.cons_append, List.nil_append, List.append_nil, List.replicate_succ, List.replicate_zero, Nat.reduceAdd, Nat.reduceSub, Nat.zero_add, Nat.reduceLT, Nat.reduceLeDiff, List.getElem?_cons_zero, List.getElem?_cons_succ, List.set_cons_zero, List.set_cons_succ, rdV, D.isMut, if_true, if_false, ite_true, ite_false, reduceCtorEq, true_or, or_true, and_self, or_false, false_or, Bool.false_eq_true, x_var, x_int, x_str, x_bl, x_non, x_bin, x_and, x_or, x_andN, x_orN, x_andC, x_orC, x_not, x_neg, x_ite, x_lst, x_tup, x_nil, x_cons, x_call, x_bi, x_slc, x_isi, x_oN, x_sNil, x_sCons, x_set, x_sIte, x_ret, x_retN, x_brk, x_cnt, x_pass, x_doc, j_bin, j_un, j_seq, j_seqR, j_seqB, j_seqC, j_iteT, j_iteF, j_iteCT, j_iteCF, j_andT, j_andF, j_orT, j_orF, j_bl, j_cons, j_bi, j_asB, j_stV, j_stO, j_ret, retE, j_sl, o_add, o_sub, o_mulL, o_mulR, o_div, o_mod, o_pow, o_lt, o_le, o_gt, o_ge, o_eq, o_ne, o_isB, b_int, b_intB, b_lenL, b_lenT, b_max, b_min, b_tupL, b_tupT, b_lstL, b_lstT, b_abs, Option.bind_some, Option.map_some, Option.bind_none, Option.map_none, x_lock, x_frz, x_for, x_mth, x_unp, x_setIx, x_comp, x_it, x_rng, x_enm, x_zip, j_lockV, j_lockB, j_lockO, j_frzO, j_frzV, j_frzB, j_own, j_itL, j_itT, j_enmL, j_enmT, safeI, safeS, t_nm, t_tup, t_tupL, t_nil, t_cons, f_nil, f_one, v_val, v_own, argM, j_lst2, j_tup2, vls_nil, vls_val, vls_own, lstO_s, tupO_s, turn_nx, turn_cnt, fin_r, fin_n, a0, aj i j hj]
    have hz2 := j_comp hz (by rw [rowI, row_len]; omega)
    by_cases q : sm (fun i => C i j * y i) n % N = 0
    · simp -implicitDefEqProofs (disch := omega) only [b2_2, runF, List.length_cons, List.length_nil, List.map_cons, List.map_nil, List.cons_append, List.nil_append, List.append_nil, List.replicate_succ, List.replicate_zero, Nat.reduceAdd, Nat.reduceSub, Nat.zero_add, Nat.reduceLT, Nat.reduceLeDiff, List.getElem?_cons_zero, List.getElem?_cons_succ, List.set_cons_zero, List.set_cons_succ, rdV, D.isMut, if_true, if_false, ite_true, ite_false, reduceCtorEq, true_or, or_true, and_self, or_false, false_or, Bool.false_eq_true, x_var, x_int, x_str, x_bl, x_non, x_bin, x_and, x_or, x_andN, x_orN, x_andC, x_orC, x_not, x_neg, x_ite, x_lst, x_tup, x_nil, x_cons, x_call, x_bi, x_slc, x_isi, x_oN, x_sNil, x_sCons, x_set, x_sIte, x_ret, x_retN, x_brk, x_cnt, x_pass, x_doc, j_bin, j_un, j_seq, j_seqR, j_seqB, j_seqC, j_iteT, j_iteF, j_iteCT, j_iteCF, j_andT, j_andF, j_orT, j_orF, j_bl, j_cons, j_bi, j_asB, j_stV, j_stO, j_ret, retE, j_sl, o_add, o_sub, o_mulL, o_mulR, o_div, o_mod, o_pow, o_lt, o_le, o_gt, o_ge, o_eq, o_ne, o_isB, b_int, b_intB, b_lenL, b_lenT, b_max, b_min, b_tupL, b_tupT, b_lstL, b_lstT, b_abs, Option.bind_some, Option.map_some, Option.bind_none, Option.map_none, x_lock, x_frz, x_for, x_mth, x_unp, x_setIx, x_comp, x_it, x_rng, x_enm, x_zip, j_lockV, j_lockB, j_lockO, j_frzO, j_frzV, j_frzB, j_own, j_itL, j_itT, j_enmL, j_enmT, safeI, safeS, t_nm, t_tup, t_tupL, t_nil, t_cons, f_nil, f_one, v_val, v_own, argM, j_lst2, j_tup2, vls_nil, vls_val, vls_own, lstO_s, tupO_s, turn_nx, turn_cnt, fin_r, fin_n, rz, hz2, b_sum, q, decide_true, Bool.not_true]
    · simp -implicitDefEqProofs (disch := omega) only [b2_2, runF, List.length_cons, List.length_nil, List.map_cons, List.map_nil, List.cons_append, List.nil_append, List.append_nil, List.replicate_succ, List.replicate_zero, Nat.reduceAdd, Nat.reduceSub, Nat.zero_add, Nat.reduceLT, Nat.reduceLeDiff, List.getElem?_cons_zero, List.getElem?_cons_succ, List.set_cons_zero, List.set_cons_succ, rdV, D.isMut, if_true, if_false, ite_true, ite_false, reduceCtorEq, true_or, or_true, and_self, or_false, false_or, Bool.false_eq_true, x_var, x_int, x_str, x_bl, x_non, x_bin, x_and, x_or, x_andN, x_orN, x_andC, x_orC, x_not, x_neg, x_ite, x_lst, x_tup, x_nil, x_cons, x_call, x_bi, x_slc, x_isi, x_oN, x_sNil, x_sCons, x_set, x_sIte, x_ret, x_retN, x_brk, x_cnt, x_pass, x_doc, j_bin, j_un, j_seq, j_seqR, j_seqB, j_seqC, j_iteT, j_iteF, j_iteCT, j_iteCF, j_andT, j_andF, j_orT, j_orF, j_bl, j_cons, j_bi, j_asB, j_stV, j_stO, j_ret, retE, j_sl, o_add, o_sub, o_mulL, o_mulR, o_div, o_mod, o_pow, o_lt, o_le, o_gt, o_ge, o_eq, o_ne, o_isB, b_int, b_intB, b_lenL, b_lenT, b_max, b_min, b_tupL, b_tupT, b_lstL, b_lstT, b_abs, Option.bind_some, Option.map_some, Option.bind_none, Option.map_none, x_lock, x_frz, x_for, x_mth, x_unp, x_setIx, x_comp, x_it, x_rng, x_enm, x_zip, j_lockV, j_lockB, j_lockO, j_frzO, j_frzV, j_frzB, j_own, j_itL, j_itT, j_enmL, j_enmT, safeI, safeS, t_nm, t_tup, t_tupL, t_nil, t_cons, f_nil, f_one, v_val, v_own, argM, j_lst2, j_tup2, vls_nil, vls_val, vls_own, lstO_s, tupO_s, turn_nx, turn_cnt, fin_r, fin_n, rz, hz2, b_sum, q, decide_false, Bool.not_false]
  have last : ∀ (wd : D) (a b c d : Option My.C), evS cf gl fu (.cons (.ret (.bin .ne (.bin .mod (.bi .sum (.cons (.comp [7, 8] (.tup (.cons (.nm 7) (.cons (.nm 8) (.nil)))) (.zip (.var 3) (.var 2)) (.nil) e2_3) .nil)) (.var 1)) (.int 0))) .nil)
      [some (.val, dr), some (.val, .int N), some (.val, sq u (rowI n y)), some (.val, rowsD true true n w C B), some (.val, wd), a, b, c, d] = some (.ret (.val, .bl (!decide (sm (fun i => B i * y i) n % N = 0)))) := by
    intro wd a b c d
    have hz : compL (cmpF cf gl [7, 8] (.tup (.cons (.nm 7) (.cons (.nm 8) .nil))) .nil e2_3 [some (.val, dr), some (.val, .int N), some (.val, sq u (rowI n y)), some (.val, rowsD true true n w C B), some (.val, wd), a, b, c, d])
        (row n fun i => .tup [sq true [sq true (rowI w (C i)), .int (B i)], .int (y i)]) = some (rowI n fun i => B i * y i) := compL_row fun i hi => by
      have hb := hB i hi
      simp -implicitDefEqProofs (disch := omega) only [cmpF, wipeE, e2_3, runF, List.length_cons, List.length_nil, List.map_cons, List.map_nil, List.cons_append, List.nil_append, List.append_nil, List.replicate_succ, List.replicate_zero, Nat.reduceAdd, Nat.reduceSub, Nat.zero_add, Nat.reduceLT, Nat.reduceLeDiff, List.getElem?_cons_zero, List.getElem?_cons_succ, List.set_cons_zero, List.set_cons_succ, rdV, D.isMut, if_true, if_false, ite_true, ite_false, reduceCtorEq, true_or, or_true, and_self, or_false, false_or, Bool.false_eq_true, x_var, x_int, x_str, x_bl, x_non, x_bin, x_and, x_or, x_andN, x_orN, x_andC, x_orC, x_not, x_neg, x_ite, x_lst, x_tup, x_nil, x_cons, x_call, x_bi, x_slc, x_isi, x_oN, x_sNil, x_sCons, x_set, x_sIte, x_ret, x_retN, x_brk, x_cnt, x_pass, x_doc, j_bin, j_un, j_seq, j_seqR, j_seqB, j_seqC, j_iteT, j_iteF, j_iteCT, j_iteCF, j_andT, j_andF, j_orT, j_orF, j_bl, j_cons, j_bi, j_asB, j_stV, j_stO, j_ret, retE, j_sl, o_add, o_sub, o_mulL, o_mulR, o_div, o_mod, o_pow, o_lt, o_le, o_gt, o_ge, o_eq, o_ne, o_isB, b_int, b_intB, b_lenL, b_lenT, b_max, b_min, b_tupL, b_tupT, b_lstL, b_lstT, b_abs, Option.bind_some, Option.map_some, Option.bind_none, Option.map_none, x_lock, x_frz, x_for, x_mth, x_unp, x_setIx, x_comp, x_it, x_rng, x_enm, x_zip, j_lockV, j_lockB, j_lockO, j_frzO, j_frzV, j_frzB, j_own, j_itL, j_itT, j_enmL, j_enmT, safeI, safeS, t_nm, t_tup, t_tupL, t_nil, t_cons, f_nil, f_one, v_val, v_own, argM, j_lst2, j_tup2, vls_nil, vls_val, vls_own, lstO_s, tupO_s, turn_nx, turn_cnt, fin_r, fin_n, a1]
    have hz2 := j_comp hz (by rw [rowI, row_len]; omega)
    simp -implicitDefEqProofs (disch := omega) only [runF, List.length_cons, List.length_nil, List.map_cons, List.map_nil, List.cons_append, List.nil_append, List.append_nil, List.replicate_succ, List.replicate_zero, Nat.reduceAdd, Nat.reduceSub, Nat.zero_add, Nat.reduceLT, Nat.reduceLeDiff, List.getElem?_cons_zero, List.getElem?_cons_succ, List.set_cons_zero, List.set_cons_succ, rdV, D.isMut, if_true, if_false, ite_true, ite_false, reduceCtorEq, true_or, or_true, and_self, or_false, false_or, Bool.false_eq_true, x_var, x_int, x_str, x_bl, x_non, x_bin, x_and, x_or, x_andN, x_orN, x_andC, x_orC, x_not, x_neg, x_ite, x_lst, x_tup, x_nil, x_cons, x_call, x_bi, x_slc, x_isi, x_oN, x_sNil, x_sCons, x_set, x_sIte, x_ret, x_retN, x_brk, x_cnt, x_pass, x_doc, j_bin, j_un, j_seq, j_seqR, j_seqB, j_seqC, j_iteT, j_iteF, j_iteCT, j_iteCF, j_andT, j_andF, j_orT, j_orF, j_bl, j_cons, j_bi, j_asB, j_stV, j_stO, j_ret, retE, j_sl, o_add, o_sub, o_mulL, o_mulR, o_div, o_mod, o_pow, o_lt, o_le, o_gt, o_ge, o_eq, o_ne, o_isB, b_int, b_intB, b_lenL, b_lenT, b_max, b_min, b_tupL, b_tupT, b_lstL, b_lstT, b_abs, Option.bind_some, Option.map_some, Option.bind_none, Option.map_none, x_lock, x_frz, x_for, x_mth, x_unp, x_setIx, x_comp, x_it, x_rng, x_enm, x_zip, j_lockV, j_lockB, j_lockO, j_frzO, j_frzV, j_frzB, j_own, j_itL, j_itT, j_enmL, j_enmT, safeI, safeS, t_nm, t_tup, t_tupL, t_nil, t_cons, f_nil, f_one, v_val, v_own, argM, j_lst2, j_tup2, vls_nil, vls_val, vls_own, lstO_s, tupO_s, turn_nx, turn_cnt, fin_r, fin_n, rz, hz2, b_sum]
  have go : ∀ W : Nat, W ≤ w → (∀ j, j < w → ¬ j < W → sm (fun i => C i j * y i) n % N = 0) →
      (∃ e, forO (some (row W fun i => .int (i : Int))) true (setT (.nm 5)) (evS cf gl fu b2_2) (evS cf gl fu .nil) [some (.val, dr), some (.val, .int N), some (.val, sq u (rowI n y)), some (.val, rowsD true true n w C B), some (.val, .int (W : Int)), none, none, none, none] = e ∧
        seqO e (evS cf gl fu (.cons (.ret (.bin .ne (.bin .mod (.bi .sum (.cons (.comp [7, 8] (.tup (.cons (.nm 7) (.cons (.nm 8) (.nil)))) (.zip (.var 3) (.var 2)) (.nil) e2_3) .nil)) (.var 1)) (.int 0))) .nil)) = some (.ret (.val, .bl (barsB n w C B y N)))) := by
    intro W hW hx
    refine ⟨_, rfl, ?_⟩
    rcases loop_all (g := setT (.nm 5)) (b := evS cf gl fu b2_2) (c := (.val, .bl false)) (fun i e => ∃ a b c d, e = [some (.val, dr), some (.val, .int N), some (.val, sq u (rowI n y)), some (.val, rowsD true true n w C B), some (.val, .int (W : Int)), a, b, c, d])
        (fun j => decide (sm (fun i => C i j * y i) n % N = 0)) (ds := row W fun i => .int (i : Int)) (env := [some (.val, dr), some (.val, .int N), some (.val, sq u (rowI n y)), some (.val, rowsD true true n w C B), some (.val, .int (W : Int)), none, none, none, none]) ⟨none, none, none, none, rfl⟩ (by
      rintro j dd e hd _ ⟨a, b, c, d, rfl⟩
      obtain ⟨hj, rfl⟩ := row_some hd
      rw [inner j _ a b c d (by omega)]
      refine ⟨fun q => ?_, fun q => ?_⟩
      · rw [if_pos (of_decide_eq_true q)]
        exact ⟨_, rfl, _, _, _, _, rfl⟩
      · rw [if_neg (of_decide_eq_false q)]) with ⟨q, e, he, a, b, c, d, rfl⟩ | ⟨q, he⟩
    · have z : decide (∀ j, j < w → sm (fun i => C i j * y i) n % N = 0) = true := decide_eq_true fun j hj => by
        by_cases hjW : j < W
        · exact of_decide_eq_true (q j (by rw [row_len]; exact hjW))
        · exact hx j hj hjW
      rw [j_for he, x_sNil, j_seq, last, barsB, z, Bool.true_and]
    · have z : decide (∀ j, j < w → sm (fun i => C i j * y i) n % N = 0) = false := decide_eq_false fun k => by
        obtain ⟨j, hj, ho⟩ := q
        rw [row_len] at hj
        exact of_decide_eq_false ho (k j (by omega))
      rw [j_forR he, j_seqR, barsB, z, Bool.false_and]
  have rr : ∀ (m : M) (W : Nat), W < 16777216 → rngO (some [(m, .int (W : Int))]) = some (row W fun i => .int (i : Int)) := fun m W h => rngO_nat (by omega)
  by_cases hz : n = 0
  · subst hz
    obtain ⟨e, h1, h2⟩ := go 0 (Nat.zero_le _) fun j _ _ => by simp [sm]
    have r0 := fun m => rr m 0 (by omega)
    have r1 : ∀ m, rngO (some [(m, .int 0)]) = some (row 0 fun i => .int (i : Int)) := r0
    have rl0 : ∀ m, biF .len [(m, rowsD true true 0 w C B)] = some (.val, .int 0) := rl
    rw [← h1] at h2
    have h3 : seqO (forO (some (row 0 fun i => .int (i : Int))) true (setT (.nm 5)) (evS cf gl fu b2_2) (evS cf gl fu .nil) [some (.val, dr), some (.val, .int N), some (.val, sq u (rowI 0 y)), some (.val, rowsD true true 0 w C B), some (.val, .int 0), none, none, none, none]) _ = _ := h2
    simp -implicitDefEqProofs (disch := omega) only [d2, b2, runF, List.length_cons, List.length_nil, List.map_cons, List.map_nil, List.cons_append, List.nil_append, List.append_nil, List.replicate_succ, List.replicate_zero, Nat.reduceAdd, Nat.reduceSub, Nat.zero_add, Nat.reduceLT, Nat.reduceLeDiff, List.getElem?_cons_zero, List.getElem?_cons_succ, List.set_cons_zero, List.set_cons_succ, rdV, D.isMut, if_true, if_false, ite_true, ite_false, reduceCtorEq, true_or, or_true, and_self, or_false, false_or, Bool.false_eq_true, x_var, x_int, x_str, x_bl, x_non, x_bin, x_and, x_or, x_andN, x_orN, x_andC, x_orC, x_not, x_neg, x_ite, x_lst, x_tup, x_nil, x_cons, x_call, x_bi, x_slc, x_isi, x_oN, x_sNil, x_sCons, x_set, x_sIte, x_ret, x_retN, x_brk, x_cnt, x_pass, x_doc, j_bin, j_un, j_seq, j_seqR, j_seqB, j_seqC, j_iteT, j_iteF, j_iteCT, j_iteCF, j_andT, j_andF, j_orT, j_orF, j_bl, j_cons, j_bi, j_asB, j_stV, j_stO, j_ret, retE, j_sl, o_add, o_sub, o_mulL, o_mulR, o_div, o_mod, o_pow, o_lt, o_le, o_gt, o_ge, o_eq, o_ne, o_isB, b_int, b_intB, b_lenL, b_lenT, b_max, b_min, b_tupL, b_tupT, b_lstL, b_lstT, b_abs, Option.bind_some, Option.map_some, Option.bind_none, Option.map_none, x_lock, x_frz, x_for, x_mth, x_unp, x_setIx, x_comp, x_it, x_rng, x_enm, x_zip, j_lockV, j_lockB, j_lockO, j_frzO, j_frzV, j_frzB, j_own, j_itL, j_itT, j_enmL, j_enmT, safeI, safeS, t_nm, t_tup, t_tupL, t_nil, t_cons, f_nil, f_one, v_val, v_own, argM, j_lst2, j_tup2, vls_nil, vls_val, vls_own, lstO_s, tupO_s, turn_nx, turn_cnt, fin_r, fin_n, hc0, rl0, decide_true, r1, h3]
  · obtain ⟨e, h1, h2⟩ := go w (Nat.le_refl _) fun j hj hn => absurd hj hn
    have q0 : ((n : Nat) : Int) = 0 ↔ False := ⟨fun h => by omega, False.elim⟩
    have i0 : op2 .idx (rowsD true true n w C B) (.int 0) = some (.val, sq true [sq true (rowI w (C 0)), .int (B 0)]) := sq_ix (row_at0 (by omega))
    have wl : ∀ m, biF .len [(m, sq true (rowI w (C 0)))] = some (.val, .int (w : Int)) := fun m => by rw [sq_len, rowI, row_len]
    have r0 := fun m => rr m w hw
    rw [← h1] at h2
    simp -implicitDefEqProofs (disch := omega) only [d2, b2, runF, List.length_cons, List.length_nil, List.map_cons, List.map_nil, List.cons_append, List.nil_append, List.append_nil, List.replicate_succ, List.replicate_zero, Nat.reduceAdd, Nat.reduceSub, Nat.zero_add, Nat.reduceLT, Nat.reduceLeDiff, List.getElem?_cons_zero, List.getElem?_cons_succ, List.set_cons_zero, List.set_cons_succ, rdV, D.isMut, if_true, if_false, ite_true, ite_false, reduceCtorEq, true_or, or_true, and_self, or_false, false_or, Bool.false_eq_true, x_var, x_int, x_str, x_bl, x_non, x_bin, x_and, x_or, x_andN, x_orN, x_andC, x_orC, x_not, x_neg, x_ite, x_lst, x_tup, x_nil, x_cons, x_call, x_bi, x_slc, x_isi, x_oN, x_sNil, x_sCons, x_set, x_sIte, x_ret, x_retN, x_brk, x_cnt, x_pass, x_doc, j_bin, j_un, j_seq, j_seqR, j_seqB, j_seqC, j_iteT, j_iteF, j_iteCT, j_iteCF, j_andT, j_andF, j_orT, j_orF, j_bl, j_cons, j_bi, j_asB, j_stV, j_stO, j_ret, retE, j_sl, o_add, o_sub, o_mulL, o_mulR, o_div, o_mod, o_pow, o_lt, o_le, o_gt, o_ge, o_eq, o_ne, o_isB, b_int, b_intB, b_lenL, b_lenT, b_max, b_min, b_tupL, b_tupT, b_lstL, b_lstT, b_abs, Option.bind_some, Option.map_some, Option.bind_none, Option.map_none, x_lock, x_frz, x_for, x_mth, x_unp, x_setIx, x_comp, x_it, x_rng, x_enm, x_zip, j_lockV, j_lockB, j_lockO, j_frzO, j_frzV, j_frzB, j_own, j_itL, j_itT, j_enmL, j_enmT, safeI, safeS, t_nm, t_tup, t_tupL, t_nil, t_cons, f_nil, f_one, v_val, v_own, argM, j_lst2, j_tup2, vls_nil, vls_val, vls_own, lstO_s, tupO_s, turn_nx, turn_cnt, fin_r, fin_n, hc0, rl, q0, decide_false, i0, a0, wl, r0, h2]
end My
end

section
set_option Elab.async false
set_option linter.all false
set_option maxRecDepth 100000
set_option maxHeartbeats 1000000
namespace My
open PySem
/-! small things by place -/
abbrev sml (i : Int) : Prop := -1000000 ≤ i ∧ i ≤ 1000000
theorem near_sml {r s d : Int} (h : 0 < s) (h2 : s ≤ 9000) : sml (near r s d) := by
  have h3 : 1 ≤ 9000 / s := (Int.le_ediv_iff_mul_le h).mpr (by omega)
  have a := Int.emod_nonneg r (show s ≠ 0 by omega)
  have b := Int.emod_lt_of_pos r h
  have c : s * (9000 / s) ≤ 9000 := Int.mul_ediv_self_le (by omega)
  unfold near
  generalize 9000 / s = m at *
  split
  · exact ⟨by omega, by omega⟩
  · have t0 := Int.emod_nonneg (d / 3) (show 2 * m ≠ 0 by omega)
    have t1 := Int.emod_lt_of_pos (d / 3) (show 0 < 2 * m by omega)
    generalize d / 3 % (2 * m) = t at *
    have u1 : s * (t - m) ≤ s * m := Int.mul_le_mul_of_nonneg_left (by omega) (by omega)
    have u2 : s * (-m) ≤ s * (t - m) := Int.mul_le_mul_of_nonneg_left (by omega) (by omega)
    rw [Int.mul_neg] at u2
    generalize s * (t - m) = u at *
    generalize s * m = v at *
    exact ⟨by omega, by omega⟩
theorem signed_sml {d : Int} (h : 0 ≤ d) (h2 : d < 20001) : sml (signed d) := by
  unfold signed
  split <;> exact ⟨by omega, by omega⟩
theorem rowI_len {n : Nat} {f : Nat → Int} : (rowI n f).length = n := row_len
theorem o_iL {n : Nat} {f : Nat → Int} {i : Int} (h : 0 ≤ i ∧ i < (n : Int)) : op2 .idx (.lst (rowI n f)) (.int i) = some (.val, .int (f i.toNat)) := by
  generalize hk : i.toNat = k
  have e : i = (k : Int) := by omega
  subst e
  exact o_ixL (row_atI (by omega))
theorem o_iT {n : Nat} {f : Nat → Int} {i : Int} (h : 0 ≤ i ∧ i < (n : Int)) : op2 .idx (.tup (rowI n f)) (.int i) = some (.val, .int (f i.toNat)) := by
  generalize hk : i.toNat = k
  have e : i = (k : Int) := by omega
  subst e
  exact o_ixT (row_atI (by omega))
theorem o_rL {n : Nat} {f : Nat → D} {i : Int} (h : 0 ≤ i ∧ i < (n : Int)) : op2 .idx (.lst (row n f)) (.int i) = some (.val, f i.toNat) := by
  generalize hk : i.toNat = k
  have e : i = (k : Int) := by omega
  subst e
  exact o_ixL (row_atI (by omega))
theorem o_t0 {a : D} {l : List D} : op2 .idx (.tup (a :: l)) (.int 0) = some (.val, a) := o_ixT (L2.atI_nat (j := 0) rfl)
theorem o_t1 {a b : D} {l : List D} : op2 .idx (.tup (a :: b :: l)) (.int 1) = some (.val, b) := o_ixT (L2.atI_nat (j := 1) rfl)
theorem o_l0 {a : D} {l : List D} : op2 .idx (.lst (a :: l)) (.int 0) = some (.val, a) := o_ixL (L2.atI_nat (j := 0) rfl)
theorem o_l1 {a b : D} {l : List D} : op2 .idx (.lst (a :: b :: l)) (.int 1) = some (.val, b) := o_ixL (L2.atI_nat (j := 1) rfl)
theorem o_l2 {a b c : D} {l : List D} : op2 .idx (.lst (a :: b :: c :: l)) (.int 2) = some (.val, c) := o_ixL (L2.atI_nat (j := 2) rfl)
theorem r_n {m : M} {n : Nat} (h : n < 4611686018427387904) : rngO (some [(m, .int (n : Int))]) = some (rowI n fun i => (i : Int)) := rngO_nat h
theorem row_congr {n : Nat} {f g : Nat → D} (h : ∀ i, i < n → f i = g i) : row n f = row n g := by
  unfold row
  exact List.map_congr_left fun i hi => h i (by simpa using hi)
theorem rowI_congr {n : Nat} {f g : Nat → Int} (h : ∀ i, i < n → f i = g i) : rowI n f = rowI n g := row_congr fun i hi => by rw [h i hi]
theorem row_ext {n : Nat} {f : Nat → D} {l : List D} (hl : l.length = n) (h : ∀ i, i < n → l[i]? = some (f i)) : l = row n f := by
  apply List.ext_getElem?
  intro i
  by_cases hi : i < n
  · rw [h i hi, row_at hi]
  · rw [List.getElem?_eq_none (by omega), List.getElem?_eq_none (by rw [row_len]; omega)]
theorem row_app {a b : Nat} {f g : Nat → D} : row a f ++ row b g = row (a + b) fun i => if i < a then f i else g (i - a) := by
  apply row_ext (by rw [List.length_append, row_len, row_len])
  intro i hi
  by_cases q : i < a
  · rw [List.getElem?_append_left (by rw [row_len]; exact q), row_at q, if_pos q]
  · rw [List.getElem?_append_right (by rw [row_len]; omega), row_len, row_at (by omega), if_neg q]
theorem rowI_app {a b : Nat} {f g : Nat → Int} : rowI a f ++ rowI b g = rowI (a + b) fun i => if i < a then f i else g (i - a) := by
  unfold rowI
  rw [row_app]
  exact row_congr fun i _ => by by_cases q : i < a <;> simp only [q, if_true, if_false]
theorem row_take {n k : Nat} {f : Nat → D} (h : k ≤ n) : (row n f).take k = row k f := by
  apply row_ext (by rw [List.length_take, row_len]; omega)
  intro i hi
  rw [List.getElem?_take_of_lt hi, row_at (by omega)]
theorem row_drop {n k : Nat} {f : Nat → D} : (row n f).drop k = row (n - k) fun i => f (k + i) := by
  apply row_ext (by rw [List.length_drop, row_len])
  intro i hi
  rw [List.getElem?_drop, row_at (by omega)]
theorem s_from {n : Nat} {f : Nat → D} {k : Int} (h : 0 ≤ k ∧ k ≤ (n : Int)) : slice (.lst (row n f)) (some k) none = some (.own, .lst (row (n - k.toNat) fun i => f (k.toNat + i))) := by
  generalize hk : k.toNat = j
  have e : k = (j : Int) := by omega
  subst e
  simp only [slice, cut, HT.sIx_none, HT.sIx_nat, row_len]
  rw [Nat.min_eq_left (by omega), row_drop, row_take (Nat.le_refl _)]
theorem s_to {n : Nat} {f : Nat → D} {k : Int} (h : 0 ≤ k ∧ k ≤ (n : Int)) : slice (.lst (row n f)) none (some k) = some (.own, .lst (row k.toNat f)) := by
  generalize hk : k.toNat = j
  have e : k = (j : Int) := by omega
  subst e
  simp only [slice, cut, HT.sIx_none, HT.sIx_nat, row_len]
  rw [Nat.min_eq_left (by omega), List.drop_zero, Nat.sub_zero, row_take (by omega)]
theorem s_fromI {n : Nat} {f : Nat → Int} {k : Int} (h : 0 ≤ k ∧ k ≤ (n : Int)) : slice (.lst (rowI n f)) (some k) none = some (.own, .lst (rowI (n - k.toNat) fun i => f (k.toNat + i))) := s_from h
theorem s_toI {n : Nat} {f : Nat → Int} {k : Int} (h : 0 ≤ k ∧ k ≤ (n : Int)) : slice (.lst (rowI n f)) none (some k) = some (.own, .lst (rowI k.toNat f)) := s_to h
section
variable {cf : CF} {gl : Nat → Option D} {env : Sl}
theorem x_oI {k : Int} : evO cf gl (.int k) env = some (some k) := by rw [evO]
theorem x_oB {o : Op2} {a b : E} : evO cf gl (.bin o a b) env = (ev cf gl (.bin o a b) env).bind optI := x_o rfl
theorem x_oV {i : Nat} : evO cf gl (.var i) env = (ev cf gl (.var i) env).bind optI := x_o rfl
end
theorem opt_int {m : M} {i : Int} : optI (m, .int i) = some (some i) := rfl
theorem o_addI {a b : Nat} {f g : Nat → Int} (h : a + b ≤ 16777216) : op2 .add (.lst (rowI a f)) (.lst (rowI b g)) = some (.own, .lst (rowI (a + b) fun i => if i < a then f i else g (i - a))) := by
  rw [← rowI_app]
  simp only [op2, opAdd, rowI_len, h, if_true]
theorem o_addR {a b : Nat} {f g : Nat → D} (h : a + b ≤ 16777216) : op2 .add (.lst (row a f)) (.lst (row b g)) = some (.own, .lst (row (a + b) fun i => if i < a then f i else g (i - a))) := by
  rw [← row_app]
  simp only [op2, opAdd, row_len, h, if_true]
theorem o_in2 {i a b : Int} : op2 .isin (.int i) (.tup [.int a, .int b]) = some (.val, .bl (decide (a = i) || decide (b = i))) := by
  simp [op2, opIn, memD, D.py, D.pyL, sh_int, eqv_int]
theorem j_neg {c : C} {i : Int} {m : M} : un1 (fun x => match x.2 with | .int i => some (.val, .int (-i)) | _ => none) (some (m, .int i)) = some (.val, .int (-i)) := rfl
/-- a comprehension by place, each element chosen -/
theorem choose_row {α : Type} [Inhabited α] {n : Nat} {P : Nat → α → Prop} (k : ∀ i, i < n → ∃ v, P i v) : ∃ h : Nat → α, ∀ i, i < n → P i (h i) := by
  refine ⟨fun i => if q : i < n then (k i q).choose else default, fun i hi => ?_⟩
  show P i (if q : i < n then (k i q).choose else default)
  rw [dif_pos hi]
  exact (k i hi).choose_spec
/-- a comprehension with tests -/
theorem compL_some {f : D → Option (Option D)} {P : D → Prop} : ∀ (ds : List D), (∀ d ∈ ds, ∃ o, f d = some o ∧ ∀ y, o = some y → P y) → ∃ r, compL f ds = some r ∧ r.length ≤ ds.length ∧ (∀ y ∈ r, P y) ∧ ((∃ d ∈ ds, ∃ y, f d = some (some y)) → 0 < r.length)
  | [], _ => ⟨[], rfl, Nat.le_refl _, fun y h => absurd h (by simp), fun ⟨d, h, _⟩ => absurd h (by simp)⟩
  | d :: ds, k => by
    obtain ⟨o, h1, h2⟩ := k d (by simp)
    obtain ⟨r, h3, h4, h5, h6⟩ := compL_some ds fun x hx => k x (by simp [hx])
    unfold compL
    rw [h1, Option.bind_some, h3, Option.map_some]
    cases o with
    | none =>
      refine ⟨r, rfl, by rw [List.length_cons]; omega, h5, fun ⟨x, hx, y, hy⟩ => h6 ⟨x, ?_, y, hy⟩⟩
      rcases List.mem_cons.mp hx with rfl | q
      · rw [h1] at hy; cases hy
      · exact q
    | some y =>
      refine ⟨y :: r, rfl, by rw [List.length_cons, List.length_cons]; omega, fun z hz => ?_, fun _ => by rw [List.length_cons]; omega⟩
      rcases List.mem_cons.mp hz with rfl | q
      · exact h2 _ rfl
      · exact h5 z q
theorem o_mem {l : List D} {i : Int} (h : 0 ≤ i ∧ i < (l.length : Int)) : ∃ d, d ∈ l ∧ op2 .idx (.lst l) (.int i) = some (.val, d) := by
  generalize hk : i.toNat = k
  have e : i = (k : Int) := by omega
  subst e
  have q : k < l.length := by omega
  exact ⟨l[k], List.getElem_mem q, o_ixL (L2.atI_nat (List.getElem?_eq_getElem q))⟩
/-! the defs at a call -/
def Near (cf : CF) : Prop := ∀ r s d : Int, 0 < s → s ≤ 9000 → cf 5 [(.val, .int r), (.val, .int s), (.val, .int d)] = some (.val, .int (near r s d))
theorem Near.j {cf : CF} (h : Near cf) {r s d : Int} (q : 0 < s ∧ s ≤ 9000) : callO (cf 5) (some [(.val, .int r), (.val, .int s), (.val, .int d)]) = some (.val, .int (near r s d)) := j_call (h r s d q.1 q.2) (.inl rfl)
def Signed (cf : CF) : Prop := ∀ d : Int, cf 6 [(.val, .int d)] = some (.val, .int (signed d))
theorem Signed.j {cf : CF} (h : Signed cf) {d : Int} : callO (cf 6) (some [(.val, .int d)]) = some (.val, .int (signed d)) := j_call (h d) (.inl rfl)
def Digits (cf : CF) : Prop := ∀ (c : Int) (n : Nat) (s : Nat → Int) (m : M), m = .val ∨ m = .bor → (∀ i, i < n → 0 < s i ∧ s i < 1073741824) → n < 16777216 →
  ∃ f : Nat → Int, (∀ i, i < n → 0 ≤ f i ∧ f i < s i) ∧ cf 4 [(.val, .int c), (m, .lst (rowI n s))] = some (.own, .lst (rowI n f))
theorem map_row {n : Nat} {s : Nat → Int} : ((List.range n).map s).map D.int = rowI n s := by
  unfold rowI row
  rw [List.map_map]
  rfl
theorem ints_row {l : List Int} : l.map D.int = rowI l.length fun i => l.getD i 0 := by
  apply row_ext (by simp)
  intro i hi
  show _ = some (D.int (l.getD i 0))
  rw [List.getElem?_map, List.getElem?_eq_getElem hi, Option.map_some, List.getD_eq_getElem?_getD, List.getElem?_eq_getElem hi]
  rfl
theorem digits_c {cf : CF} {gl : Nat → Option D} {fu : Nat} {c : Int} {n : Nat} {s : Nat → Int} {m : M} (hm : m = .val ∨ m = .bor) (hs : ∀ i, i < n → 0 < s i ∧ s i < 1073741824) (hn : n < 16777216) :
    ∃ f : Nat → Int, (∀ i, i < n → 0 ≤ f i ∧ f i < s i) ∧ runF cf gl fu d4 [(.val, .int c), (m, .lst (rowI n s))] = some (.own, .lst (rowI n f)) := by
  obtain ⟨ds, ⟨h1, h2⟩, h3⟩ := digits_ok cf gl fu c ((List.range n).map s) hm (by
    intro x hx
    obtain ⟨i, hi, rfl⟩ := List.mem_map.mp hx
    exact hs i (by simpa using hi)) (by simpa using hn)
  rw [map_row] at h3
  rw [List.length_map, List.length_range] at h1 h2
  refine ⟨fun i => ds.getD i 0, fun i hi => ?_, ?_⟩
  · have a := h2 i hi
    have e : ((List.range n).map s).getD i 0 = s i := by rw [List.getD_eq_getElem?_getD, List.getElem?_map, List.getElem?_range hi]; rfl
    rw [e] at a
    exact a
  · rw [h3, ints_row, h1]
def Cell (cf : CF) : Prop := ∀ (ns : List Int) (k : Int), 0 ≤ k → ∃ v, cf 3 [(.bor, .lst (ns.map D.int)), (.val, .int k)] = some (.val, .int v)
end My
end

section
set_option Elab.async false
set_option linter.all false
set_option maxRecDepth 100000
set_option maxHeartbeats 1000000
namespace My
open PySem
abbrev Rw := (Nat → Int) × Int
def encR (t : Bool) (w : Nat) (r : Rw) : D := sq t [sq t (rowI w r.1), .int r.2]
def okR (w : Nat) (r : Rw) : Prop := (∀ j, j < w → sml (r.1 j)) ∧ sml r.2
theorem encT {w : Nat} {r : Rw} : encR true w r = .tup [.tup (rowI w r.1), .int r.2] := rfl
theorem compL_filter {f : D → Option (Option D)} {g h : Nat → D} {p : Nat → Bool} {n : Nat} (k : ∀ i, i < n → f (g i) = some (if p i then some (h i) else none)) : compL f (row n g) = some (((List.range n).filter p).map h) := by
  unfold row
  generalize hl : List.range n = l
  have hm : ∀ i ∈ l, f (g i) = some (if p i then some (h i) else none) := fun i hi => k i (by rw [← hl] at hi; simpa using hi)
  clear hl k
  induction l with
  | nil => rfl
  | cons a r ih =>
    rw [List.map_cons, compL, hm a (by simp), Option.bind_some, ih fun i hi => hm i (by simp [hi])]
    cases hp : p a <;> simp [hp, consO]
def divs (lo N : Int) : List D := ((List.range (N + 1 - lo).toNat).filter fun (i : Nat) => decide (N % (lo + (i : Int)) = 0)).map fun (i : Nat) => .int (lo + (i : Int))
theorem divs_pos {lo N : Int} (h1 : 1 ≤ lo) (h2 : lo ≤ N) : 0 < (divs lo N).length := by
  have m : D.int N ∈ divs lo N := by
    refine List.mem_map.mpr ⟨(N - lo).toNat, List.mem_filter.mpr ⟨List.mem_range.mpr (by omega), ?_⟩, ?_⟩
    · have e : lo + ((N - lo).toNat : Int) = N := by omega
      rw [e, Int.emod_self]
      rfl
    · have e : lo + ((N - lo).toNat : Int) = N := by omega
      rw [e]
  exact List.length_pos_of_mem m
theorem divs_le {lo N : Int} : (divs lo N).length ≤ (N + 1 - lo).toNat := by
  unfold divs
  rw [List.length_map]
  exact Nat.le_trans (List.length_filter_le _ _) (by rw [List.length_range]; exact Nat.le_refl _)
theorem divs_ix {lo N i : Int} (h : 0 ≤ i ∧ i < ((divs lo N).length : Int)) : ∃ d, lo ≤ d ∧ d ≤ N ∧ op2 .idx (.lst (divs lo N)) (.int i) = some (.val, .int d) := by
  obtain ⟨d, h1, h2⟩ := o_mem h
  obtain ⟨k, h3, rfl⟩ := List.mem_map.mp h1
  have h4 := List.mem_range.mp (List.mem_filter.mp h3).1
  exact ⟨_, by omega, by omega, h2⟩
theorem divs_comp {cf : CF} {gl : Nat → Option D} {lo N : Int} {f : D → Option (Option D)} (hN : N + 1 - lo ≤ 16777216) (k : ∀ i : Nat, (i : Int) < N + 1 - lo → f (.int (lo + i)) = some (if decide (N % (lo + (i : Int)) = 0) then some (.int (lo + i)) else none)) :
    compO (some ((List.range (N + 1 - lo).toNat).map fun (k : Nat) => D.int (lo + k))) f = some (.own, .lst (divs lo N)) :=
  j_comp (compL_filter (n := (N + 1 - lo).toNat) (g := fun (i : Nat) => .int (lo + (i : Int))) (h := fun (i : Nat) => .int (lo + (i : Int))) fun i hi => k i (by omega)) (Nat.le_trans divs_le (by omega))
theorem compI {f : D → Option (Option D)} {n : Nat} {g : Nat → D} {h : Nat → Int} (k : ∀ j, j < n → f (g j) = some (some (.int (h j)))) (hn : n ≤ 16777216) : compO (some (row n g)) f = some (.own, .lst (rowI n h)) :=
  j_comp (compL_row (h := fun j => .int (h j)) k) (by rw [rowI_len]; exact hn)
section
variable {cf : CF} {gl : Nat → Option D} {w : Nat} {N : Int} {g p q : Nat → Int} {pb qb : D} {a b : Int} {s0 s1 s2 s3 s4 s5 s6 s7 s8 s9 s10 s11 s12 s13 s14 s15 s16 : Option My.C}
theorem c7_1 (hn : Near cf) (hw : w ≤ 40) (h0 : 0 < N) (h1 : N ≤ 9000) (hp : ∀ j, j < w → sml (p j)) (hq : ∀ j, j < w → sml (q j)) :
    compO (some (rowI w fun j => (j : Int))) (cmpF cf gl [16] (.nm 16) .nil e7_1 [s0, some (.val, .int N), s2, s3, some (.own, .lst (rowI w g)), s5, s6, some (.val, .tup [.tup (rowI w p), pb]), some (.val, .tup [.tup (rowI w q), qb]), some (.val, .int a), some (.val, .int b), s11, s12, s13, s14, s15, s16]) = some (.own, .lst (rowI w fun j => near (a * p j + b * q j) N (g j))) :=
  compI (fun j hj => by
    obtain ⟨_, _⟩ := hp j hj
    obtain ⟨_, _⟩ := hq j hj
    simp -implicitDefEqProofs (disch := omega) only [cmpF, wipeE, e7_1, runF, List.length_cons, List.length_nil, List.map_cons, List.map_nil, List.cons_append, List.nil_append, List.append_nil, List.replicate_succ, List.replicate_zero, Nat.reduceAdd, Nat.reduceSub, Nat.zero_add, Nat.reduceLT, Nat.reduceLeDiff, List.getElem?_cons_zero, List.getElem?_cons_succ, List.set_cons_zero, List.set_cons_succ, rdV, D.isMut, if_true, if_false, ite_true, ite_false, reduceCtorEq, true_or, or_true, and_self, or_false, false_or, Bool.false_eq_true, x_var, x_int, x_str, x_bl, x_non, x_bin, x_and, x_or, x_andN, x_orN, x_andC, x_orC, x_not, x_neg, x_ite, x_lst, x_tup, x_nil, x_cons, x_call, x_bi, x_slc, x_isi, x_oN, x_sNil, x_sCons, x_set, x_sIte, x_ret, x_retN, x_brk, x_cnt, x_pass, x_doc, j_bin, j_un, j_seq, j_seqR, j_seqB, j_seqC, j_iteT, j_iteF, j_iteCT, j_iteCF, j_andT, j_andF, j_orT, j_orF, j_bl, j_cons, j_bi, j_asB, j_stV, j_stO, j_ret, retE, j_sl, o_add, o_sub, o_mulL, o_mulR, o_div, o_mod, o_pow, o_lt, o_le, o_gt, o_ge, o_eq, o_ne, o_isB, b_int, b_intB, b_lenL, b_lenT, b_max, b_min, b_tupL, b_tupT, b_lstL, b_lstT, b_abs, Option.bind_some, Option.map_some, Option.bind_none, Option.map_none, x_lock, x_frz, x_for, x_mth, x_unp, x_setIx, x_comp, x_it, x_rng, x_enm, x_zip, j_lockV, j_lockB, j_lockO, j_frzO, j_frzV, j_frzB, j_own, j_itL, j_itT, j_enmL, j_enmT, safeI, safeS, t_nm, t_tup, t_tupL, t_nil, t_cons, f_nil, f_one, v_val, v_own, argM, j_lst2, j_tup2, vls_nil, vls_val, vls_own, lstO_s, tupO_s, turn_nx, turn_cnt, fin_r, fin_n, rowI_len, row_len, o_iL, o_iT, o_rL, o_t0, o_t1, o_l0, o_l1, o_l2, r_n, s_from, s_fromI, s_to, s_toI, x_oI, x_oB, x_oV, opt_int, o_addI, o_addR, o_in2, Int.toNat_natCast, Int.reduceToNat, Int.reduceEq, Int.reduceLT, Int.reduceLE, Int.reduceAdd, Int.reduceSub, Int.reduceMul, Int.reduceNeg, decide_true, decide_false, eq_self, Bool.true_or, Bool.or_true, Bool.or_false, Bool.false_or, Bool.not_true, Bool.not_false, sq_it, Int.cast_ofNat_Int, hn.j]) (by omega)
theorem c7_2 (hn : Near cf) (hw : w ≤ 40) (h0 : 0 < N) (h1 : N ≤ 9000) :
    compO (some (rowI w fun j => (j : Int))) (cmpF cf gl [16] (.nm 16) .nil e7_2 [s0, some (.val, .int N), s2, s3, some (.own, .lst (rowI w g)), s5, s6, s7, s8, s9, s10, s11, s12, s13, s14, s15, s16]) = some (.own, .lst (rowI w fun j => near 0 N (g j))) :=
  compI (fun j hj => by
    simp -implicitDefEqProofs (disch := omega) only [cmpF, wipeE, e7_2, runF, List.length_cons, List.length_nil, List.map_cons, List.map_nil, List.cons_append, List.nil_append, List.append_nil, List.replicate_succ, List.replicate_zero, Nat.reduceAdd, Nat.reduceSub, Nat.zero_add, Nat.reduceLT, Nat.reduceLeDiff, List.getElem?_cons_zero, List.getElem?_cons_succ, List.set_cons_zero, List.set_cons_succ, rdV, D.isMut, if_true, if_false, ite_true, ite_false, reduceCtorEq, true_or, or_true, and_self, or_false, false_or, Bool.false_eq_true, x_var, x_int, x_str, x_bl, x_non, x_bin, x_and, x_or, x_andN, x_orN, x_andC, x_orC, x_not, x_neg, x_ite, x_lst, x_tup, x_nil, x_cons, x_call, x_bi, x_slc, x_isi, x_oN, x_sNil, x_sCons, x_set, x_sIte, x_ret, x_retN, x_brk, x_cnt, x_pass, x_doc, j_bin, j_un, j_seq, j_seqR, j_seqB, j_seqC, j_iteT, j_iteF, j_iteCT, j_iteCF, j_andT, j_andF, j_orT, j_orF, j_bl, j_cons, j_bi, j_asB, j_stV, j_stO, j_ret, retE, j_sl, o_add, o_sub, o_mulL, o_mulR, o_div, o_mod, o_pow, o_lt, o_le, o_gt, o_ge, o_eq, o_ne, o_isB, b_int, b_intB, b_lenL, b_lenT, b_max, b_min, b_tupL, b_tupT, b_lstL, b_lstT, b_abs, Option.bind_some, Option.map_some, Option.bind_none, Option.map_none, x_lock, x_frz, x_for, x_mth, x_unp, x_setIx, x_comp, x_it, x_rng, x_enm, x_zip, j_lockV, j_lockB, j_lockO, j_frzO, j_frzV, j_frzB, j_own, j_itL, j_itT, j_enmL, j_enmT, safeI, safeS, t_nm, t_tup, t_tupL, t_nil, t_cons, f_nil, f_one, v_val, v_own, argM, j_lst2, j_tup2, vls_nil, vls_val, vls_own, lstO_s, tupO_s, turn_nx, turn_cnt, fin_r, fin_n, rowI_len, row_len, o_iL, o_iT, o_rL, o_t0, o_t1, o_l0, o_l1, o_l2, r_n, s_from, s_fromI, s_to, s_toI, x_oI, x_oB, x_oV, opt_int, o_addI, o_addR, o_in2, Int.toNat_natCast, Int.reduceToNat, Int.reduceEq, Int.reduceLT, Int.reduceLE, Int.reduceAdd, Int.reduceSub, Int.reduceMul, Int.reduceNeg, decide_true, decide_false, eq_self, Bool.true_or, Bool.or_true, Bool.or_false, Bool.false_or, Bool.not_true, Bool.not_false, sq_it, Int.cast_ofNat_Int, hn.j]) (by omega)
theorem c7_3 (hs : Signed cf) (hw : w ≤ 40) :
    compO (some (rowI w fun j => (j : Int))) (cmpF cf gl [16] (.nm 16) .nil e7_3 [s0, s1, s2, s3, some (.own, .lst (rowI w g)), s5, s6, s7, s8, s9, s10, s11, some (.val, .int a), s13, s14, s15, s16]) = some (.own, .lst (rowI w fun j => if (j : Int) = a then signed (g j) else 0)) :=
  compI (fun j hj => by
    by_cases e : (j : Int) = a
    · simp -implicitDefEqProofs (disch := omega) only [cmpF, wipeE, e7_3, runF, List.length_cons, List.length_nil, List.map_cons, List.map_nil, List.cons_append, List.nil_append, List.append_nil, List.replicate_succ, List.replicate_zero, Nat.reduceAdd, Nat.reduceSub, Nat.zero_add, Nat.reduceLT, Nat.reduceLeDiff, List.getElem?_cons_zero, List.getElem?_cons_succ, List.set_cons_zero, List.set_cons_succ, rdV, D.isMut, if_true, if_false, ite_true, ite_false, reduceCtorEq, true_or, or_true, and_self, or_false, false_or, Bool.false_eq_true, x_var, x_int, x_str, x_bl, x_non, x_bin, x_and, x_or, x_andN, x_orN, x_andC, x_orC, x_not, x_neg, x_ite, x_lst, x_tup, x_nil, x_cons, x_call, x_bi, x_slc, x_isi, x_oN, x_sNil, x_sCons, x_set, x_sIte, x_ret, x_retN, x_brk, x_cnt, x_pass, x_doc, j_bin, j_un, j_seq, j_seqR, j_seqB, j_seqC, j_iteT, j_iteF, j_iteCT, j_iteCF, j_andT, j_andF, j_orT, j_orF, j_bl, j_cons, j_bi, j_asB, j_stV, j_stO, j_ret, retE, j_sl, o_add, o_sub, o_mulL, o_mulR, o_div, o_mod, o_pow, o_lt, o_le, o_gt, o_ge, o_eq, o_ne, o_isB, b_int, b_intB, b_lenL, b_lenT, b_max, b_min, b_tupL, b_tupT, b_lstL, b_lstT, b_abs, Option.bind_some, Option.map_some, Option.bind_none, Option.map_none, x_lock, x_frz, x_for, x_mth, x_unp, x_setIx, x_comp, x_it, x_rng, x_enm, x_zip, j_lockV, j_lockB, j_lockO, j_frzO, j_frzV, j_frzB, j_own, j_itL, j_itT, j_enmL, j_enmT, safeI, safeS, t_nm, t_tup, t_tupL, t_nil, t_cons, f_nil, f_one, v_val, v_own, argM, j_lst2, j_tup2, vls_nil, vls_val, vls_own, lstO_s, tupO_s, turn_nx, turn_cnt, fin_r, fin_n, rowI_len, row_len, o_iL, o_iT, o_rL, o_t0, o_t1, o_l0, o_l1, o_l2, r_n, s_from, s_fromI, s_to, s_toI, x_oI, x_oB, x_oV, opt_int, o_addI, o_addR, o_in2, Int.toNat_natCast, Int.reduceToNat, Int.reduceEq, Int.reduceLT, Int.reduceLE, Int.reduceAdd, Int.reduceSub, Int.reduceMul, Int.reduceNeg, decide_true, decide_false, eq_self, Bool.true_or, Bool.or_true, Bool.or_false, Bool.false_or, Bool.not_true, Bool.not_false, sq_it, Int.cast_ofNat_Int, hs.j, e]
      subst e
      simp -implicitDefEqProofs (disch := omega) only [runF, List.length_cons, List.length_nil, List.map_cons, List.map_nil, List.cons_append, List.nil_append, List.append_nil, List.replicate_succ, List.replicate_zero, Nat.reduceAdd, Nat.reduceSub, Nat.zero_add, Nat.reduceLT, Nat.reduceLeDiff, List.getElem?_cons_zero, List.getElem?_cons_succ, List.set_cons_zero, List.set_cons_succ, rdV, D.isMut, if_true, if_false, ite_true, ite_false, reduceCtorEq, true_or, or_true, and_self, or_false, false_or, Bool.false_eq_true, x_var, x_int, x_str, x_bl, x_non, x_bin, x_and, x_or, x_andN, x_orN, x_andC, x_orC, x_not, x_neg, x_ite, x_lst, x_tup, x_nil, x_cons, x_call, x_bi, x_slc, x_isi, x_oN, x_sNil, x_sCons, x_set, x_sIte, x_ret, x_retN, x_brk, x_cnt, x_pass, x_doc, j_bin, j_un, j_seq, j_seqR, j_seqB, j_seqC, j_iteT, j_iteF, j_iteCT, j_iteCF, j_andT, j_andF, j_orT, j_orF, j_bl, j_cons, j_bi, j_asB, j_stV, j_stO, j_ret, retE, j_sl, o_add, o_sub, o_mulL, o_mulR, o_div, o_mod, o_pow, o_lt, o_le, o_gt, o_ge, o_eq, o_ne, o_isB, b_int, b_intB, b_lenL, b_lenT, b_max, b_min, b_tupL, b_tupT, b_lstL, b_lstT, b_abs, Option.bind_some, Option.map_some, Option.bind_none, Option.map_none, x_lock, x_frz, x_for, x_mth, x_unp, x_setIx, x_comp, x_it, x_rng, x_enm, x_zip, j_lockV, j_lockB, j_lockO, j_frzO, j_frzV, j_frzB, j_own, j_itL, j_itT, j_enmL, j_enmT, safeI, safeS, t_nm, t_tup, t_tupL, t_nil, t_cons, f_nil, f_one, v_val, v_own, argM, j_lst2, j_tup2, vls_nil, vls_val, vls_own, lstO_s, tupO_s, turn_nx, turn_cnt, fin_r, fin_n, rowI_len, row_len, o_iL, o_iT, o_rL, o_t0, o_t1, o_l0, o_l1, o_l2, r_n, s_from, s_fromI, s_to, s_toI, x_oI, x_oB, x_oV, opt_int, o_addI, o_addR, o_in2, Int.toNat_natCast, Int.reduceToNat, Int.reduceEq, Int.reduceLT, Int.reduceLE, Int.reduceAdd, Int.reduceSub, Int.reduceMul, Int.reduceNeg, decide_true, decide_false, eq_self, Bool.true_or, Bool.or_true, Bool.or_false, Bool.false_or, Bool.not_true, Bool.not_false, sq_it, Int.cast_ofNat_Int, hs.j]
    · simp -implicitDefEqProofs (disch := omega) only [cmpF, wipeE, e7_3, runF, List.length_cons, List.length_nil, List.map_cons, List.map_nil, List.cons_append, List.nil_append, List.append_nil, List.replicate_succ, List.replicate_zero, Nat.reduceAdd, Nat.reduceSub, Nat.zero_add, Nat.reduceLT, Nat.reduceLeDiff, List.getElem?_cons_zero, List.getElem?_cons_succ, List.set_cons_zero, List.set_cons_succ, rdV, D.isMut, if_true, if_false, ite_true, ite_false, reduceCtorEq, true_or, or_true, and_self, or_false, false_or, Bool.false_eq_true, x_var, x_int, x_str, x_bl, x_non, x_bin, x_and, x_or, x_andN, x_orN, x_andC, x_orC, x_not, x_neg, x_ite, x_lst, x_tup, x_nil, x_cons, x_call, x_bi, x_slc, x_isi, x_oN, x_sNil, x_sCons, x_set, x_sIte, x_ret, x_retN, x_brk, x_cnt, x_pass, x_doc, j_bin, j_un, j_seq, j_seqR, j_seqB, j_seqC, j_iteT, j_iteF, j_iteCT, j_iteCF, j_andT, j_andF, j_orT, j_orF, j_bl, j_cons, j_bi, j_asB, j_stV, j_stO, j_ret, retE, j_sl, o_add, o_sub, o_mulL, o_mulR, o_div, o_mod, o_pow, o_lt, o_le, o_gt, o_ge, o_eq, o_ne, o_isB, b_int, b_intB, b_lenL, b_lenT, b_max, b_min, b_tupL, b_tupT, b_lstL, b_lstT, b_abs, Option.bind_some, Option.map_some, Option.bind_none, Option.map_none, x_lock, x_frz, x_for, x_mth, x_unp, x_setIx, x_comp, x_it, x_rng, x_enm, x_zip, j_lockV, j_lockB, j_lockO, j_frzO, j_frzV, j_frzB, j_own, j_itL, j_itT, j_enmL, j_enmT, safeI, safeS, t_nm, t_tup, t_tupL, t_nil, t_cons, f_nil, f_one, v_val, v_own, argM, j_lst2, j_tup2, vls_nil, vls_val, vls_own, lstO_s, tupO_s, turn_nx, turn_cnt, fin_r, fin_n, rowI_len, row_len, o_iL, o_iT, o_rL, o_t0, o_t1, o_l0, o_l1, o_l2, r_n, s_from, s_fromI, s_to, s_toI, x_oI, x_oB, x_oV, opt_int, o_addI, o_addR, o_in2, Int.toNat_natCast, Int.reduceToNat, Int.reduceEq, Int.reduceLT, Int.reduceLE, Int.reduceAdd, Int.reduceSub, Int.reduceMul, Int.reduceNeg, decide_true, decide_false, eq_self, Bool.true_or, Bool.or_true, Bool.or_false, Bool.false_or, Bool.not_true, Bool.not_false, sq_it, Int.cast_ofNat_Int, hs.j, e]) (by omega)
theorem c7_4 (h0 : 0 < N) (h1 : N ≤ 9000) :
    compO (some ((List.range (N + 1 - 1).toNat).map fun (k : Nat) => D.int (1 + k))) (cmpF cf gl [15] (.nm 15) (.cons (.bin .eq (.bin .mod (.bi .int (.cons (.var 1) .nil)) (.var 15)) (.int 0)) .nil) e7_4 [s0, some (.val, .int N), s2, s3, s4, s5, s6, s7, s8, s9, s10, s11, s12, s13, s14, s15, s16]) = some (.own, .lst (divs 1 N)) :=
  divs_comp (cf := cf) (gl := gl) (by omega) fun i hi => by
    by_cases e : N % (1 + (i : Int)) = 0
    · simp -implicitDefEqProofs (disch := omega) only [cmpF, wipeE, e7_4, runF, List.length_cons, List.length_nil, List.map_cons, List.map_nil, List.cons_append, List.nil_append, List.append_nil, List.replicate_succ, List.replicate_zero, Nat.reduceAdd, Nat.reduceSub, Nat.zero_add, Nat.reduceLT, Nat.reduceLeDiff, List.getElem?_cons_zero, List.getElem?_cons_succ, List.set_cons_zero, List.set_cons_succ, rdV, D.isMut, if_true, if_false, ite_true, ite_false, reduceCtorEq, true_or, or_true, and_self, or_false, false_or, Bool.false_eq_true, x_var, x_int, x_str, x_bl, x_non, x_bin, x_and, x_or, x_andN, x_orN, x_andC, x_orC, x_not, x_neg, x_ite, x_lst, x_tup, x_nil, x_cons, x_call, x_bi, x_slc, x_isi, x_oN, x_sNil, x_sCons, x_set, x_sIte, x_ret, x_retN, x_brk, x_cnt, x_pass, x_doc, j_bin, j_un, j_seq, j_seqR, j_seqB, j_seqC, j_iteT, j_iteF, j_iteCT, j_iteCF, j_andT, j_andF, j_orT, j_orF, j_bl, j_cons, j_bi, j_asB, j_stV, j_stO, j_ret, retE, j_sl, o_add, o_sub, o_mulL, o_mulR, o_div, o_mod, o_pow, o_lt, o_le, o_gt, o_ge, o_eq, o_ne, o_isB, b_int, b_intB, b_lenL, b_lenT, b_max, b_min, b_tupL, b_tupT, b_lstL, b_lstT, b_abs, Option.bind_some, Option.map_some, Option.bind_none, Option.map_none, x_lock, x_frz, x_for, x_mth, x_unp, x_setIx, x_comp, x_it, x_rng, x_enm, x_zip, j_lockV, j_lockB, j_lockO, j_frzO, j_frzV, j_frzB, j_own, j_itL, j_itT, j_enmL, j_enmT, safeI, safeS, t_nm, t_tup, t_tupL, t_nil, t_cons, f_nil, f_one, v_val, v_own, argM, j_lst2, j_tup2, vls_nil, vls_val, vls_own, lstO_s, tupO_s, turn_nx, turn_cnt, fin_r, fin_n, rowI_len, row_len, o_iL, o_iT, o_rL, o_t0, o_t1, o_l0, o_l1, o_l2, r_n, s_from, s_fromI, s_to, s_toI, x_oI, x_oB, x_oV, opt_int, o_addI, o_addR, o_in2, Int.toNat_natCast, Int.reduceToNat, Int.reduceEq, Int.reduceLT, Int.reduceLE, Int.reduceAdd, Int.reduceSub, Int.reduceMul, Int.reduceNeg, decide_true, decide_false, eq_self, Bool.true_or, Bool.or_true, Bool.or_false, Bool.false_or, Bool.not_true, Bool.not_false, sq_it, Int.cast_ofNat_Int, e]
    · simp -implicitDefEqProofs (disch := omega) only [cmpF, wipeE, e7_4, runF, List.length_cons, List.length_nil, List.map_cons, List.map_nil, List.cons_append, List.nil_append, List.append_nil, List.replicate_succ, List.replicate_zero, Nat.reduceAdd, Nat.reduceSub, Nat.zero_add, Nat.reduceLT, Nat.reduceLeDiff, List.getElem?_cons_zero, List.getElem?_cons_succ, List.set_cons_zero, List.set_cons_succ, rdV, D.isMut, if_true, if_false, ite_true, ite_false, reduceCtorEq, true_or, or_true, and_self, or_false, false_or, Bool.false_eq_true, x_var, x_int, x_str, x_bl, x_non, x_bin, x_and, x_or, x_andN, x_orN, x_andC, x_orC, x_not, x_neg, x_ite, x_lst, x_tup, x_nil, x_cons, x_call, x_bi, x_slc, x_isi, x_oN, x_sNil, x_sCons, x_set, x_sIte, x_ret, x_retN, x_brk, x_cnt, x_pass, x_doc, j_bin, j_un, j_seq, j_seqR, j_seqB, j_seqC, j_iteT, j_iteF, j_iteCT, j_iteCF, j_andT, j_andF, j_orT, j_orF, j_bl, j_cons, j_bi, j_asB, j_stV, j_stO, j_ret, retE, j_sl, o_add, o_sub, o_mulL, o_mulR, o_div, o_mod, o_pow, o_lt, o_le, o_gt, o_ge, o_eq, o_ne, o_isB, b_int, b_intB, b_lenL, b_lenT, b_max, b_min, b_tupL, b_tupT, b_lstL, b_lstT, b_abs, Option.bind_some, Option.map_some, Option.bind_none, Option.map_none, x_lock, x_frz, x_for, x_mth, x_unp, x_setIx, x_comp, x_it, x_rng, x_enm, x_zip, j_lockV, j_lockB, j_lockO, j_frzO, j_frzV, j_frzB, j_own, j_itL, j_itT, j_enmL, j_enmT, safeI, safeS, t_nm, t_tup, t_tupL, t_nil, t_cons, f_nil, f_one, v_val, v_own, argM, j_lst2, j_tup2, vls_nil, vls_val, vls_own, lstO_s, tupO_s, turn_nx, turn_cnt, fin_r, fin_n, rowI_len, row_len, o_iL, o_iT, o_rL, o_t0, o_t1, o_l0, o_l1, o_l2, r_n, s_from, s_fromI, s_to, s_toI, x_oI, x_oB, x_oV, opt_int, o_addI, o_addR, o_in2, Int.toNat_natCast, Int.reduceToNat, Int.reduceEq, Int.reduceLT, Int.reduceLE, Int.reduceAdd, Int.reduceSub, Int.reduceMul, Int.reduceNeg, decide_true, decide_false, eq_self, Bool.true_or, Bool.or_true, Bool.or_false, Bool.false_or, Bool.not_true, Bool.not_false, sq_it, Int.cast_ofNat_Int, e]
theorem c7_5 (hn : Near cf) (hw : w ≤ 40) (h0 : 0 < N) (h1 : N ≤ 9000) (ha : 0 ≤ a ∧ a ≤ 9000) :
    compO (some (rowI w fun j => (j : Int))) (cmpF cf gl [16] (.nm 16) .nil e7_5 [s0, some (.val, .int N), s2, s3, some (.own, .lst (rowI w g)), s5, s6, s7, s8, s9, s10, s11, s12, s13, some (.val, .int a), s15, s16]) = some (.own, .lst (rowI w fun j => near (a * g j) N (g j / 127))) :=
  compI (fun j hj => by
    simp -implicitDefEqProofs (disch := omega) only [cmpF, wipeE, e7_5, runF, List.length_cons, List.length_nil, List.map_cons, List.map_nil, List.cons_append, List.nil_append, List.append_nil, List.replicate_succ, List.replicate_zero, Nat.reduceAdd, Nat.reduceSub, Nat.zero_add, Nat.reduceLT, Nat.reduceLeDiff, List.getElem?_cons_zero, List.getElem?_cons_succ, List.set_cons_zero, List.set_cons_succ, rdV, D.isMut, if_true, if_false, ite_true, ite_false, reduceCtorEq, true_or, or_true, and_self, or_false, false_or, Bool.false_eq_true, x_var, x_int, x_str, x_bl, x_non, x_bin, x_and, x_or, x_andN, x_orN, x_andC, x_orC, x_not, x_neg, x_ite, x_lst, x_tup, x_nil, x_cons, x_call, x_bi, x_slc, x_isi, x_oN, x_sNil, x_sCons, x_set, x_sIte, x_ret, x_retN, x_brk, x_cnt, x_pass, x_doc, j_bin, j_un, j_seq, j_seqR, j_seqB, j_seqC, j_iteT, j_iteF, j_iteCT, j_iteCF, j_andT, j_andF, j_orT, j_orF, j_bl, j_cons, j_bi, j_asB, j_stV, j_stO, j_ret, retE, j_sl, o_add, o_sub, o_mulL, o_mulR, o_div, o_mod, o_pow, o_lt, o_le, o_gt, o_ge, o_eq, o_ne, o_isB, b_int, b_intB, b_lenL, b_lenT, b_max, b_min, b_tupL, b_tupT, b_lstL, b_lstT, b_abs, Option.bind_some, Option.map_some, Option.bind_none, Option.map_none, x_lock, x_frz, x_for, x_mth, x_unp, x_setIx, x_comp, x_it, x_rng, x_enm, x_zip, j_lockV, j_lockB, j_lockO, j_frzO, j_frzV, j_frzB, j_own, j_itL, j_itT, j_enmL, j_enmT, safeI, safeS, t_nm, t_tup, t_tupL, t_nil, t_cons, f_nil, f_one, v_val, v_own, argM, j_lst2, j_tup2, vls_nil, vls_val, vls_own, lstO_s, tupO_s, turn_nx, turn_cnt, fin_r, fin_n, rowI_len, row_len, o_iL, o_iT, o_rL, o_t0, o_t1, o_l0, o_l1, o_l2, r_n, s_from, s_fromI, s_to, s_toI, x_oI, x_oB, x_oV, opt_int, o_addI, o_addR, o_in2, Int.toNat_natCast, Int.reduceToNat, Int.reduceEq, Int.reduceLT, Int.reduceLE, Int.reduceAdd, Int.reduceSub, Int.reduceMul, Int.reduceNeg, decide_true, decide_false, eq_self, Bool.true_or, Bool.or_true, Bool.or_false, Bool.false_or, Bool.not_true, Bool.not_false, sq_it, Int.cast_ofNat_Int, hn.j]) (by omega)
theorem c7_6 (hw : w ≤ 40) :
    compO (some (rowI w fun j => (j : Int))) (cmpF cf gl [16] (.nm 16) .nil e7_6 [s0, s1, s2, s3, some (.own, .lst (rowI w g)), s5, s6, s7, s8, s9, s10, s11, s12, s13, s14, s15, s16]) = some (.own, .lst (rowI w fun j => g j % 5 - 2)) :=
  compI (fun j hj => by
    simp -implicitDefEqProofs (disch := omega) only [cmpF, wipeE, e7_6, runF, List.length_cons, List.length_nil, List.map_cons, List.map_nil, List.cons_append, List.nil_append, List.append_nil, List.replicate_succ, List.replicate_zero, Nat.reduceAdd, Nat.reduceSub, Nat.zero_add, Nat.reduceLT, Nat.reduceLeDiff, List.getElem?_cons_zero, List.getElem?_cons_succ, List.set_cons_zero, List.set_cons_succ, rdV, D.isMut, if_true, if_false, ite_true, ite_false, reduceCtorEq, true_or, or_true, and_self, or_false, false_or, Bool.false_eq_true, x_var, x_int, x_str, x_bl, x_non, x_bin, x_and, x_or, x_andN, x_orN, x_andC, x_orC, x_not, x_neg, x_ite, x_lst, x_tup, x_nil, x_cons, x_call, x_bi, x_slc, x_isi, x_oN, x_sNil, x_sCons, x_set, x_sIte, x_ret, x_retN, x_brk, x_cnt, x_pass, x_doc, j_bin, j_un, j_seq, j_seqR, j_seqB, j_seqC, j_iteT, j_iteF, j_iteCT, j_iteCF, j_andT, j_andF, j_orT, j_orF, j_bl, j_cons, j_bi, j_asB, j_stV, j_stO, j_ret, retE, j_sl, o_add, o_sub, o_mulL, o_mulR, o_div, o_mod, o_pow, o_lt, o_le, o_gt, o_ge, o_eq, o_ne, o_isB, b_int, b_intB, b_lenL, b_lenT, b_max, b_min, b_tupL, b_tupT, b_lstL, b_lstT, b_abs, Option.bind_some, Option.map_some, Option.bind_none, Option.map_none, x_lock, x_frz, x_for, x_mth, x_unp, x_setIx, x_comp, x_it, x_rng, x_enm, x_zip, j_lockV, j_lockB, j_lockO, j_frzO, j_frzV, j_frzB, j_own, j_itL, j_itT, j_enmL, j_enmT, safeI, safeS, t_nm, t_tup, t_tupL, t_nil, t_cons, f_nil, f_one, v_val, v_own, argM, j_lst2, j_tup2, vls_nil, vls_val, vls_own, lstO_s, tupO_s, turn_nx, turn_cnt, fin_r, fin_n, rowI_len, row_len, o_iL, o_iT, o_rL, o_t0, o_t1, o_l0, o_l1, o_l2, r_n, s_from, s_fromI, s_to, s_toI, x_oI, x_oB, x_oV, opt_int, o_addI, o_addR, o_in2, Int.toNat_natCast, Int.reduceToNat, Int.reduceEq, Int.reduceLT, Int.reduceLE, Int.reduceAdd, Int.reduceSub, Int.reduceMul, Int.reduceNeg, decide_true, decide_false, eq_self, Bool.true_or, Bool.or_true, Bool.or_false, Bool.false_or, Bool.not_true, Bool.not_false, sq_it, Int.cast_ofNat_Int]) (by omega)
theorem c7_7 (hs : Signed cf) (hw : w ≤ 40) :
    compO (some (rowI w fun j => (j : Int))) (cmpF cf gl [16] (.nm 16) .nil e7_7 [s0, s1, s2, s3, some (.own, .lst (rowI w g)), s5, s6, s7, s8, s9, s10, s11, s12, s13, s14, s15, s16]) = some (.own, .lst (rowI w fun j => signed (g j))) :=
  compI (fun j hj => by
    simp -implicitDefEqProofs (disch := omega) only [cmpF, wipeE, e7_7, runF, List.length_cons, List.length_nil, List.map_cons, List.map_nil, List.cons_append, List.nil_append, List.append_nil, List.replicate_succ, List.replicate_zero, Nat.reduceAdd, Nat.reduceSub, Nat.zero_add, Nat.reduceLT, Nat.reduceLeDiff, List.getElem?_cons_zero, List.getElem?_cons_succ, List.set_cons_zero, List.set_cons_succ, rdV, D.isMut, if_true, if_false, ite_true, ite_false, reduceCtorEq, true_or, or_true, and_self, or_false, false_or, Bool.false_eq_true, x_var, x_int, x_str, x_bl, x_non, x_bin, x_and, x_or, x_andN, x_orN, x_andC, x_orC, x_not, x_neg, x_ite, x_lst, x_tup, x_nil, x_cons, x_call, x_bi, x_slc, x_isi, x_oN, x_sNil, x_sCons, x_set, x_sIte, x_ret, x_retN, x_brk, x_cnt, x_pass, x_doc, j_bin, j_un, j_seq, j_seqR, j_seqB, j_seqC, j_iteT, j_iteF, j_iteCT, j_iteCF, j_andT, j_andF, j_orT, j_orF, j_bl, j_cons, j_bi, j_asB, j_stV, j_stO, j_ret, retE, j_sl, o_add, o_sub, o_mulL, o_mulR, o_div, o_mod, o_pow, o_lt, o_le, o_gt, o_ge, o_eq, o_ne, o_isB, b_int, b_intB, b_lenL, b_lenT, b_max, b_min, b_tupL, b_tupT, b_lstL, b_lstT, b_abs, Option.bind_some, Option.map_some, Option.bind_none, Option.map_none, x_lock, x_frz, x_for, x_mth, x_unp, x_setIx, x_comp, x_it, x_rng, x_enm, x_zip, j_lockV, j_lockB, j_lockO, j_frzO, j_frzV, j_frzB, j_own, j_itL, j_itT, j_enmL, j_enmT, safeI, safeS, t_nm, t_tup, t_tupL, t_nil, t_cons, f_nil, f_one, v_val, v_own, argM, j_lst2, j_tup2, vls_nil, vls_val, vls_own, lstO_s, tupO_s, turn_nx, turn_cnt, fin_r, fin_n, rowI_len, row_len, o_iL, o_iT, o_rL, o_t0, o_t1, o_l0, o_l1, o_l2, r_n, s_from, s_fromI, s_to, s_toI, x_oI, x_oB, x_oV, opt_int, o_addI, o_addR, o_in2, Int.toNat_natCast, Int.reduceToNat, Int.reduceEq, Int.reduceLT, Int.reduceLE, Int.reduceAdd, Int.reduceSub, Int.reduceMul, Int.reduceNeg, decide_true, decide_false, eq_self, Bool.true_or, Bool.or_true, Bool.or_false, Bool.false_or, Bool.not_true, Bool.not_false, sq_it, Int.cast_ofNat_Int, hs.j]) (by omega)
end
theorem ex_row {x : Option My.C} {w : Nat} (c : Nat → Int) (v : Int) (e : x = some (.val, .tup [.tup (rowI w c), .int v])) (h1 : ∀ j, j < w → sml (c j)) (h2 : sml v) : ∃ r, okR w r ∧ x = some (.val, encR true w r) := ⟨(c, v), ⟨h1, h2⟩, e⟩
end My
end

section
set_option Elab.async false
set_option linter.all false
set_option maxRecDepth 100000
set_option maxHeartbeats 2000000
namespace My
open PySem
theorem sml_ite {p : Prop} [Decidable p] {a b : Int} (ha : sml a) (hb : sml b) : sml (if p then a else b) := by split <;> assumption
section
variable {cf : CF} {gl : Nat → Option D} {fu : Nat} {w n : Nat} {f : Nat → Int} {N : Int} {h : Nat → Rw}
theorem row_ok (hn : Near cf) (hs : Signed cf) (hw : w ≤ 40) (hn3 : n ≤ 3000) (h0 : 0 < N) (h1 : N ≤ 120) (hf : ∀ i, i < 7 + w → 0 ≤ f i ∧ f i < 20001) (hh : ∀ i, i < n → okR w (h i)) :
    ∃ r, okR w r ∧ runF cf gl fu d7 [(.val, .lst (rowI (7 + w) f)), (.val, .int N), (.val, .int (w : Int)), (.bor, .lst (row n fun i => encR true w (h i)))] = some (.val, encR true w r) := by
  have f0 := hf 0 (by omega)
  have f1 := hf 1 (by omega)
  have f2 := hf 2 (by omega)
  have f3 := hf 3 (by omega)
  have f4 := hf 4 (by omega)
  have f5 := hf 5 (by omega)
  have f6 := hf 6 (by omega)
  have hg : ∀ j, j < w → 0 ≤ f (7 + j) ∧ f (7 + j) < 20001 := fun j hj => hf _ (by omega)
  have e7 : 7 + w - 7 = w := by omega
  have hz : ((w : Nat) : Int) ≥ 0 := by omega
  have last : (∀ k : Int, (k = 9 ∨ k = 10) → f 0 = k → n = 0) → (¬ f 0 = 8) → (¬ f 0 = 11) → (¬ (6 = f 0)) → (¬ (7 = f 0)) → (¬ (4 = f 0)) → (¬ (5 = f 0)) →
      ∃ r, okR w r ∧ runF cf gl fu d7 [(.val, .lst (rowI (7 + w) f)), (.val, .int N), (.val, .int (w : Int)), (.bor, .lst (row n fun i => encR true w (h i)))] = some (.val, encR true w r) := by
    intro ha n8 n11 n6 n7 n4 n5
    refine ex_row (fun j => signed (f (7 + j))) (signed (f 1)) ?_ (fun j hj => signed_sml (hg j hj).1 (hg j hj).2) (signed_sml f1.1 f1.2)
    by_cases q : 9 = f 0 ∨ 10 = f 0
    · have z : n = 0 := by
        rcases q with q | q
        · exact ha 9 (.inl rfl) q.symm
        · exact ha 10 (.inr rfl) q.symm
      subst z
      rcases q with q | q <;> (have q := q.symm; simp -implicitDefEqProofs (disch := omega) only [d7, b7, runF, List.length_cons, List.length_nil, List.map_cons, List.map_nil, List.cons_append, List.nil_append, List.append_nil, List.replicate_succ, List.replicate_zero, Nat.reduceAdd, Nat.reduceSub, Nat.zero_add, Nat.reduceLT, Nat.reduceLeDiff, List.getElem?_cons_zero, List.getElem?_cons_succ, List.set_cons_zero, List.set_cons_succ, rdV, D.isMut, if_true, if_false, ite_true, ite_false, reduceCtorEq, true_or, or_true, and_self, or_false, false_or, Bool.false_eq_true, x_var, x_int, x_str, x_bl, x_non, x_bin, x_and, x_or, x_andN, x_orN, x_andC, x_orC, x_not, x_neg, x_ite, x_lst, x_tup, x_nil, x_cons, x_call, x_bi, x_slc, x_isi, x_oN, x_sNil, x_sCons, x_set, x_sIte, x_ret, x_retN, x_brk, x_cnt, x_pass, x_doc, j_bin, j_un, j_seq, j_seqR, j_seqB, j_seqC, j_iteT, j_iteF, j_iteCT, j_iteCF, j_andT, j_andF, j_orT, j_orF, j_bl, j_cons, j_bi, j_asB, j_stV, j_stO, j_ret, retE, j_sl, o_add, o_sub, o_mulL, o_mulR, o_div, o_mod, o_pow, o_lt, o_le, o_gt, o_ge, o_eq, o_ne, o_isB, b_int, b_intB, b_lenL, b_lenT, b_max, b_min, b_tupL, b_tupT, b_lstL, b_lstT, b_abs, Option.bind_some, Option.map_some, Option.bind_none, Option.map_none, x_lock, x_frz, x_for, x_mth, x_unp, x_setIx, x_comp, x_it, x_rng, x_enm, x_zip, j_lockV, j_lockB, j_lockO, j_frzO, j_frzV, j_frzB, j_own, j_itL, j_itT, j_enmL, j_enmT, safeI, safeS, t_nm, t_tup, t_tupL, t_nil, t_cons, f_nil, f_one, v_val, v_own, argM, j_lst2, j_tup2, vls_nil, vls_val, vls_own, lstO_s, tupO_s, turn_nx, turn_cnt, fin_r, fin_n, rowI_len, row_len, o_iL, o_iT, o_rL, o_t0, o_t1, o_l0, o_l1, o_l2, r_n, s_from, s_fromI, s_to, s_toI, x_oI, x_oB, x_oV, opt_int, o_addI, o_addR, o_in2, Int.toNat_natCast, Int.reduceToNat, Int.reduceEq, Int.reduceLT, Int.reduceLE, Int.reduceAdd, Int.reduceSub, Int.reduceMul, Int.reduceNeg, decide_true, decide_false, eq_self, Bool.true_or, Bool.or_true, Bool.or_false, Bool.false_or, Bool.not_true, Bool.not_false, sq_it, Int.cast_ofNat_Int, hs.j, q, e7, c7_7 hs hw, Int.reduceToNat])
    · have q1 : ¬ 9 = f 0 := fun e => q (.inl e)
      have q2 : ¬ 10 = f 0 := fun e => q (.inr e)
      simp -implicitDefEqProofs (disch := omega) only [d7, b7, runF, List.length_cons, List.length_nil, List.map_cons, List.map_nil, List.cons_append, List.nil_append, List.append_nil, List.replicate_succ, List.replicate_zero, Nat.reduceAdd, Nat.reduceSub, Nat.zero_add, Nat.reduceLT, Nat.reduceLeDiff, List.getElem?_cons_zero, List.getElem?_cons_succ, List.set_cons_zero, List.set_cons_succ, rdV, D.isMut, if_true, if_false, ite_true, ite_false, reduceCtorEq, true_or, or_true, and_self, or_false, false_or, Bool.false_eq_true, x_var, x_int, x_str, x_bl, x_non, x_bin, x_and, x_or, x_andN, x_orN, x_andC, x_orC, x_not, x_neg, x_ite, x_lst, x_tup, x_nil, x_cons, x_call, x_bi, x_slc, x_isi, x_oN, x_sNil, x_sCons, x_set, x_sIte, x_ret, x_retN, x_brk, x_cnt, x_pass, x_doc, j_bin, j_un, j_seq, j_seqR, j_seqB, j_seqC, j_iteT, j_iteF, j_iteCT, j_iteCF, j_andT, j_andF, j_orT, j_orF, j_bl, j_cons, j_bi, j_asB, j_stV, j_stO, j_ret, retE, j_sl, o_add, o_sub, o_mulL, o_mulR, o_div, o_mod, o_pow, o_lt, o_le, o_gt, o_ge, o_eq, o_ne, o_isB, b_int, b_intB, b_lenL, b_lenT, b_max, b_min, b_tupL, b_tupT, b_lstL, b_lstT, b_abs, Option.bind_some, Option.map_some, Option.bind_none, Option.map_none, x_lock, x_frz, x_for, x_mth, x_unp, x_setIx, x_comp, x_it, x_rng, x_enm, x_zip, j_lockV, j_lockB, j_lockO, j_frzO, j_frzV, j_frzB, j_own, j_itL, j_itT, j_enmL, j_enmT, safeI, safeS, t_nm, t_tup, t_tupL, t_nil, t_cons, f_nil, f_one, v_val, v_own, argM, j_lst2, j_tup2, vls_nil, vls_val, vls_own, lstO_s, tupO_s, turn_nx, turn_cnt, fin_r, fin_n, rowI_len, row_len, o_iL, o_iT, o_rL, o_t0, o_t1, o_l0, o_l1, o_l2, r_n, s_from, s_fromI, s_to, s_toI, x_oI, x_oB, x_oV, opt_int, o_addI, o_addR, o_in2, Int.toNat_natCast, Int.reduceToNat, Int.reduceEq, Int.reduceLT, Int.reduceLE, Int.reduceAdd, Int.reduceSub, Int.reduceMul, Int.reduceNeg, decide_true, decide_false, eq_self, Bool.true_or, Bool.or_true, Bool.or_false, Bool.false_or, Bool.not_true, Bool.not_false, sq_it, Int.cast_ofNat_Int, hs.j, q1, q2, e7, c7_7 hs hw, n8, n11, n6, n7, n4, n5, Int.reduceToNat]
  by_cases q8 : f 0 = 8
  · refine ex_row (fun j => near 0 N (f (7 + j))) (near (if f 6 = 0 then 1 else 0) N (f 1)) ?_ (fun j hj => near_sml h0 (by omega)) (near_sml h0 (by omega))
    by_cases q6 : f 6 = 0
    · simp -implicitDefEqProofs (disch := omega) only [d7, b7, runF, List.length_cons, List.length_nil, List.map_cons, List.map_nil, List.cons_append, List.nil_append, List.append_nil, List.replicate_succ, List.replicate_zero, Nat.reduceAdd, Nat.reduceSub, Nat.zero_add, Nat.reduceLT, Nat.reduceLeDiff, List.getElem?_cons_zero, List.getElem?_cons_succ, List.set_cons_zero, List.set_cons_succ, rdV, D.isMut, if_true, if_false, ite_true, ite_false, reduceCtorEq, true_or, or_true, and_self, or_false, false_or, Bool.false_eq_true, x_var, x_int, x_str, x_bl, x_non, x_bin, x_and, x_or, x_andN, x_orN, x_andC, x_orC, x_not, x_neg, x_ite, x_lst, x_tup, x_nil, x_cons, x_call, x_bi, x_slc, x_isi, x_oN, x_sNil, x_sCons, x_set, x_sIte, x_ret, x_retN, x_brk, x_cnt, x_pass, x_doc, j_bin, j_un, j_seq, j_seqR, j_seqB, j_seqC, j_iteT, j_iteF, j_iteCT, j_iteCF, j_andT, j_andF, j_orT, j_orF, j_bl, j_cons, j_bi, j_asB, j_stV, j_stO, j_ret, retE, j_sl, o_add, o_sub, o_mulL, o_mulR, o_div, o_mod, o_pow, o_lt, o_le, o_gt, o_ge, o_eq, o_ne, o_isB, b_int, b_intB, b_lenL, b_lenT, b_max, b_min, b_tupL, b_tupT, b_lstL, b_lstT, b_abs, Option.bind_some, Option.map_some, Option.bind_none, Option.map_none, x_lock, x_frz, x_for, x_mth, x_unp, x_setIx, x_comp, x_it, x_rng, x_enm, x_zip, j_lockV, j_lockB, j_lockO, j_frzO, j_frzV, j_frzB, j_own, j_itL, j_itT, j_enmL, j_enmT, safeI, safeS, t_nm, t_tup, t_tupL, t_nil, t_cons, f_nil, f_one, v_val, v_own, argM, j_lst2, j_tup2, vls_nil, vls_val, vls_own, lstO_s, tupO_s, turn_nx, turn_cnt, fin_r, fin_n, rowI_len, row_len, o_iL, o_iT, o_rL, o_t0, o_t1, o_l0, o_l1, o_l2, r_n, s_from, s_fromI, s_to, s_toI, x_oI, x_oB, x_oV, opt_int, o_addI, o_addR, o_in2, Int.toNat_natCast, Int.reduceToNat, Int.reduceEq, Int.reduceLT, Int.reduceLE, Int.reduceAdd, Int.reduceSub, Int.reduceMul, Int.reduceNeg, decide_true, decide_false, eq_self, Bool.true_or, Bool.or_true, Bool.or_false, Bool.false_or, Bool.not_true, Bool.not_false, sq_it, Int.cast_ofNat_Int, hs.j, hn.j, q8, q6, e7, c7_2 hn hw h0 (show N ≤ 9000 by omega)]
    · simp -implicitDefEqProofs (disch := omega) only [d7, b7, runF, List.length_cons, List.length_nil, List.map_cons, List.map_nil, List.cons_append, List.nil_append, List.append_nil, List.replicate_succ, List.replicate_zero, Nat.reduceAdd, Nat.reduceSub, Nat.zero_add, Nat.reduceLT, Nat.reduceLeDiff, List.getElem?_cons_zero, List.getElem?_cons_succ, List.set_cons_zero, List.set_cons_succ, rdV, D.isMut, if_true, if_false, ite_true, ite_false, reduceCtorEq, true_or, or_true, and_self, or_false, false_or, Bool.false_eq_true, x_var, x_int, x_str, x_bl, x_non, x_bin, x_and, x_or, x_andN, x_orN, x_andC, x_orC, x_not, x_neg, x_ite, x_lst, x_tup, x_nil, x_cons, x_call, x_bi, x_slc, x_isi, x_oN, x_sNil, x_sCons, x_set, x_sIte, x_ret, x_retN, x_brk, x_cnt, x_pass, x_doc, j_bin, j_un, j_seq, j_seqR, j_seqB, j_seqC, j_iteT, j_iteF, j_iteCT, j_iteCF, j_andT, j_andF, j_orT, j_orF, j_bl, j_cons, j_bi, j_asB, j_stV, j_stO, j_ret, retE, j_sl, o_add, o_sub, o_mulL, o_mulR, o_div, o_mod, o_pow, o_lt, o_le, o_gt, o_ge, o_eq, o_ne, o_isB, b_int, b_intB, b_lenL, b_lenT, b_max, b_min, b_tupL, b_tupT, b_lstL, b_lstT, b_abs, Option.bind_some, Option.map_some, Option.bind_none, Option.map_none, x_lock, x_frz, x_for, x_mth, x_unp, x_setIx, x_comp, x_it, x_rng, x_enm, x_zip, j_lockV, j_lockB, j_lockO, j_frzO, j_frzV, j_frzB, j_own, j_itL, j_itT, j_enmL, j_enmT, safeI, safeS, t_nm, t_tup, t_tupL, t_nil, t_cons, f_nil, f_one, v_val, v_own, argM, j_lst2, j_tup2, vls_nil, vls_val, vls_own, lstO_s, tupO_s, turn_nx, turn_cnt, fin_r, fin_n, rowI_len, row_len, o_iL, o_iT, o_rL, o_t0, o_t1, o_l0, o_l1, o_l2, r_n, s_from, s_fromI, s_to, s_toI, x_oI, x_oB, x_oV, opt_int, o_addI, o_addR, o_in2, Int.toNat_natCast, Int.reduceToNat, Int.reduceEq, Int.reduceLT, Int.reduceLE, Int.reduceAdd, Int.reduceSub, Int.reduceMul, Int.reduceNeg, decide_true, decide_false, eq_self, Bool.true_or, Bool.or_true, Bool.or_false, Bool.false_or, Bool.not_true, Bool.not_false, sq_it, Int.cast_ofNat_Int, hs.j, hn.j, q8, q6, e7, c7_2 hn hw h0 (show N ≤ 9000 by omega)]
  by_cases q11 : f 0 = 11
  · refine ex_row (fun j => if (j : Int) = f 2 % (if (w : Int) > 1 then (w : Int) else 1) then signed (f (7 + j)) else 0) (signed (f 1)) ?_ (fun j hj => ?_) (signed_sml f1.1 f1.2)
    · have hm : 0 < (if (w : Int) > 1 then (w : Int) else 1) := by split <;> omega
      simp -implicitDefEqProofs (disch := first | omega | exact hm) only [d7, b7, runF, List.length_cons, List.length_nil, List.map_cons, List.map_nil, List.cons_append, List.nil_append, List.append_nil, List.replicate_succ, List.replicate_zero, Nat.reduceAdd, Nat.reduceSub, Nat.zero_add, Nat.reduceLT, Nat.reduceLeDiff, List.getElem?_cons_zero, List.getElem?_cons_succ, List.set_cons_zero, List.set_cons_succ, rdV, D.isMut, if_true, if_false, ite_true, ite_false, reduceCtorEq, true_or, or_true, and_self, or_false, false_or, Bool.false_eq_true, x_var, x_int, x_str, x_bl, x_non, x_bin, x_and, x_or, x_andN, x_orN, x_andC, x_orC, x_not, x_neg, x_ite, x_lst, x_tup, x_nil, x_cons, x_call, x_bi, x_slc, x_isi, x_oN, x_sNil, x_sCons, x_set, x_sIte, x_ret, x_retN, x_brk, x_cnt, x_pass, x_doc, j_bin, j_un, j_seq, j_seqR, j_seqB, j_seqC, j_iteT, j_iteF, j_iteCT, j_iteCF, j_andT, j_andF, j_orT, j_orF, j_bl, j_cons, j_bi, j_asB, j_stV, j_stO, j_ret, retE, j_sl, o_add, o_sub, o_mulL, o_mulR, o_div, o_mod, o_pow, o_lt, o_le, o_gt, o_ge, o_eq, o_ne, o_isB, b_int, b_intB, b_lenL, b_lenT, b_max, b_min, b_tupL, b_tupT, b_lstL, b_lstT, b_abs, Option.bind_some, Option.map_some, Option.bind_none, Option.map_none, x_lock, x_frz, x_for, x_mth, x_unp, x_setIx, x_comp, x_it, x_rng, x_enm, x_zip, j_lockV, j_lockB, j_lockO, j_frzO, j_frzV, j_frzB, j_own, j_itL, j_itT, j_enmL, j_enmT, safeI, safeS, t_nm, t_tup, t_tupL, t_nil, t_cons, f_nil, f_one, v_val, v_own, argM, j_lst2, j_tup2, vls_nil, vls_val, vls_own, lstO_s, tupO_s, turn_nx, turn_cnt, fin_r, fin_n, rowI_len, row_len, o_iL, o_iT, o_rL, o_t0, o_t1, o_l0, o_l1, o_l2, r_n, s_from, s_fromI, s_to, s_toI, x_oI, x_oB, x_oV, opt_int, o_addI, o_addR, o_in2, Int.toNat_natCast, Int.reduceToNat, Int.reduceEq, Int.reduceLT, Int.reduceLE, Int.reduceAdd, Int.reduceSub, Int.reduceMul, Int.reduceNeg, decide_true, decide_false, eq_self, Bool.true_or, Bool.or_true, Bool.or_false, Bool.false_or, Bool.not_true, Bool.not_false, sq_it, Int.cast_ofNat_Int, hs.j, hn.j, q11, e7, c7_3 hs hw]
    · exact sml_ite (signed_sml (hg j hj).1 (hg j hj).2) ⟨by omega, by omega⟩
  have six : (f 0 = 6 ∨ f 0 = 7) → ∃ r, okR w r ∧ runF cf gl fu d7 [(.val, .lst (rowI (7 + w) f)), (.val, .int N), (.val, .int (w : Int)), (.bor, .lst (row n fun i => encR true w (h i)))] = some (.val, encR true w r) := by
    intro q
    have dp := divs_pos (lo := 1) (N := N) (by omega) (by omega)
    obtain ⟨d, g1, g2, g3⟩ := divs_ix (lo := 1) (N := N) (i := f 2 % ((divs 1 N).length : Int)) ⟨Int.emod_nonneg _ (by omega), Int.emod_lt_of_pos _ (by omega)⟩
    refine ex_row (fun j => near (d * f (7 + j)) N (f (7 + j) / 127)) (near (d * f 4 + (if f 6 = 0 then 1 else 0)) N (f 1)) ?_ (fun j hj => near_sml h0 (by omega)) (near_sml h0 (by omega))
    by_cases q6 : f 6 = 0
    · rcases q with q | q <;> simp -implicitDefEqProofs (disch := omega) only [d7, b7, runF, List.length_cons, List.length_nil, List.map_cons, List.map_nil, List.cons_append, List.nil_append, List.append_nil, List.replicate_succ, List.replicate_zero, Nat.reduceAdd, Nat.reduceSub, Nat.zero_add, Nat.reduceLT, Nat.reduceLeDiff, List.getElem?_cons_zero, List.getElem?_cons_succ, List.set_cons_zero, List.set_cons_succ, rdV, D.isMut, if_true, if_false, ite_true, ite_false, reduceCtorEq, true_or, or_true, and_self, or_false, false_or, Bool.false_eq_true, x_var, x_int, x_str, x_bl, x_non, x_bin, x_and, x_or, x_andN, x_orN, x_andC, x_orC, x_not, x_neg, x_ite, x_lst, x_tup, x_nil, x_cons, x_call, x_bi, x_slc, x_isi, x_oN, x_sNil, x_sCons, x_set, x_sIte, x_ret, x_retN, x_brk, x_cnt, x_pass, x_doc, j_bin, j_un, j_seq, j_seqR, j_seqB, j_seqC, j_iteT, j_iteF, j_iteCT, j_iteCF, j_andT, j_andF, j_orT, j_orF, j_bl, j_cons, j_bi, j_asB, j_stV, j_stO, j_ret, retE, j_sl, o_add, o_sub, o_mulL, o_mulR, o_div, o_mod, o_pow, o_lt, o_le, o_gt, o_ge, o_eq, o_ne, o_isB, b_int, b_intB, b_lenL, b_lenT, b_max, b_min, b_tupL, b_tupT, b_lstL, b_lstT, b_abs, Option.bind_some, Option.map_some, Option.bind_none, Option.map_none, x_lock, x_frz, x_for, x_mth, x_unp, x_setIx, x_comp, x_it, x_rng, x_enm, x_zip, j_lockV, j_lockB, j_lockO, j_frzO, j_frzV, j_frzB, j_own, j_itL, j_itT, j_enmL, j_enmT, safeI, safeS, t_nm, t_tup, t_tupL, t_nil, t_cons, f_nil, f_one, v_val, v_own, argM, j_lst2, j_tup2, vls_nil, vls_val, vls_own, lstO_s, tupO_s, turn_nx, turn_cnt, fin_r, fin_n, rowI_len, row_len, o_iL, o_iT, o_rL, o_t0, o_t1, o_l0, o_l1, o_l2, r_n, s_from, s_fromI, s_to, s_toI, x_oI, x_oB, x_oV, opt_int, o_addI, o_addR, o_in2, Int.toNat_natCast, Int.reduceToNat, Int.reduceEq, Int.reduceLT, Int.reduceLE, Int.reduceAdd, Int.reduceSub, Int.reduceMul, Int.reduceNeg, decide_true, decide_false, eq_self, Bool.true_or, Bool.or_true, Bool.or_false, Bool.false_or, Bool.not_true, Bool.not_false, sq_it, Int.cast_ofNat_Int, hs.j, hn.j, q, q6, e7, c7_4 h0 (show N ≤ 9000 by omega), r_2, g3, c7_5 hn hw h0 (show N ≤ 9000 by omega) (show 0 ≤ d ∧ d ≤ 9000 by omega)]
    · rcases q with q | q <;> simp -implicitDefEqProofs (disch := omega) only [d7, b7, runF, List.length_cons, List.length_nil, List.map_cons, List.map_nil, List.cons_append, List.nil_append, List.append_nil, List.replicate_succ, List.replicate_zero, Nat.reduceAdd, Nat.reduceSub, Nat.zero_add, Nat.reduceLT, Nat.reduceLeDiff, List.getElem?_cons_zero, List.getElem?_cons_succ, List.set_cons_zero, List.set_cons_succ, rdV, D.isMut, if_true, if_false, ite_true, ite_false, reduceCtorEq, true_or, or_true, and_self, or_false, false_or, Bool.false_eq_true, x_var, x_int, x_str, x_bl, x_non, x_bin, x_and, x_or, x_andN, x_orN, x_andC, x_orC, x_not, x_neg, x_ite, x_lst, x_tup, x_nil, x_cons, x_call, x_bi, x_slc, x_isi, x_oN, x_sNil, x_sCons, x_set, x_sIte, x_ret, x_retN, x_brk, x_cnt, x_pass, x_doc, j_bin, j_un, j_seq, j_seqR, j_seqB, j_seqC, j_iteT, j_iteF, j_iteCT, j_iteCF, j_andT, j_andF, j_orT, j_orF, j_bl, j_cons, j_bi, j_asB, j_stV, j_stO, j_ret, retE, j_sl, o_add, o_sub, o_mulL, o_mulR, o_div, o_mod, o_pow, o_lt, o_le, o_gt, o_ge, o_eq, o_ne, o_isB, b_int, b_intB, b_lenL, b_lenT, b_max, b_min, b_tupL, b_tupT, b_lstL, b_lstT, b_abs, Option.bind_some, Option.map_some, Option.bind_none, Option.map_none, x_lock, x_frz, x_for, x_mth, x_unp, x_setIx, x_comp, x_it, x_rng, x_enm, x_zip, j_lockV, j_lockB, j_lockO, j_frzO, j_frzV, j_frzB, j_own, j_itL, j_itT, j_enmL, j_enmT, safeI, safeS, t_nm, t_tup, t_tupL, t_nil, t_cons, f_nil, f_one, v_val, v_own, argM, j_lst2, j_tup2, vls_nil, vls_val, vls_own, lstO_s, tupO_s, turn_nx, turn_cnt, fin_r, fin_n, rowI_len, row_len, o_iL, o_iT, o_rL, o_t0, o_t1, o_l0, o_l1, o_l2, r_n, s_from, s_fromI, s_to, s_toI, x_oI, x_oB, x_oV, opt_int, o_addI, o_addR, o_in2, Int.toNat_natCast, Int.reduceToNat, Int.reduceEq, Int.reduceLT, Int.reduceLE, Int.reduceAdd, Int.reduceSub, Int.reduceMul, Int.reduceNeg, decide_true, decide_false, eq_self, Bool.true_or, Bool.or_true, Bool.or_false, Bool.false_or, Bool.not_true, Bool.not_false, sq_it, Int.cast_ofNat_Int, hs.j, hn.j, q, q6, e7, c7_4 h0 (show N ≤ 9000 by omega), r_2, g3, c7_5 hn hw h0 (show N ≤ 9000 by omega) (show 0 ≤ d ∧ d ≤ 9000 by omega)]
  by_cases q6 : f 0 = 6
  · exact six (.inl q6)
  by_cases q7 : f 0 = 7
  · exact six (.inr q7)
  have four : (f 0 = 4 ∨ f 0 = 5) → ∃ r, okR w r ∧ runF cf gl fu d7 [(.val, .lst (rowI (7 + w) f)), (.val, .int N), (.val, .int (w : Int)), (.bor, .lst (row n fun i => encR true w (h i)))] = some (.val, encR true w r) := by
    intro q
    refine ex_row (fun j => f (7 + j) % 5 - 2) (signed (f 1) % 7 - 3) ?_ (fun j hj => ⟨by omega, by omega⟩) ⟨by omega, by omega⟩
    rcases q with q | q <;> simp -implicitDefEqProofs (disch := omega) only [d7, b7, runF, List.length_cons, List.length_nil, List.map_cons, List.map_nil, List.cons_append, List.nil_append, List.append_nil, List.replicate_succ, List.replicate_zero, Nat.reduceAdd, Nat.reduceSub, Nat.zero_add, Nat.reduceLT, Nat.reduceLeDiff, List.getElem?_cons_zero, List.getElem?_cons_succ, List.set_cons_zero, List.set_cons_succ, rdV, D.isMut, if_true, if_false, ite_true, ite_false, reduceCtorEq, true_or, or_true, and_self, or_false, false_or, Bool.false_eq_true, x_var, x_int, x_str, x_bl, x_non, x_bin, x_and, x_or, x_andN, x_orN, x_andC, x_orC, x_not, x_neg, x_ite, x_lst, x_tup, x_nil, x_cons, x_call, x_bi, x_slc, x_isi, x_oN, x_sNil, x_sCons, x_set, x_sIte, x_ret, x_retN, x_brk, x_cnt, x_pass, x_doc, j_bin, j_un, j_seq, j_seqR, j_seqB, j_seqC, j_iteT, j_iteF, j_iteCT, j_iteCF, j_andT, j_andF, j_orT, j_orF, j_bl, j_cons, j_bi, j_asB, j_stV, j_stO, j_ret, retE, j_sl, o_add, o_sub, o_mulL, o_mulR, o_div, o_mod, o_pow, o_lt, o_le, o_gt, o_ge, o_eq, o_ne, o_isB, b_int, b_intB, b_lenL, b_lenT, b_max, b_min, b_tupL, b_tupT, b_lstL, b_lstT, b_abs, Option.bind_some, Option.map_some, Option.bind_none, Option.map_none, x_lock, x_frz, x_for, x_mth, x_unp, x_setIx, x_comp, x_it, x_rng, x_enm, x_zip, j_lockV, j_lockB, j_lockO, j_frzO, j_frzV, j_frzB, j_own, j_itL, j_itT, j_enmL, j_enmT, safeI, safeS, t_nm, t_tup, t_tupL, t_nil, t_cons, f_nil, f_one, v_val, v_own, argM, j_lst2, j_tup2, vls_nil, vls_val, vls_own, lstO_s, tupO_s, turn_nx, turn_cnt, fin_r, fin_n, rowI_len, row_len, o_iL, o_iT, o_rL, o_t0, o_t1, o_l0, o_l1, o_l2, r_n, s_from, s_fromI, s_to, s_toI, x_oI, x_oB, x_oV, opt_int, o_addI, o_addR, o_in2, Int.toNat_natCast, Int.reduceToNat, Int.reduceEq, Int.reduceLT, Int.reduceLE, Int.reduceAdd, Int.reduceSub, Int.reduceMul, Int.reduceNeg, decide_true, decide_false, eq_self, Bool.true_or, Bool.or_true, Bool.or_false, Bool.false_or, Bool.not_true, Bool.not_false, sq_it, Int.cast_ofNat_Int, hs.j, hn.j, q, e7, c7_6 hw]
  by_cases q4 : f 0 = 4
  · exact four (.inl q4)
  by_cases q5 : f 0 = 5
  · exact four (.inr q5)
  by_cases hnz : n = 0
  · exact last (fun k _ _ => hnz) q8 q11 (fun e => q6 e.symm) (fun e => q7 e.symm) (fun e => q4 e.symm) (fun e => q5 e.symm)
  have hn0 : (0 : Int) < (n : Int) := by omega
  have k2 := And.intro (Int.emod_nonneg (f 2) (show (n : Int) ≠ 0 by omega)) (Int.emod_lt_of_pos (f 2) hn0)
  have k3 := And.intro (Int.emod_nonneg (f 3) (show (n : Int) ≠ 0 by omega)) (Int.emod_lt_of_pos (f 3) hn0)
  have o2 := hh (f 2 % (n : Int)).toNat (by omega)
  have o3 := hh (f 3 % (n : Int)).toNat (by omega)
  obtain ⟨o2a, o2b, o2c⟩ := o2
  obtain ⟨o3a, o3b, o3c⟩ := o3
  by_cases q9 : f 0 = 9
  · by_cases q6 : (1 : Int) < f 6
    · refine ex_row (h (f 2 % (n : Int)).toNat).1 (h (f 2 % (n : Int)).toNat).2 ?_ o2a ⟨o2b, o2c⟩
      simp -implicitDefEqProofs (disch := first | omega | exact k2 | exact k3) only [d7, b7, runF, List.length_cons, List.length_nil, List.map_cons, List.map_nil, List.cons_append, List.nil_append, List.append_nil, List.replicate_succ, List.replicate_zero, Nat.reduceAdd, Nat.reduceSub, Nat.zero_add, Nat.reduceLT, Nat.reduceLeDiff, List.getElem?_cons_zero, List.getElem?_cons_succ, List.set_cons_zero, List.set_cons_succ, rdV, D.isMut, if_true, if_false, ite_true, ite_false, reduceCtorEq, true_or, or_true, and_self, or_false, false_or, Bool.false_eq_true, x_var, x_int, x_str, x_bl, x_non, x_bin, x_and, x_or, x_andN, x_orN, x_andC, x_orC, x_not, x_neg, x_ite, x_lst, x_tup, x_nil, x_cons, x_call, x_bi, x_slc, x_isi, x_oN, x_sNil, x_sCons, x_set, x_sIte, x_ret, x_retN, x_brk, x_cnt, x_pass, x_doc, j_bin, j_un, j_seq, j_seqR, j_seqB, j_seqC, j_iteT, j_iteF, j_iteCT, j_iteCF, j_andT, j_andF, j_orT, j_orF, j_bl, j_cons, j_bi, j_asB, j_stV, j_stO, j_ret, retE, j_sl, o_add, o_sub, o_mulL, o_mulR, o_div, o_mod, o_pow, o_lt, o_le, o_gt, o_ge, o_eq, o_ne, o_isB, b_int, b_intB, b_lenL, b_lenT, b_max, b_min, b_tupL, b_tupT, b_lstL, b_lstT, b_abs, Option.bind_some, Option.map_some, Option.bind_none, Option.map_none, x_lock, x_frz, x_for, x_mth, x_unp, x_setIx, x_comp, x_it, x_rng, x_enm, x_zip, j_lockV, j_lockB, j_lockO, j_frzO, j_frzV, j_frzB, j_own, j_itL, j_itT, j_enmL, j_enmT, safeI, safeS, t_nm, t_tup, t_tupL, t_nil, t_cons, f_nil, f_one, v_val, v_own, argM, j_lst2, j_tup2, vls_nil, vls_val, vls_own, lstO_s, tupO_s, turn_nx, turn_cnt, fin_r, fin_n, rowI_len, row_len, o_iL, o_iT, o_rL, o_t0, o_t1, o_l0, o_l1, o_l2, r_n, s_from, s_fromI, s_to, s_toI, x_oI, x_oB, x_oV, opt_int, o_addI, o_addR, o_in2, Int.toNat_natCast, Int.reduceToNat, Int.reduceEq, Int.reduceLT, Int.reduceLE, Int.reduceAdd, Int.reduceSub, Int.reduceMul, Int.reduceNeg, decide_true, decide_false, eq_self, Bool.true_or, Bool.or_true, Bool.or_false, Bool.false_or, Bool.not_true, Bool.not_false, sq_it, Int.cast_ofNat_Int, hs.j, hn.j, q9, q6, e7, hn0, encT]
    · refine ex_row (h (f 2 % (n : Int)).toNat).1 (signed (f 1)) ?_ o2a (signed_sml f1.1 f1.2)
      simp -implicitDefEqProofs (disch := first | omega | exact k2 | exact k3) only [d7, b7, runF, List.length_cons, List.length_nil, List.map_cons, List.map_nil, List.cons_append, List.nil_append, List.append_nil, List.replicate_succ, List.replicate_zero, Nat.reduceAdd, Nat.reduceSub, Nat.zero_add, Nat.reduceLT, Nat.reduceLeDiff, List.getElem?_cons_zero, List.getElem?_cons_succ, List.set_cons_zero, List.set_cons_succ, rdV, D.isMut, if_true, if_false, ite_true, ite_false, reduceCtorEq, true_or, or_true, and_self, or_false, false_or, Bool.false_eq_true, x_var, x_int, x_str, x_bl, x_non, x_bin, x_and, x_or, x_andN, x_orN, x_andC, x_orC, x_not, x_neg, x_ite, x_lst, x_tup, x_nil, x_cons, x_call, x_bi, x_slc, x_isi, x_oN, x_sNil, x_sCons, x_set, x_sIte, x_ret, x_retN, x_brk, x_cnt, x_pass, x_doc, j_bin, j_un, j_seq, j_seqR, j_seqB, j_seqC, j_iteT, j_iteF, j_iteCT, j_iteCF, j_andT, j_andF, j_orT, j_orF, j_bl, j_cons, j_bi, j_asB, j_stV, j_stO, j_ret, retE, j_sl, o_add, o_sub, o_mulL, o_mulR, o_div, o_mod, o_pow, o_lt, o_le, o_gt, o_ge, o_eq, o_ne, o_isB, b_int, b_intB, b_lenL, b_lenT, b_max, b_min, b_tupL, b_tupT, b_lstL, b_lstT, b_abs, Option.bind_some, Option.map_some, Option.bind_none, Option.map_none, x_lock, x_frz, x_for, x_mth, x_unp, x_setIx, x_comp, x_it, x_rng, x_enm, x_zip, j_lockV, j_lockB, j_lockO, j_frzO, j_frzV, j_frzB, j_own, j_itL, j_itT, j_enmL, j_enmT, safeI, safeS, t_nm, t_tup, t_tupL, t_nil, t_cons, f_nil, f_one, v_val, v_own, argM, j_lst2, j_tup2, vls_nil, vls_val, vls_own, lstO_s, tupO_s, turn_nx, turn_cnt, fin_r, fin_n, rowI_len, row_len, o_iL, o_iT, o_rL, o_t0, o_t1, o_l0, o_l1, o_l2, r_n, s_from, s_fromI, s_to, s_toI, x_oI, x_oB, x_oV, opt_int, o_addI, o_addR, o_in2, Int.toNat_natCast, Int.reduceToNat, Int.reduceEq, Int.reduceLT, Int.reduceLE, Int.reduceAdd, Int.reduceSub, Int.reduceMul, Int.reduceNeg, decide_true, decide_false, eq_self, Bool.true_or, Bool.or_true, Bool.or_false, Bool.false_or, Bool.not_true, Bool.not_false, sq_it, Int.cast_ofNat_Int, hs.j, hn.j, q9, q6, e7, hn0, encT]
  by_cases q10 : f 0 = 10
  · refine ex_row (fun j => near ((f 4 - 9) * (h (f 2 % (n : Int)).toNat).1 j + (f 5 - 9) * (h (f 3 % (n : Int)).toNat).1 j) N (f (7 + j))) (near ((f 4 - 9) * (h (f 2 % (n : Int)).toNat).2 + (f 5 - 9) * (h (f 3 % (n : Int)).toNat).2 + (if f 6 = 0 then 1 else 0)) N (f 1)) ?_ (fun j hj => near_sml h0 (by omega)) (near_sml h0 (by omega))
    by_cases q6 : f 6 = 0
    · simp -implicitDefEqProofs (disch := first | omega | exact k2 | exact k3) only [d7, b7, runF, List.length_cons, List.length_nil, List.map_cons, List.map_nil, List.cons_append, List.nil_append, List.append_nil, List.replicate_succ, List.replicate_zero, Nat.reduceAdd, Nat.reduceSub, Nat.zero_add, Nat.reduceLT, Nat.reduceLeDiff, List.getElem?_cons_zero, List.getElem?_cons_succ, List.set_cons_zero, List.set_cons_succ, rdV, D.isMut, if_true, if_false, ite_true, ite_false, reduceCtorEq, true_or, or_true, and_self, or_false, false_or, Bool.false_eq_true, x_var, x_int, x_str, x_bl, x_non, x_bin, x_and, x_or, x_andN, x_orN, x_andC, x_orC, x_not, x_neg, x_ite, x_lst, x_tup, x_nil, x_cons, x_call, x_bi, x_slc, x_isi, x_oN, x_sNil, x_sCons, x_set, x_sIte, x_ret, x_retN, x_brk, x_cnt, x_pass, x_doc, j_bin, j_un, j_seq, j_seqR, j_seqB, j_seqC, j_iteT, j_iteF, j_iteCT, j_iteCF, j_andT, j_andF, j_orT, j_orF, j_bl, j_cons, j_bi, j_asB, j_stV, j_stO, j_ret, retE, j_sl, o_add, o_sub, o_mulL, o_mulR, o_div, o_mod, o_pow, o_lt, o_le, o_gt, o_ge, o_eq, o_ne, o_isB, b_int, b_intB, b_lenL, b_lenT, b_max, b_min, b_tupL, b_tupT, b_lstL, b_lstT, b_abs, Option.bind_some, Option.map_some, Option.bind_none, Option.map_none, x_lock, x_frz, x_for, x_mth, x_unp, x_setIx, x_comp, x_it, x_rng, x_enm, x_zip, j_lockV, j_lockB, j_lockO, j_frzO, j_frzV, j_frzB, j_own, j_itL, j_itT, j_enmL, j_enmT, safeI, safeS, t_nm, t_tup, t_tupL, t_nil, t_cons, f_nil, f_one, v_val, v_own, argM, j_lst2, j_tup2, vls_nil, vls_val, vls_own, lstO_s, tupO_s, turn_nx, turn_cnt, fin_r, fin_n, rowI_len, row_len, o_iL, o_iT, o_rL, o_t0, o_t1, o_l0, o_l1, o_l2, r_n, s_from, s_fromI, s_to, s_toI, x_oI, x_oB, x_oV, opt_int, o_addI, o_addR, o_in2, Int.toNat_natCast, Int.reduceToNat, Int.reduceEq, Int.reduceLT, Int.reduceLE, Int.reduceAdd, Int.reduceSub, Int.reduceMul, Int.reduceNeg, decide_true, decide_false, eq_self, Bool.true_or, Bool.or_true, Bool.or_false, Bool.false_or, Bool.not_true, Bool.not_false, sq_it, Int.cast_ofNat_Int, hs.j, hn.j, q10, q6, e7, hn0, encT, c7_1 hn hw h0 (show N ≤ 9000 by omega) o2a o3a]
    · simp -implicitDefEqProofs (disch := first | omega | exact k2 | exact k3) only [d7, b7, runF, List.length_cons, List.length_nil, List.map_cons, List.map_nil, List.cons_append, List.nil_append, List.append_nil, List.replicate_succ, List.replicate_zero, Nat.reduceAdd, Nat.reduceSub, Nat.zero_add, Nat.reduceLT, Nat.reduceLeDiff, List.getElem?_cons_zero, List.getElem?_cons_succ, List.set_cons_zero, List.set_cons_succ, rdV, D.isMut, if_true, if_false, ite_true, ite_false, reduceCtorEq, true_or, or_true, and_self, or_false, false_or, Bool.false_eq_true, x_var, x_int, x_str, x_bl, x_non, x_bin, x_and, x_or, x_andN, x_orN, x_andC, x_orC, x_not, x_neg, x_ite, x_lst, x_tup, x_nil, x_cons, x_call, x_bi, x_slc, x_isi, x_oN, x_sNil, x_sCons, x_set, x_sIte, x_ret, x_retN, x_brk, x_cnt, x_pass, x_doc, j_bin, j_un, j_seq, j_seqR, j_seqB, j_seqC, j_iteT, j_iteF, j_iteCT, j_iteCF, j_andT, j_andF, j_orT, j_orF, j_bl, j_cons, j_bi, j_asB, j_stV, j_stO, j_ret, retE, j_sl, o_add, o_sub, o_mulL, o_mulR, o_div, o_mod, o_pow, o_lt, o_le, o_gt, o_ge, o_eq, o_ne, o_isB, b_int, b_intB, b_lenL, b_lenT, b_max, b_min, b_tupL, b_tupT, b_lstL, b_lstT, b_abs, Option.bind_some, Option.map_some, Option.bind_none, Option.map_none, x_lock, x_frz, x_for, x_mth, x_unp, x_setIx, x_comp, x_it, x_rng, x_enm, x_zip, j_lockV, j_lockB, j_lockO, j_frzO, j_frzV, j_frzB, j_own, j_itL, j_itT, j_enmL, j_enmT, safeI, safeS, t_nm, t_tup, t_tupL, t_nil, t_cons, f_nil, f_one, v_val, v_own, argM, j_lst2, j_tup2, vls_nil, vls_val, vls_own, lstO_s, tupO_s, turn_nx, turn_cnt, fin_r, fin_n, rowI_len, row_len, o_iL, o_iT, o_rL, o_t0, o_t1, o_l0, o_l1, o_l2, r_n, s_from, s_fromI, s_to, s_toI, x_oI, x_oB, x_oV, opt_int, o_addI, o_addR, o_in2, Int.toNat_natCast, Int.reduceToNat, Int.reduceEq, Int.reduceLT, Int.reduceLE, Int.reduceAdd, Int.reduceSub, Int.reduceMul, Int.reduceNeg, decide_true, decide_false, eq_self, Bool.true_or, Bool.or_true, Bool.or_false, Bool.false_or, Bool.not_true, Bool.not_false, sq_it, Int.cast_ofNat_Int, hs.j, hn.j, q10, q6, e7, hn0, encT, c7_1 hn hw h0 (show N ≤ 9000 by omega) o2a o3a]
  exact last (fun k hk e => by rcases hk with rfl | rfl <;> contradiction) q8 q11 (fun e => q6 e.symm) (fun e => q7 e.symm) (fun e => q4 e.symm) (fun e => q5 e.symm)
end
end My
end

section
set_option Elab.async false
set_option linter.all false
set_option maxRecDepth 100000
set_option maxHeartbeats 2000000
namespace My
open PySem
def upd {α : Type} (h : Nat → α) (k : Nat) (a : α) : Nat → α := fun i => if i = k then a else h i
theorem upd_eq {α : Type} {h : Nat → α} {k : Nat} {a : α} : upd h k a k = a := if_pos rfl
theorem upd_ne {α : Type} {h : Nat → α} {k i : Nat} {a : α} (q : i ≠ k) : upd h k a i = h i := if_neg q
theorem upd_all {α : Type} {P : α → Prop} {h : Nat → α} {n : Nat} {a : α} (h1 : ∀ i, i < n → P (h i)) (h2 : P a) : ∀ i, i < n + 1 → P (upd h n a i) := fun i hi => by
  by_cases q : i = n
  · subst q; rw [upd_eq]; exact h2
  · rw [upd_ne q]; exact h1 i (by omega)
theorem upd_any {α : Type} {P : α → Prop} {h : Nat → α} {n k : Nat} {a : α} (h1 : ∀ i, i < n → P (h i)) (h2 : P a) : ∀ i, i < n → P (upd h k a i) := fun i hi => by
  by_cases q : i = k
  · subst q; rw [upd_eq]; exact h2
  · rw [upd_ne q]; exact h1 i hi
theorem row_snoc {n : Nat} {f g : Nat → D} {d : D} (h1 : ∀ i, i < n → g i = f i) (h2 : g n = d) : row n f ++ [d] = row (n + 1) g := by
  apply row_ext (by rw [List.length_append, row_len]; rfl)
  intro i hi
  by_cases q : i < n
  · rw [List.getElem?_append_left (by rw [row_len]; exact q), row_at q, h1 i q]
  · have e : i = n := by omega
    subst e
    rw [List.getElem?_append_right (by rw [row_len]; exact Nat.le_refl _), row_len, Nat.sub_self, h2]
    rfl
section
variable {s n w : Nat} {env : Sl} {c : Nat → Int} {v : Int} {h : Nat → Rw}
theorem snoc_enc {t : Bool} : (row n fun k => encR t w (h k)) ++ [sq t [sq t (rowI w c), .int v]] = row (n + 1) fun k => encR t w (upd h n (c, v) k) :=
  row_snoc (fun i hi => by rw [upd_ne (by omega)]) (by rw [upd_eq]; rfl)
theorem j_appE (hn : n < 16777216) : mthO s .append (some (row n fun k => encR true w (h k))) (some [(.val, .tup [.tup (rowI w c), .int v])]) env = some (.nx (env.set s (some (.own, .lst (row (n + 1) fun k => encR true w (upd h n (c, v) k)))))) := by
  rw [j_app v_val (by rw [row_len]; exact hn)]
  exact congrArg (fun l => some (Out.nx (env.set s (some (.own, .lst l))))) (snoc_enc (t := true))
theorem j_appF (hn : n < 16777216) : mthO s .append (some (row n fun k => encR false w (h k))) (some [(.own, .lst [.lst (rowI w c), .int v])]) env = some (.nx (env.set s (some (.own, .lst (row (n + 1) fun k => encR false w (upd h n (c, v) k)))))) := by
  rw [j_app v_own (by rw [row_len]; exact hn)]
  exact congrArg (fun l => some (Out.nx (env.set s (some (.own, .lst l))))) (snoc_enc (t := false))
end
def Row7 (cf : CF) : Prop := ∀ (w n : Nat) (f : Nat → Int) (N : Int) (h : Nat → Rw), w ≤ 40 → n ≤ 3000 → 0 < N → N ≤ 120 → (∀ i, i < 7 + w → 0 ≤ f i ∧ f i < 20001) → (∀ i, i < n → okR w (h i)) →
    ∃ r, okR w r ∧ cf 7 [(.val, .lst (rowI (7 + w) f)), (.val, .int N), (.val, .int (w : Int)), (.bor, .lst (row n fun i => encR true w (h i)))] = some (.val, encR true w r)
section
variable {cf : CF} {gl : Nat → Option D} {fu : Nat} {w n : Nat} {f g cs cl x y : Nat → Int} {N v : Int} {h : Nat → Rw} {pv : D} {s0 s1 s2 s3 s4 s5 s6 s7 s8 : Option My.C}
def sz7 : List Int := [12, 20001, 160, 160, 24, 24, 6]
theorem sz7_b : ∀ i, i < 7 → 0 < sz7.getD i 0 ∧ sz7.getD i 0 ≤ 20001 := by decide
theorem l7 : ([.int 12, .int 20001, .int 160, .int 160, .int 24, .int 24, .int 6] : List D) = rowI 7 fun i => sz7.getD i 0 := rfl
theorem c8_1 (hw : w ≤ 40) : compO (some (rowI w fun j => (j : Int))) (cmpF cf gl [8] (.nm 8) .nil e8_1 [s0, s1, s2, s3, s4, s5, s6, s7, s8]) = some (.own, .lst (rowI w fun _ => 20001)) :=
  compI (fun j hj => by simp -implicitDefEqProofs (disch := omega) only [cmpF, wipeE, e8_1, runF, List.length_cons, List.length_nil, List.map_cons, List.map_nil, List.cons_append, List.nil_append, List.append_nil, List.replicate_succ, List.replicate_zero, Nat.reduceAdd, Nat.reduceSub, Nat.zero_add, Nat.reduceLT, Nat.reduceLeDiff, List.getElem?_cons_zero, List.getElem?_cons_succ, List.set_cons_zero, List.set_cons_succ, rdV, D.isMut, if_true, if_false, ite_true, ite_false, reduceCtorEq, true_or, or_true, and_self, or_false, false_or, Bool.false_eq_true, x_var, x_int, x_str, x_bl, x_non, x_bin, x_and, x_or, x_andN, x_orN, x_andC, x_orC, x_not, x_neg, x_ite, x_lst, x_tup, x_nil, x_cons, x_call, x_bi, x_slc, x_isi, x_oN, x_sNil, x_sCons, x_set, x_sIte, x_ret, x_retN, x_brk, x_cnt, x_pass, x_doc, j_bin, j_un, j_seq, j_seqR, j_seqB, j_seqC, j_iteT, j_iteF, j_iteCT, j_iteCF, j_andT, j_andF, j_orT, j_orF, j_bl, j_cons, j_bi, j_asB, j_stV, j_stO, j_ret, retE, j_sl, o_add, o_sub, o_mulL, o_mulR, o_div, o_mod, o_pow, o_lt, o_le, o_gt, o_ge, o_eq, o_ne, o_isB, b_int, b_intB, b_lenL, b_lenT, b_max, b_min, b_tupL, b_tupT, b_lstL, b_lstT, b_abs, Option.bind_some, Option.map_some, Option.bind_none, Option.map_none, x_lock, x_frz, x_for, x_mth, x_unp, x_setIx, x_comp, x_it, x_rng, x_enm, x_zip, j_lockV, j_lockB, j_lockO, j_frzO, j_frzV, j_frzB, j_own, j_itL, j_itT, j_enmL, j_enmT, safeI, safeS, t_nm, t_tup, t_tupL, t_nil, t_cons, f_nil, f_one, v_val, v_own, argM, j_lst2, j_tup2, vls_nil, vls_val, vls_own, lstO_s, tupO_s, turn_nx, turn_cnt, fin_r, fin_n, rowI_len, row_len, o_iL, o_iT, o_rL, o_t0, o_t1, o_l0, o_l1, o_l2, r_n, s_from, s_fromI, s_to, s_toI, x_oI, x_oB, x_oV, opt_int, o_addI, o_addR, o_in2, Int.toNat_natCast, Int.reduceToNat, Int.reduceEq, Int.reduceLT, Int.reduceLE, Int.reduceAdd, Int.reduceSub, Int.reduceMul, Int.reduceNeg, decide_true, decide_false, eq_self, Bool.true_or, Bool.or_true, Bool.or_false, Bool.false_or, Bool.not_true, Bool.not_false, sq_it, Int.cast_ofNat_Int]) (by omega)
theorem c8_2 (hn : Near cf) (hw : w ≤ 40) (h0 : 0 < N) (h1 : N ≤ 9000) :
    compO (some (rowI w fun j => (j : Int))) (cmpF cf gl [8] (.nm 8) .nil e8_2 [s0, some (.val, .int N), s2, some (.val, .lst (rowI w cl)), s4, s5, some (.val, .lst (rowI (7 + w) f)), some (.val, .tup [.tup (rowI w g), pv]), s8]) =
      some (.own, .lst (rowI w fun j => if cl j = 1 then near 0 N (f (7 + (j : Int)).toNat) else g j)) :=
  compI (fun j hj => by
    by_cases q : cl j = 1
    · simp -implicitDefEqProofs (disch := omega) only [cmpF, wipeE, e8_2, runF, List.length_cons, List.length_nil, List.map_cons, List.map_nil, List.cons_append, List.nil_append, List.append_nil, List.replicate_succ, List.replicate_zero, Nat.reduceAdd, Nat.reduceSub, Nat.zero_add, Nat.reduceLT, Nat.reduceLeDiff, List.getElem?_cons_zero, List.getElem?_cons_succ, List.set_cons_zero, List.set_cons_succ, rdV, D.isMut, if_true, if_false, ite_true, ite_false, reduceCtorEq, true_or, or_true, and_self, or_false, false_or, Bool.false_eq_true, x_var, x_int, x_str, x_bl, x_non, x_bin, x_and, x_or, x_andN, x_orN, x_andC, x_orC, x_not, x_neg, x_ite, x_lst, x_tup, x_nil, x_cons, x_call, x_bi, x_slc, x_isi, x_oN, x_sNil, x_sCons, x_set, x_sIte, x_ret, x_retN, x_brk, x_cnt, x_pass, x_doc, j_bin, j_un, j_seq, j_seqR, j_seqB, j_seqC, j_iteT, j_iteF, j_iteCT, j_iteCF, j_andT, j_andF, j_orT, j_orF, j_bl, j_cons, j_bi, j_asB, j_stV, j_stO, j_ret, retE, j_sl, o_add, o_sub, o_mulL, o_mulR, o_div, o_mod, o_pow, o_lt, o_le, o_gt, o_ge, o_eq, o_ne, o_isB, b_int, b_intB, b_lenL, b_lenT, b_max, b_min, b_tupL, b_tupT, b_lstL, b_lstT, b_abs, Option.bind_some, Option.map_some, Option.bind_none, Option.map_none, x_lock, x_frz, x_for, x_mth, x_unp, x_setIx, x_comp, x_it, x_rng, x_enm, x_zip, j_lockV, j_lockB, j_lockO, j_frzO, j_frzV, j_frzB, j_own, j_itL, j_itT, j_enmL, j_enmT, safeI, safeS, t_nm, t_tup, t_tupL, t_nil, t_cons, f_nil, f_one, v_val, v_own, argM, j_lst2, j_tup2, vls_nil, vls_val, vls_own, lstO_s, tupO_s, turn_nx, turn_cnt, fin_r, fin_n, rowI_len, row_len, o_iL, o_iT, o_rL, o_t0, o_t1, o_l0, o_l1, o_l2, r_n, s_from, s_fromI, s_to, s_toI, x_oI, x_oB, x_oV, opt_int, o_addI, o_addR, o_in2, Int.toNat_natCast, Int.reduceToNat, Int.reduceEq, Int.reduceLT, Int.reduceLE, Int.reduceAdd, Int.reduceSub, Int.reduceMul, Int.reduceNeg, decide_true, decide_false, eq_self, Bool.true_or, Bool.or_true, Bool.or_false, Bool.false_or, Bool.not_true, Bool.not_false, sq_it, Int.cast_ofNat_Int, hn.j, q]
    · simp -implicitDefEqProofs (disch := omega) only [cmpF, wipeE, e8_2, runF, List.length_cons, List.length_nil, List.map_cons, List.map_nil, List.cons_append, List.nil_append, List.append_nil, List.replicate_succ, List.replicate_zero, Nat.reduceAdd, Nat.reduceSub, Nat.zero_add, Nat.reduceLT, Nat.reduceLeDiff, List.getElem?_cons_zero, List.getElem?_cons_succ, List.set_cons_zero, List.set_cons_succ, rdV, D.isMut, if_true, if_false, ite_true, ite_false, reduceCtorEq, true_or, or_true, and_self, or_false, false_or, Bool.false_eq_true, x_var, x_int, x_str, x_bl, x_non, x_bin, x_and, x_or, x_andN, x_orN, x_andC, x_orC, x_not, x_neg, x_ite, x_lst, x_tup, x_nil, x_cons, x_call, x_bi, x_slc, x_isi, x_oN, x_sNil, x_sCons, x_set, x_sIte, x_ret, x_retN, x_brk, x_cnt, x_pass, x_doc, j_bin, j_un, j_seq, j_seqR, j_seqB, j_seqC, j_iteT, j_iteF, j_iteCT, j_iteCF, j_andT, j_andF, j_orT, j_orF, j_bl, j_cons, j_bi, j_asB, j_stV, j_stO, j_ret, retE, j_sl, o_add, o_sub, o_mulL, o_mulR, o_div, o_mod, o_pow, o_lt, o_le, o_gt, o_ge, o_eq, o_ne, o_isB, b_int, b_intB, b_lenL, b_lenT, b_max, b_min, b_tupL, b_tupT, b_lstL, b_lstT, b_abs, Option.bind_some, Option.map_some, Option.bind_none, Option.map_none, x_lock, x_frz, x_for, x_mth, x_unp, x_setIx, x_comp, x_it, x_rng, x_enm, x_zip, j_lockV, j_lockB, j_lockO, j_frzO, j_frzV, j_frzB, j_own, j_itL, j_itT, j_enmL, j_enmT, safeI, safeS, t_nm, t_tup, t_tupL, t_nil, t_cons, f_nil, f_one, v_val, v_own, argM, j_lst2, j_tup2, vls_nil, vls_val, vls_own, lstO_s, tupO_s, turn_nx, turn_cnt, fin_r, fin_n, rowI_len, row_len, o_iL, o_iT, o_rL, o_t0, o_t1, o_l0, o_l1, o_l2, r_n, s_from, s_fromI, s_to, s_toI, x_oI, x_oB, x_oV, opt_int, o_addI, o_addR, o_in2, Int.toNat_natCast, Int.reduceToNat, Int.reduceEq, Int.reduceLT, Int.reduceLE, Int.reduceAdd, Int.reduceSub, Int.reduceMul, Int.reduceNeg, decide_true, decide_false, eq_self, Bool.true_or, Bool.or_true, Bool.or_false, Bool.false_or, Bool.not_true, Bool.not_false, sq_it, Int.cast_ofNat_Int, hn.j, q]) (by omega)
/-- _law_rows -/
theorem rows_ok (hn : Near cf) (hd : Digits cf) (hr : Row7 cf) (hw : w ≤ 40) (hn3 : n ≤ 3000) (h0 : 0 < N) (h1 : N ≤ 120) :
    ∃ h : Nat → Rw, (∀ i, i < n → okR w (h i)) ∧ runF cf gl fu d8 [(.val, .lst (rowI n cs)), (.val, .int N), (.val, .int (w : Int)), (.val, .lst (rowI w cl))] = some (.val, .lst (row n fun i => encR true w (h i))) := by
  obtain ⟨e, he, h, a, b, c, d, hok, rfl⟩ := loop_to (g := setT (.nm 5)) (b := evS cf gl fu b8_3) (fun i e => ∃ (h : Nat → Rw) (a b c d : Option My.C), (∀ k, k < i → okR w (h k)) ∧
      e = [some (.val, .lst (rowI n cs)), some (.val, .int N), some (.val, .int (w : Int)), some (.val, .lst (rowI w cl)), some (.own, .lst (row i fun k => encR true w (h k))), a, b, c, d])
    (ds := rowI n cs) (env := [some (.val, .lst (rowI n cs)), some (.val, .int N), some (.val, .int (w : Int)), some (.val, .lst (rowI w cl)), some (.own, .lst []), none, none, none, none]) ⟨fun _ => (fun _ => 0, 0), none, none, none, none, fun k hk => absurd hk (Nat.not_lt_zero k), rfl⟩ (by
      rintro i dd e hd0 _ ⟨h, a, b, c, d, hok, rfl⟩
      obtain ⟨hi, rfl⟩ := row_some hd0
      obtain ⟨f, hf, hc⟩ := hd (cs i) (7 + w) (fun i => if i < 7 then sz7.getD i 0 else 20001) .val (.inl rfl) (fun i hi => by
        by_cases q : i < 7
        · have := sz7_b i q
          rw [if_pos q]
          exact ⟨by omega, by omega⟩
        · rw [if_neg q]
          exact ⟨by omega, by omega⟩) (by omega)
      have hc2 : callO (cf 4) (some [(.val, .int (cs i)), (.own, .lst (rowI (7 + w) fun i => if i < 7 then sz7.getD i 0 else 20001))]) = some (.own, .lst (rowI (7 + w) f)) := j_call hc (.inr rfl)
      have hb : ∀ i, i < 7 + w → 0 ≤ f i ∧ f i < 20001 := fun i hi => by
        have a := hf i hi
        by_cases q : i < 7
        · have := sz7_b i q
          rw [if_pos q] at a
          exact ⟨by omega, by omega⟩
        · rw [if_neg q] at a
          exact ⟨by omega, by omega⟩
      obtain ⟨r, hr1, hr2⟩ := hr w i f N h hw (by omega) h0 h1 hb hok
      have hr3 : callO (cf 7) (some [(.val, .lst (rowI (7 + w) f)), (.val, .int N), (.val, .int (w : Int)), (.bor, .lst (row i fun i => encR true w (h i)))]) = some (.val, .tup [.tup (rowI w r.1), .int r.2]) := j_call hr2 (.inl rfl)
      refine ⟨_, ?_, upd h i (fun j => if cl j = 1 then near 0 N (f (7 + (j : Int)).toNat) else r.1 j, r.2), some (.val, .int (cs i)), some (.val, .lst (rowI (7 + w) f)), some (.val, .tup [.tup (rowI w r.1), .int r.2]), d, ?_, rfl⟩
      · simp -implicitDefEqProofs (disch := omega) only [b8_3, runF, List.length_cons, List.length_nil, List.map_cons, List.map_nil, List.cons_append, List.nil_append, List.append_nil, List.replicate_succ, List.replicate_zero, Nat.reduceAdd, Nat.reduceSub, Nat.zero_add, Nat.reduceLT, Nat.reduceLeDiff, List.getElem?_cons_zero, List.getElem?_cons_succ, List.set_cons_zero, List.set_cons_succ, rdV, D.isMut, if_true, if_false, ite_true, ite_false, reduceCtorEq, true_or, or_true, and_self, or_false, false_or, Bool.false_eq_true, x_var, x_int, x_str, x_bl, x_non, x_bin, x_and, x_or, x_andN, x_orN, x_andC, x_orC, x_not, x_neg, x_ite, x_lst, x_tup, x_nil, x_cons, x_call, x_bi, x_slc, x_isi, x_oN, x_sNil, x_sCons, x_set, x_sIte, x_ret, x_retN, x_brk, x_cnt, x_pass, x_doc, j_bin, j_un, j_seq, j_seqR, j_seqB, j_seqC, j_iteT, j_iteF, j_iteCT, j_iteCF, j_andT, j_andF, j_orT, j_orF, j_bl, j_cons, j_bi, j_asB, j_stV, j_stO, j_ret, retE, j_sl, o_add, o_sub, o_mulL, o_mulR, o_div, o_mod, o_pow, o_lt, o_le, o_gt, o_ge, o_eq, o_ne, o_isB, b_int, b_intB, b_lenL, b_lenT, b_max, b_min, b_tupL, b_tupT, b_lstL, b_lstT, b_abs, Option.bind_some, Option.map_some, Option.bind_none, Option.map_none, x_lock, x_frz, x_for, x_mth, x_unp, x_setIx, x_comp, x_it, x_rng, x_enm, x_zip, j_lockV, j_lockB, j_lockO, j_frzO, j_frzV, j_frzB, j_own, j_itL, j_itT, j_enmL, j_enmT, safeI, safeS, t_nm, t_tup, t_tupL, t_nil, t_cons, f_nil, f_one, v_val, v_own, argM, j_lst2, j_tup2, vls_nil, vls_val, vls_own, lstO_s, tupO_s, turn_nx, turn_cnt, fin_r, fin_n, rowI_len, row_len, o_iL, o_iT, o_rL, o_t0, o_t1, o_l0, o_l1, o_l2, r_n, s_from, s_fromI, s_to, s_toI, x_oI, x_oB, x_oV, opt_int, o_addI, o_addR, o_in2, Int.toNat_natCast, Int.reduceToNat, Int.reduceEq, Int.reduceLT, Int.reduceLE, Int.reduceAdd, Int.reduceSub, Int.reduceMul, Int.reduceNeg, decide_true, decide_false, eq_self, Bool.true_or, Bool.or_true, Bool.or_false, Bool.false_or, Bool.not_true, Bool.not_false, sq_it, Int.cast_ofNat_Int, l7, c8_1 hw, hc2, hr3, c8_2 hn hw h0 (show N ≤ 9000 by omega), j_appE]
      · exact upd_all hok ⟨fun j hj => sml_ite (near_sml h0 (by omega)) (hr1.1 j hj), hr1.2⟩)
  rw [rowI_len] at he hok
  refine ⟨h, hok, ?_⟩
  simp -implicitDefEqProofs (disch := omega) only [d8, b8, runF, List.length_cons, List.length_nil, List.map_cons, List.map_nil, List.cons_append, List.nil_append, List.append_nil, List.replicate_succ, List.replicate_zero, Nat.reduceAdd, Nat.reduceSub, Nat.zero_add, Nat.reduceLT, Nat.reduceLeDiff, List.getElem?_cons_zero, List.getElem?_cons_succ, List.set_cons_zero, List.set_cons_succ, rdV, D.isMut, if_true, if_false, ite_true, ite_false, reduceCtorEq, true_or, or_true, and_self, or_false, false_or, Bool.false_eq_true, x_var, x_int, x_str, x_bl, x_non, x_bin, x_and, x_or, x_andN, x_orN, x_andC, x_orC, x_not, x_neg, x_ite, x_lst, x_tup, x_nil, x_cons, x_call, x_bi, x_slc, x_isi, x_oN, x_sNil, x_sCons, x_set, x_sIte, x_ret, x_retN, x_brk, x_cnt, x_pass, x_doc, j_bin, j_un, j_seq, j_seqR, j_seqB, j_seqC, j_iteT, j_iteF, j_iteCT, j_iteCF, j_andT, j_andF, j_orT, j_orF, j_bl, j_cons, j_bi, j_asB, j_stV, j_stO, j_ret, retE, j_sl, o_add, o_sub, o_mulL, o_mulR, o_div, o_mod, o_pow, o_lt, o_le, o_gt, o_ge, o_eq, o_ne, o_isB, b_int, b_intB, b_lenL, b_lenT, b_max, b_min, b_tupL, b_tupT, b_lstL, b_lstT, b_abs, Option.bind_some, Option.map_some, Option.bind_none, Option.map_none, x_lock, x_frz, x_for, x_mth, x_unp, x_setIx, x_comp, x_it, x_rng, x_enm, x_zip, j_lockV, j_lockB, j_lockO, j_frzO, j_frzV, j_frzB, j_own, j_itL, j_itT, j_enmL, j_enmT, safeI, safeS, t_nm, t_tup, t_tupL, t_nil, t_cons, f_nil, f_one, v_val, v_own, argM, j_lst2, j_tup2, vls_nil, vls_val, vls_own, lstO_s, tupO_s, turn_nx, turn_cnt, fin_r, fin_n, rowI_len, row_len, o_iL, o_iT, o_rL, o_t0, o_t1, o_l0, o_l1, o_l2, r_n, s_from, s_fromI, s_to, s_toI, x_oI, x_oB, x_oV, opt_int, o_addI, o_addR, o_in2, Int.toNat_natCast, Int.reduceToNat, Int.reduceEq, Int.reduceLT, Int.reduceLE, Int.reduceAdd, Int.reduceSub, Int.reduceMul, Int.reduceNeg, decide_true, decide_false, eq_self, Bool.true_or, Bool.or_true, Bool.or_false, Bool.false_or, Bool.not_true, Bool.not_false, sq_it, Int.cast_ofNat_Int, j_for he]
end
end My
end

section
set_option Elab.async false
set_option linter.all false
set_option maxRecDepth 100000
set_option maxHeartbeats 2000000
namespace My
open PySem
def Sum9 (cf : CF) : Prop := ∀ (t u : Bool) (k n : Nat) (c x : Nat → Int), n ≤ k → n < 4611686018427387904 → (∀ j, j < n → sml (c j)) → cf 9 [(.val, sq t (rowI k c)), (.val, sq u (rowI n x))] = some (.val, .int (sm (fun j => c j * x j) n))
theorem sum_c {cf : CF} {gl : Nat → Option D} {fu : Nat} (t u : Bool) (k n : Nat) (c x : Nat → Int) (hk : n ≤ k) (hn : n < 4611686018427387904) (hb : ∀ j, j < n → sml (c j)) :
    runF cf gl fu d9 [(.val, sq t (rowI k c)), (.val, sq u (rowI n x))] = some (.val, .int (sm (fun j => c j * x j) n)) :=
  sum_ok cf gl fu (.inl rfl) (.inl rfl) c x hn (fun m => by rw [sq_len, rowI_len]) (fun j hj => sq_ix (row_atI (by omega))) (fun j hj => sq_ix (row_atI (by omega))) (fun j hj => by
    obtain ⟨_, _⟩ := hb j hj
    exact ⟨by omega, by omega⟩)
section
variable {cf : CF} {gl : Nat → Option D} {fu : Nat} {w n k : Nat} {f g c cs cl x y : Nat → Int} {N v : Int} {h : Nat → Rw} {pv : D} {s0 s1 s2 s3 s4 s5 s6 s7 s8 : Option My.C}
theorem Sum9.jT (hs : Sum9 cf) (hb : ∀ j, j < n → sml (c j)) (hk : n ≤ k ∧ n < 4611686018427387904) : callO (cf 9) (some [(.val, .tup (rowI k c)), (.val, .lst (rowI n x))]) = some (.val, .int (sm (fun j => c j * x j) n)) := j_call (hs true false k n c x hk.1 hk.2 hb) (.inl rfl)
theorem Sum9.jO (hs : Sum9 cf) (hb : ∀ j, j < n → sml (c j)) (hk : n ≤ k ∧ n < 4611686018427387904) : callO (cf 9) (some [(.own, .lst (rowI k c)), (.val, .lst (rowI n x))]) = some (.val, .int (sm (fun j => c j * x j) n)) := j_call (hs false false k n c x hk.1 hk.2 hb) (.inl rfl)
theorem o_e0 {r : Rw} : op2 .idx (encR true w r) (.int 0) = some (.val, .tup (rowI w r.1)) := o_t0
theorem o_e1 {r : Rw} : op2 .idx (encR true w r) (.int 1) = some (.val, .int r.2) := o_t1
theorem compR {f : D → Option (Option D)} {g : Nat → D} {h : Nat → Rw} (k : ∀ j, j < n → f (g j) = some (some (encR true w (h j)))) (hn : n ≤ 16777216) : compO (some (row n g)) f = some (.own, .lst (row n fun i => encR true w (h i))) :=
  j_comp (compL_row (h := fun j => encR true w (h j)) k) (by rw [row_len]; exact hn)
def solvedR (w : Nat) (N : Int) (x : Nat → Int) (r : Rw) : Rw := (r.1, near (sm (fun j => r.1 j * x j) w) N (if r.2 < 0 then -r.2 else r.2))
theorem solved_ok (hn : Near cf) (hs : Sum9 cf) (hw : w ≤ 40) (hn3 : n ≤ 3000) (h0 : 0 < N) (h1 : N ≤ 120) (hok : ∀ i, i < n → okR w (h i)) :
    ∃ h' : Nat → Rw, (∀ i, i < n → okR w (h' i)) ∧ runF cf gl fu d10 [(.val, .lst (row n fun i => encR true w (h i))), (.val, .int N), (.val, .lst (rowI w x))] = some (.own, .lst (row n fun i => encR true w (h' i))) := by
  refine ⟨fun i => solvedR w N x (h i), fun i hi => ⟨(hok i hi).1, near_sml h0 (by omega)⟩, ?_⟩
  have hz : ∀ s3, compO (some (row n fun i => encR true w (h i))) (cmpF cf gl [3] (.nm 3) .nil e10_1 [some (.val, .lst (row n fun i => encR true w (h i))), some (.val, .int N), some (.val, .lst (rowI w x)), s3]) = some (.own, .lst (row n fun i => encR true w (solvedR w N x (h i)))) := fun s3 =>
    compR (fun i hi => by
      simp -implicitDefEqProofs (disch := omega) only [cmpF, wipeE, e10_1, runF, List.length_cons, List.length_nil, List.map_cons, List.map_nil, List.cons_append, List.nil_append, List.append_nil, List.replicate_succ, List.replicate_zero, Nat.reduceAdd, Nat.reduceSub, Nat.zero_add, Nat.reduceLT, Nat.reduceLeDiff, List.getElem?_cons_zero, List.getElem?_cons_succ, List.set_cons_zero, List.set_cons_succ, rdV, D.isMut, if_true, if_false, ite_true, ite_false, reduceCtorEq, true_or, or_true, and_self, or_false, false_or, Bool.false_eq_true, x_var, x_int, x_str, x_bl, x_non, x_bin, x_and, x_or, x_andN, x_orN, x_andC, x_orC, x_not, x_neg, x_ite, x_lst, x_tup, x_nil, x_cons, x_call, x_bi, x_slc, x_isi, x_oN, x_sNil, x_sCons, x_set, x_sIte, x_ret, x_retN, x_brk, x_cnt, x_pass, x_doc, j_bin, j_un, j_seq, j_seqR, j_seqB, j_seqC, j_iteT, j_iteF, j_iteCT, j_iteCF, j_andT, j_andF, j_orT, j_orF, j_bl, j_cons, j_bi, j_asB, j_stV, j_stO, j_ret, retE, j_sl, o_add, o_sub, o_mulL, o_mulR, o_div, o_mod, o_pow, o_lt, o_le, o_gt, o_ge, o_eq, o_ne, o_isB, b_int, b_intB, b_lenL, b_lenT, b_max, b_min, b_tupL, b_tupT, b_lstL, b_lstT, b_abs, Option.bind_some, Option.map_some, Option.bind_none, Option.map_none, x_lock, x_frz, x_for, x_mth, x_unp, x_setIx, x_comp, x_it, x_rng, x_enm, x_zip, j_lockV, j_lockB, j_lockO, j_frzO, j_frzV, j_frzB, j_own, j_itL, j_itT, j_enmL, j_enmT, safeI, safeS, t_nm, t_tup, t_tupL, t_nil, t_cons, f_nil, f_one, v_val, v_own, argM, j_lst2, j_tup2, vls_nil, vls_val, vls_own, lstO_s, tupO_s, turn_nx, turn_cnt, fin_r, fin_n, rowI_len, row_len, o_iL, o_iT, o_rL, o_t0, o_t1, o_l0, o_l1, o_l2, r_n, s_from, s_fromI, s_to, s_toI, x_oI, x_oB, x_oV, opt_int, o_addI, o_addR, o_in2, Int.toNat_natCast, Int.reduceToNat, Int.reduceEq, Int.reduceLT, Int.reduceLE, Int.reduceAdd, Int.reduceSub, Int.reduceMul, Int.reduceNeg, decide_true, decide_false, eq_self, Bool.true_or, Bool.or_true, Bool.or_false, Bool.false_or, Bool.not_true, Bool.not_false, sq_it, Int.cast_ofNat_Int, encT, hn.j, hs.jT (hok i hi).1, solvedR]) (by omega)
  simp -implicitDefEqProofs (disch := omega) only [d10, b10, runF, List.length_cons, List.length_nil, List.map_cons, List.map_nil, List.cons_append, List.nil_append, List.append_nil, List.replicate_succ, List.replicate_zero, Nat.reduceAdd, Nat.reduceSub, Nat.zero_add, Nat.reduceLT, Nat.reduceLeDiff, List.getElem?_cons_zero, List.getElem?_cons_succ, List.set_cons_zero, List.set_cons_succ, rdV, D.isMut, if_true, if_false, ite_true, ite_false, reduceCtorEq, true_or, or_true, and_self, or_false, false_or, Bool.false_eq_true, x_var, x_int, x_str, x_bl, x_non, x_bin, x_and, x_or, x_andN, x_orN, x_andC, x_orC, x_not, x_neg, x_ite, x_lst, x_tup, x_nil, x_cons, x_call, x_bi, x_slc, x_isi, x_oN, x_sNil, x_sCons, x_set, x_sIte, x_ret, x_retN, x_brk, x_cnt, x_pass, x_doc, j_bin, j_un, j_seq, j_seqR, j_seqB, j_seqC, j_iteT, j_iteF, j_iteCT, j_iteCF, j_andT, j_andF, j_orT, j_orF, j_bl, j_cons, j_bi, j_asB, j_stV, j_stO, j_ret, retE, j_sl, o_add, o_sub, o_mulL, o_mulR, o_div, o_mod, o_pow, o_lt, o_le, o_gt, o_ge, o_eq, o_ne, o_isB, b_int, b_intB, b_lenL, b_lenT, b_max, b_min, b_tupL, b_tupT, b_lstL, b_lstT, b_abs, Option.bind_some, Option.map_some, Option.bind_none, Option.map_none, x_lock, x_frz, x_for, x_mth, x_unp, x_setIx, x_comp, x_it, x_rng, x_enm, x_zip, j_lockV, j_lockB, j_lockO, j_frzO, j_frzV, j_frzB, j_own, j_itL, j_itT, j_enmL, j_enmT, safeI, safeS, t_nm, t_tup, t_tupL, t_nil, t_cons, f_nil, f_one, v_val, v_own, argM, j_lst2, j_tup2, vls_nil, vls_val, vls_own, lstO_s, tupO_s, turn_nx, turn_cnt, fin_r, fin_n, rowI_len, row_len, o_iL, o_iT, o_rL, o_t0, o_t1, o_l0, o_l1, o_l2, r_n, s_from, s_fromI, s_to, s_toI, x_oI, x_oB, x_oV, opt_int, o_addI, o_addR, o_in2, Int.toNat_natCast, Int.reduceToNat, Int.reduceEq, Int.reduceLT, Int.reduceLE, Int.reduceAdd, Int.reduceSub, Int.reduceMul, Int.reduceNeg, decide_true, decide_false, eq_self, Bool.true_or, Bool.or_true, Bool.or_false, Bool.false_or, Bool.not_true, Bool.not_false, sq_it, Int.cast_ofNat_Int, hz]
theorem solves_ok (hs : Sum9 cf) (hw : w ≤ 40) (hn3 : n ≤ 3000) (h0 : 0 < N) (hok : ∀ i, i < n → okR w (h i)) :
    runF cf gl fu d11 [(.val, .lst (row n fun i => encR true w (h i))), (.val, .int N), (.val, .lst (rowI w x))] = some (.val, .bl (decide (∀ i, i < n → (sm (fun j => (h i).1 j * x j) w - (h i).2) % N = 0))) := by
  rcases loop_all (g := setT (.nm 3)) (b := evS cf gl fu b11_1) (c := (.val, .bl false)) (fun i e => ∃ a, e = [some (.val, .lst (row n fun i => encR true w (h i))), some (.val, .int N), some (.val, .lst (rowI w x)), a])
      (fun i => decide ((sm (fun j => (h i).1 j * x j) w - (h i).2) % N = 0)) (ds := row n fun i => encR true w (h i)) (env := [some (.val, .lst (row n fun i => encR true w (h i))), some (.val, .int N), some (.val, .lst (rowI w x)), none]) ⟨none, rfl⟩ (by
    rintro i dd e hd _ ⟨a, rfl⟩
    obtain ⟨hi, rfl⟩ := row_some hd
    refine ⟨fun q => ⟨[some (.val, .lst (row n fun i => encR true w (h i))), some (.val, .int N), some (.val, .lst (rowI w x)), some (.val, encR true w (h i))], ?_, _, rfl⟩, fun q => ?_⟩
    · have q := of_decide_eq_true q
      simp -implicitDefEqProofs (disch := omega) only [b11_1, runF, List.length_cons, List.length_nil, List.map_cons, List.map_nil, List.cons_append, List.nil_append, List.append_nil, List.replicate_succ, List.replicate_zero, Nat.reduceAdd, Nat.reduceSub, Nat.zero_add, Nat.reduceLT, Nat.reduceLeDiff, List.getElem?_cons_zero, List.getElem?_cons_succ, List.set_cons_zero, List.set_cons_succ, rdV, D.isMut, if_true, if_false, ite_true, ite_false, reduceCtorEq, true_or, or_true, and_self, or_false, false_or, Bool.false_eq_true, x_var, x_int, x_str, x_bl, x_non, x_bin, x_and, x_or, x_andN, x_orN, x_andC, x_orC, x_not, x_neg, x_ite, x_lst, x_tup, x_nil, x_cons, x_call, x_bi, x_slc, x_isi, x_oN, x_sNil, x_sCons, x_set, x_sIte, x_ret, x_retN, x_brk, x_cnt, x_pass, x_doc, j_bin, j_un, j_seq, j_seqR, j_seqB, j_seqC, j_iteT, j_iteF, j_iteCT, j_iteCF, j_andT, j_andF, j_orT, j_orF, j_bl, j_cons, j_bi, j_asB, j_stV, j_stO, j_ret, retE, j_sl, o_add, o_sub, o_mulL, o_mulR, o_div, o_mod, o_pow, o_lt, o_le, o_gt, o_ge, o_eq, o_ne, o_isB, b_int, b_intB, b_lenL, b_lenT, b_max, b_min, b_tupL, b_tupT, b_lstL, b_lstT, b_abs, Option.bind_some, Option.map_some, Option.bind_none, Option.map_none, x_lock, x_frz, x_for, x_mth, x_unp, x_setIx, x_comp, x_it, x_rng, x_enm, x_zip, j_lockV, j_lockB, j_lockO, j_frzO, j_frzV, j_frzB, j_own, j_itL, j_itT, j_enmL, j_enmT, safeI, safeS, t_nm, t_tup, t_tupL, t_nil, t_cons, f_nil, f_one, v_val, v_own, argM, j_lst2, j_tup2, vls_nil, vls_val, vls_own, lstO_s, tupO_s, turn_nx, turn_cnt, fin_r, fin_n, rowI_len, row_len, o_iL, o_iT, o_rL, o_t0, o_t1, o_l0, o_l1, o_l2, r_n, s_from, s_fromI, s_to, s_toI, x_oI, x_oB, x_oV, opt_int, o_addI, o_addR, o_in2, Int.toNat_natCast, Int.reduceToNat, Int.reduceEq, Int.reduceLT, Int.reduceLE, Int.reduceAdd, Int.reduceSub, Int.reduceMul, Int.reduceNeg, decide_true, decide_false, eq_self, Bool.true_or, Bool.or_true, Bool.or_false, Bool.false_or, Bool.not_true, Bool.not_false, sq_it, Int.cast_ofNat_Int, encT, hs.jT (hok i hi).1, q]
    · have q := of_decide_eq_false q
      simp -implicitDefEqProofs (disch := omega) only [b11_1, runF, List.length_cons, List.length_nil, List.map_cons, List.map_nil, List.cons_append, List.nil_append, List.append_nil, List.replicate_succ, List.replicate_zero, Nat.reduceAdd, Nat.reduceSub, Nat.zero_add, Nat.reduceLT, Nat.reduceLeDiff, List.getElem?_cons_zero, List.getElem?_cons_succ, List.set_cons_zero, List.set_cons_succ, rdV, D.isMut, if_true, if_false, ite_true, ite_false, reduceCtorEq, true_or, or_true, and_self, or_false, false_or, Bool.false_eq_true, x_var, x_int, x_str, x_bl, x_non, x_bin, x_and, x_or, x_andN, x_orN, x_andC, x_orC, x_not, x_neg, x_ite, x_lst, x_tup, x_nil, x_cons, x_call, x_bi, x_slc, x_isi, x_oN, x_sNil, x_sCons, x_set, x_sIte, x_ret, x_retN, x_brk, x_cnt, x_pass, x_doc, j_bin, j_un, j_seq, j_seqR, j_seqB, j_seqC, j_iteT, j_iteF, j_iteCT, j_iteCF, j_andT, j_andF, j_orT, j_orF, j_bl, j_cons, j_bi, j_asB, j_stV, j_stO, j_ret, retE, j_sl, o_add, o_sub, o_mulL, o_mulR, o_div, o_mod, o_pow, o_lt, o_le, o_gt, o_ge, o_eq, o_ne, o_isB, b_int, b_intB, b_lenL, b_lenT, b_max, b_min, b_tupL, b_tupT, b_lstL, b_lstT, b_abs, Option.bind_some, Option.map_some, Option.bind_none, Option.map_none, x_lock, x_frz, x_for, x_mth, x_unp, x_setIx, x_comp, x_it, x_rng, x_enm, x_zip, j_lockV, j_lockB, j_lockO, j_frzO, j_frzV, j_frzB, j_own, j_itL, j_itT, j_enmL, j_enmT, safeI, safeS, t_nm, t_tup, t_tupL, t_nil, t_cons, f_nil, f_one, v_val, v_own, argM, j_lst2, j_tup2, vls_nil, vls_val, vls_own, lstO_s, tupO_s, turn_nx, turn_cnt, fin_r, fin_n, rowI_len, row_len, o_iL, o_iT, o_rL, o_t0, o_t1, o_l0, o_l1, o_l2, r_n, s_from, s_fromI, s_to, s_toI, x_oI, x_oB, x_oV, opt_int, o_addI, o_addR, o_in2, Int.toNat_natCast, Int.reduceToNat, Int.reduceEq, Int.reduceLT, Int.reduceLE, Int.reduceAdd, Int.reduceSub, Int.reduceMul, Int.reduceNeg, decide_true, decide_false, eq_self, Bool.true_or, Bool.or_true, Bool.or_false, Bool.false_or, Bool.not_true, Bool.not_false, sq_it, Int.cast_ofNat_Int, encT, hs.jT (hok i hi).1, q]) with ⟨q, e, he, a, rfl⟩ | ⟨q, he⟩
  · have z : decide (∀ i, i < n → (sm (fun j => (h i).1 j * x j) w - (h i).2) % N = 0) = true := decide_eq_true fun i hi => of_decide_eq_true (q i (by rw [row_len]; exact hi))
    rw [z]
    simp -implicitDefEqProofs (disch := omega) only [d11, b11, runF, List.length_cons, List.length_nil, List.map_cons, List.map_nil, List.cons_append, List.nil_append, List.append_nil, List.replicate_succ, List.replicate_zero, Nat.reduceAdd, Nat.reduceSub, Nat.zero_add, Nat.reduceLT, Nat.reduceLeDiff, List.getElem?_cons_zero, List.getElem?_cons_succ, List.set_cons_zero, List.set_cons_succ, rdV, D.isMut, if_true, if_false, ite_true, ite_false, reduceCtorEq, true_or, or_true, and_self, or_false, false_or, Bool.false_eq_true, x_var, x_int, x_str, x_bl, x_non, x_bin, x_and, x_or, x_andN, x_orN, x_andC, x_orC, x_not, x_neg, x_ite, x_lst, x_tup, x_nil, x_cons, x_call, x_bi, x_slc, x_isi, x_oN, x_sNil, x_sCons, x_set, x_sIte, x_ret, x_retN, x_brk, x_cnt, x_pass, x_doc, j_bin, j_un, j_seq, j_seqR, j_seqB, j_seqC, j_iteT, j_iteF, j_iteCT, j_iteCF, j_andT, j_andF, j_orT, j_orF, j_bl, j_cons, j_bi, j_asB, j_stV, j_stO, j_ret, retE, j_sl, o_add, o_sub, o_mulL, o_mulR, o_div, o_mod, o_pow, o_lt, o_le, o_gt, o_ge, o_eq, o_ne, o_isB, b_int, b_intB, b_lenL, b_lenT, b_max, b_min, b_tupL, b_tupT, b_lstL, b_lstT, b_abs, Option.bind_some, Option.map_some, Option.bind_none, Option.map_none, x_lock, x_frz, x_for, x_mth, x_unp, x_setIx, x_comp, x_it, x_rng, x_enm, x_zip, j_lockV, j_lockB, j_lockO, j_frzO, j_frzV, j_frzB, j_own, j_itL, j_itT, j_enmL, j_enmT, safeI, safeS, t_nm, t_tup, t_tupL, t_nil, t_cons, f_nil, f_one, v_val, v_own, argM, j_lst2, j_tup2, vls_nil, vls_val, vls_own, lstO_s, tupO_s, turn_nx, turn_cnt, fin_r, fin_n, rowI_len, row_len, o_iL, o_iT, o_rL, o_t0, o_t1, o_l0, o_l1, o_l2, r_n, s_from, s_fromI, s_to, s_toI, x_oI, x_oB, x_oV, opt_int, o_addI, o_addR, o_in2, Int.toNat_natCast, Int.reduceToNat, Int.reduceEq, Int.reduceLT, Int.reduceLE, Int.reduceAdd, Int.reduceSub, Int.reduceMul, Int.reduceNeg, decide_true, decide_false, eq_self, Bool.true_or, Bool.or_true, Bool.or_false, Bool.false_or, Bool.not_true, Bool.not_false, sq_it, Int.cast_ofNat_Int, j_for he]
  · have z : decide (∀ i, i < n → (sm (fun j => (h i).1 j * x j) w - (h i).2) % N = 0) = false := decide_eq_false fun k => by
      obtain ⟨i, hi, ho⟩ := q
      rw [row_len] at hi
      exact of_decide_eq_false ho (k i hi)
    rw [z]
    simp -implicitDefEqProofs (disch := omega) only [d11, b11, runF, List.length_cons, List.length_nil, List.map_cons, List.map_nil, List.cons_append, List.nil_append, List.append_nil, List.replicate_succ, List.replicate_zero, Nat.reduceAdd, Nat.reduceSub, Nat.zero_add, Nat.reduceLT, Nat.reduceLeDiff, List.getElem?_cons_zero, List.getElem?_cons_succ, List.set_cons_zero, List.set_cons_succ, rdV, D.isMut, if_true, if_false, ite_true, ite_false, reduceCtorEq, true_or, or_true, and_self, or_false, false_or, Bool.false_eq_true, x_var, x_int, x_str, x_bl, x_non, x_bin, x_and, x_or, x_andN, x_orN, x_andC, x_orC, x_not, x_neg, x_ite, x_lst, x_tup, x_nil, x_cons, x_call, x_bi, x_slc, x_isi, x_oN, x_sNil, x_sCons, x_set, x_sIte, x_ret, x_retN, x_brk, x_cnt, x_pass, x_doc, j_bin, j_un, j_seq, j_seqR, j_seqB, j_seqC, j_iteT, j_iteF, j_iteCT, j_iteCF, j_andT, j_andF, j_orT, j_orF, j_bl, j_cons, j_bi, j_asB, j_stV, j_stO, j_ret, retE, j_sl, o_add, o_sub, o_mulL, o_mulR, o_div, o_mod, o_pow, o_lt, o_le, o_gt, o_ge, o_eq, o_ne, o_isB, b_int, b_intB, b_lenL, b_lenT, b_max, b_min, b_tupL, b_tupT, b_lstL, b_lstT, b_abs, Option.bind_some, Option.map_some, Option.bind_none, Option.map_none, x_lock, x_frz, x_for, x_mth, x_unp, x_setIx, x_comp, x_it, x_rng, x_enm, x_zip, j_lockV, j_lockB, j_lockO, j_frzO, j_frzV, j_frzB, j_own, j_itL, j_itT, j_enmL, j_enmT, safeI, safeS, t_nm, t_tup, t_tupL, t_nil, t_cons, f_nil, f_one, v_val, v_own, argM, j_lst2, j_tup2, vls_nil, vls_val, vls_own, lstO_s, tupO_s, turn_nx, turn_cnt, fin_r, fin_n, rowI_len, row_len, o_iL, o_iT, o_rL, o_t0, o_t1, o_l0, o_l1, o_l2, r_n, s_from, s_fromI, s_to, s_toI, x_oI, x_oB, x_oV, opt_int, o_addI, o_addR, o_in2, Int.toNat_natCast, Int.reduceToNat, Int.reduceEq, Int.reduceLT, Int.reduceLE, Int.reduceAdd, Int.reduceSub, Int.reduceMul, Int.reduceNeg, decide_true, decide_false, eq_self, Bool.true_or, Bool.or_true, Bool.or_false, Bool.false_or, Bool.not_true, Bool.not_false, sq_it, Int.cast_ofNat_Int, j_forR he]
theorem bars_ok (hs : Sum9 cf) (hw : w ≤ 40) (hn3 : n ≤ 3000) (h0 : 0 < N) (hok : ∀ i, i < n → okR w (h i)) :
    runF cf gl fu d12 [(.val, .lst (row n fun i => encR true w (h i))), (.val, .int N), (.val, .int (w : Int)), (.val, .lst (rowI n y))] = some (.val, .bl (barsB n w (fun i j => (h i).1 j) (fun i => (h i).2) y N)) := by
  have hz1 : ∀ (j : Nat) s5, j < w → compO (some (row n fun i => encR true w (h i))) (cmpF cf gl [5] (.nm 5) .nil e12_1 [some (.val, .lst (row n fun i => encR true w (h i))), some (.val, .int N), some (.val, .int (w : Int)), some (.val, .lst (rowI n y)), some (.val, .int (j : Int)), s5]) = some (.own, .lst (rowI n fun i => (h i).1 j)) := fun j s5 hj =>
    compI (fun i hi => by simp -implicitDefEqProofs (disch := omega) only [cmpF, wipeE, e12_1, runF, List.length_cons, List.length_nil, List.map_cons, List.map_nil, List.cons_append, List.nil_append, List.append_nil, List.replicate_succ, List.replicate_zero, Nat.reduceAdd, Nat.reduceSub, Nat.zero_add, Nat.reduceLT, Nat.reduceLeDiff, List.getElem?_cons_zero, List.getElem?_cons_succ, List.set_cons_zero, List.set_cons_succ, rdV, D.isMut, if_true, if_false, ite_true, ite_false, reduceCtorEq, true_or, or_true, and_self, or_false, false_or, Bool.false_eq_true, x_var, x_int, x_str, x_bl, x_non, x_bin, x_and, x_or, x_andN, x_orN, x_andC, x_orC, x_not, x_neg, x_ite, x_lst, x_tup, x_nil, x_cons, x_call, x_bi, x_slc, x_isi, x_oN, x_sNil, x_sCons, x_set, x_sIte, x_ret, x_retN, x_brk, x_cnt, x_pass, x_doc, j_bin, j_un, j_seq, j_seqR, j_seqB, j_seqC, j_iteT, j_iteF, j_iteCT, j_iteCF, j_andT, j_andF, j_orT, j_orF, j_bl, j_cons, j_bi, j_asB, j_stV, j_stO, j_ret, retE, j_sl, o_add, o_sub, o_mulL, o_mulR, o_div, o_mod, o_pow, o_lt, o_le, o_gt, o_ge, o_eq, o_ne, o_isB, b_int, b_intB, b_lenL, b_lenT, b_max, b_min, b_tupL, b_tupT, b_lstL, b_lstT, b_abs, Option.bind_some, Option.map_some, Option.bind_none, Option.map_none, x_lock, x_frz, x_for, x_mth, x_unp, x_setIx, x_comp, x_it, x_rng, x_enm, x_zip, j_lockV, j_lockB, j_lockO, j_frzO, j_frzV, j_frzB, j_own, j_itL, j_itT, j_enmL, j_enmT, safeI, safeS, t_nm, t_tup, t_tupL, t_nil, t_cons, f_nil, f_one, v_val, v_own, argM, j_lst2, j_tup2, vls_nil, vls_val, vls_own, lstO_s, tupO_s, turn_nx, turn_cnt, fin_r, fin_n, rowI_len, row_len, o_iL, o_iT, o_rL, o_t0, o_t1, o_l0, o_l1, o_l2, r_n, s_from, s_fromI, s_to, s_toI, x_oI, x_oB, x_oV, opt_int, o_addI, o_addR, o_in2, Int.toNat_natCast, Int.reduceToNat, Int.reduceEq, Int.reduceLT, Int.reduceLE, Int.reduceAdd, Int.reduceSub, Int.reduceMul, Int.reduceNeg, decide_true, decide_false, eq_self, Bool.true_or, Bool.or_true, Bool.or_false, Bool.false_or, Bool.not_true, Bool.not_false, sq_it, Int.cast_ofNat_Int, encT]) (by omega)
  have hz2 : ∀ s4 s5, compO (some (row n fun i => encR true w (h i))) (cmpF cf gl [5] (.nm 5) .nil e12_3 [some (.val, .lst (row n fun i => encR true w (h i))), some (.val, .int N), some (.val, .int (w : Int)), some (.val, .lst (rowI n y)), s4, s5]) = some (.own, .lst (rowI n fun i => (h i).2)) := fun s4 s5 =>
    compI (fun i hi => by simp -implicitDefEqProofs (disch := omega) only [cmpF, wipeE, e12_3, runF, List.length_cons, List.length_nil, List.map_cons, List.map_nil, List.cons_append, List.nil_append, List.append_nil, List.replicate_succ, List.replicate_zero, Nat.reduceAdd, Nat.reduceSub, Nat.zero_add, Nat.reduceLT, Nat.reduceLeDiff, List.getElem?_cons_zero, List.getElem?_cons_succ, List.set_cons_zero, List.set_cons_succ, rdV, D.isMut, if_true, if_false, ite_true, ite_false, reduceCtorEq, true_or, or_true, and_self, or_false, false_or, Bool.false_eq_true, x_var, x_int, x_str, x_bl, x_non, x_bin, x_and, x_or, x_andN, x_orN, x_andC, x_orC, x_not, x_neg, x_ite, x_lst, x_tup, x_nil, x_cons, x_call, x_bi, x_slc, x_isi, x_oN, x_sNil, x_sCons, x_set, x_sIte, x_ret, x_retN, x_brk, x_cnt, x_pass, x_doc, j_bin, j_un, j_seq, j_seqR, j_seqB, j_seqC, j_iteT, j_iteF, j_iteCT, j_iteCF, j_andT, j_andF, j_orT, j_orF, j_bl, j_cons, j_bi, j_asB, j_stV, j_stO, j_ret, retE, j_sl, o_add, o_sub, o_mulL, o_mulR, o_div, o_mod, o_pow, o_lt, o_le, o_gt, o_ge, o_eq, o_ne, o_isB, b_int, b_intB, b_lenL, b_lenT, b_max, b_min, b_tupL, b_tupT, b_lstL, b_lstT, b_abs, Option.bind_some, Option.map_some, Option.bind_none, Option.map_none, x_lock, x_frz, x_for, x_mth, x_unp, x_setIx, x_comp, x_it, x_rng, x_enm, x_zip, j_lockV, j_lockB, j_lockO, j_frzO, j_frzV, j_frzB, j_own, j_itL, j_itT, j_enmL, j_enmT, safeI, safeS, t_nm, t_tup, t_tupL, t_nil, t_cons, f_nil, f_one, v_val, v_own, argM, j_lst2, j_tup2, vls_nil, vls_val, vls_own, lstO_s, tupO_s, turn_nx, turn_cnt, fin_r, fin_n, rowI_len, row_len, o_iL, o_iT, o_rL, o_t0, o_t1, o_l0, o_l1, o_l2, r_n, s_from, s_fromI, s_to, s_toI, x_oI, x_oB, x_oV, opt_int, o_addI, o_addR, o_in2, Int.toNat_natCast, Int.reduceToNat, Int.reduceEq, Int.reduceLT, Int.reduceLE, Int.reduceAdd, Int.reduceSub, Int.reduceMul, Int.reduceNeg, decide_true, decide_false, eq_self, Bool.true_or, Bool.or_true, Bool.or_false, Bool.false_or, Bool.not_true, Bool.not_false, sq_it, Int.cast_ofNat_Int, encT]) (by omega)
  rcases loop_all (g := setT (.nm 4)) (b := evS cf gl fu b12_2) (c := (.val, .bl false)) (fun i e => ∃ a b, e = [some (.val, .lst (row n fun i => encR true w (h i))), some (.val, .int N), some (.val, .int (w : Int)), some (.val, .lst (rowI n y)), a, b])
      (fun j => decide (sm (fun i => (h i).1 j * y i) n % N = 0)) (ds := rowI w fun i => (i : Int)) (env := [some (.val, .lst (row n fun i => encR true w (h i))), some (.val, .int N), some (.val, .int (w : Int)), some (.val, .lst (rowI n y)), none, none]) ⟨none, none, rfl⟩ (by
    rintro j dd e hd _ ⟨a, b, rfl⟩
    obtain ⟨hj, rfl⟩ := row_some hd
    refine ⟨fun q => ⟨[some (.val, .lst (row n fun i => encR true w (h i))), some (.val, .int N), some (.val, .int (w : Int)), some (.val, .lst (rowI n y)), some (.val, .int (j : Int)), b], ?_, _, _, rfl⟩, fun q => ?_⟩
    · have q := of_decide_eq_true q
      simp -implicitDefEqProofs (disch := omega) only [b12_2, runF, List.length_cons, List.length_nil, List.map_cons, List.map_nil, List.cons_append, List.nil_append, List.append_nil, List.replicate_succ, List.replicate_zero, Nat.reduceAdd, Nat.reduceSub, Nat.zero_add, Nat.reduceLT, Nat.reduceLeDiff, List.getElem?_cons_zero, List.getElem?_cons_succ, List.set_cons_zero, List.set_cons_succ, rdV, D.isMut, if_true, if_false, ite_true, ite_false, reduceCtorEq, true_or, or_true, and_self, or_false, false_or, Bool.false_eq_true, x_var, x_int, x_str, x_bl, x_non, x_bin, x_and, x_or, x_andN, x_orN, x_andC, x_orC, x_not, x_neg, x_ite, x_lst, x_tup, x_nil, x_cons, x_call, x_bi, x_slc, x_isi, x_oN, x_sNil, x_sCons, x_set, x_sIte, x_ret, x_retN, x_brk, x_cnt, x_pass, x_doc, j_bin, j_un, j_seq, j_seqR, j_seqB, j_seqC, j_iteT, j_iteF, j_iteCT, j_iteCF, j_andT, j_andF, j_orT, j_orF, j_bl, j_cons, j_bi, j_asB, j_stV, j_stO, j_ret, retE, j_sl, o_add, o_sub, o_mulL, o_mulR, o_div, o_mod, o_pow, o_lt, o_le, o_gt, o_ge, o_eq, o_ne, o_isB, b_int, b_intB, b_lenL, b_lenT, b_max, b_min, b_tupL, b_tupT, b_lstL, b_lstT, b_abs, Option.bind_some, Option.map_some, Option.bind_none, Option.map_none, x_lock, x_frz, x_for, x_mth, x_unp, x_setIx, x_comp, x_it, x_rng, x_enm, x_zip, j_lockV, j_lockB, j_lockO, j_frzO, j_frzV, j_frzB, j_own, j_itL, j_itT, j_enmL, j_enmT, safeI, safeS, t_nm, t_tup, t_tupL, t_nil, t_cons, f_nil, f_one, v_val, v_own, argM, j_lst2, j_tup2, vls_nil, vls_val, vls_own, lstO_s, tupO_s, turn_nx, turn_cnt, fin_r, fin_n, rowI_len, row_len, o_iL, o_iT, o_rL, o_t0, o_t1, o_l0, o_l1, o_l2, r_n, s_from, s_fromI, s_to, s_toI, x_oI, x_oB, x_oV, opt_int, o_addI, o_addR, o_in2, Int.toNat_natCast, Int.reduceToNat, Int.reduceEq, Int.reduceLT, Int.reduceLE, Int.reduceAdd, Int.reduceSub, Int.reduceMul, Int.reduceNeg, decide_true, decide_false, eq_self, Bool.true_or, Bool.or_true, Bool.or_false, Bool.false_or, Bool.not_true, Bool.not_false, sq_it, Int.cast_ofNat_Int, hz1 j _ hj, hs.jO (fun i hi => (hok i hi).1 j hj), q]
    · have q := of_decide_eq_false q
      simp -implicitDefEqProofs (disch := omega) only [b12_2, runF, List.length_cons, List.length_nil, List.map_cons, List.map_nil, List.cons_append, List.nil_append, List.append_nil, List.replicate_succ, List.replicate_zero, Nat.reduceAdd, Nat.reduceSub, Nat.zero_add, Nat.reduceLT, Nat.reduceLeDiff, List.getElem?_cons_zero, List.getElem?_cons_succ, List.set_cons_zero, List.set_cons_succ, rdV, D.isMut, if_true, if_false, ite_true, ite_false, reduceCtorEq, true_or, or_true, and_self, or_false, false_or, Bool.false_eq_true, x_var, x_int, x_str, x_bl, x_non, x_bin, x_and, x_or, x_andN, x_orN, x_andC, x_orC, x_not, x_neg, x_ite, x_lst, x_tup, x_nil, x_cons, x_call, x_bi, x_slc, x_isi, x_oN, x_sNil, x_sCons, x_set, x_sIte, x_ret, x_retN, x_brk, x_cnt, x_pass, x_doc, j_bin, j_un, j_seq, j_seqR, j_seqB, j_seqC, j_iteT, j_iteF, j_iteCT, j_iteCF, j_andT, j_andF, j_orT, j_orF, j_bl, j_cons, j_bi, j_asB, j_stV, j_stO, j_ret, retE, j_sl, o_add, o_sub, o_mulL, o_mulR, o_div, o_mod, o_pow, o_lt, o_le, o_gt, o_ge, o_eq, o_ne, o_isB, b_int, b_intB, b_lenL, b_lenT, b_max, b_min, b_tupL, b_tupT, b_lstL, b_lstT, b_abs, Option.bind_some, Option.map_some, Option.bind_none, Option.map_none, x_lock, x_frz, x_for, x_mth, x_unp, x_setIx, x_comp, x_it, x_rng, x_enm, x_zip, j_lockV, j_lockB, j_lockO, j_frzO, j_frzV, j_frzB, j_own, j_itL, j_itT, j_enmL, j_enmT, safeI, safeS, t_nm, t_tup, t_tupL, t_nil, t_cons, f_nil, f_one, v_val, v_own, argM, j_lst2, j_tup2, vls_nil, vls_val, vls_own, lstO_s, tupO_s, turn_nx, turn_cnt, fin_r, fin_n, rowI_len, row_len, o_iL, o_iT, o_rL, o_t0, o_t1, o_l0, o_l1, o_l2, r_n, s_from, s_fromI, s_to, s_toI, x_oI, x_oB, x_oV, opt_int, o_addI, o_addR, o_in2, Int.toNat_natCast, Int.reduceToNat, Int.reduceEq, Int.reduceLT, Int.reduceLE, Int.reduceAdd, Int.reduceSub, Int.reduceMul, Int.reduceNeg, decide_true, decide_false, eq_self, Bool.true_or, Bool.or_true, Bool.or_false, Bool.false_or, Bool.not_true, Bool.not_false, sq_it, Int.cast_ofNat_Int, hz1 j _ hj, hs.jO (fun i hi => (hok i hi).1 j hj), q]) with ⟨q, e, he, a, b, rfl⟩ | ⟨q, he⟩
  · have z : decide (∀ j, j < w → sm (fun i => (h i).1 j * y i) n % N = 0) = true := decide_eq_true fun i hi => of_decide_eq_true (q i (by rw [rowI_len]; exact hi))
    by_cases q2 : sm (fun i => (h i).2 * y i) n % N = 0
    · simp -implicitDefEqProofs (disch := omega) only [d12, b12, runF, List.length_cons, List.length_nil, List.map_cons, List.map_nil, List.cons_append, List.nil_append, List.append_nil, List.replicate_succ, List.replicate_zero, Nat.reduceAdd, Nat.reduceSub, Nat.zero_add, Nat.reduceLT, Nat.reduceLeDiff, List.getElem?_cons_zero, List.getElem?_cons_succ, List.set_cons_zero, List.set_cons_succ, rdV, D.isMut, if_true, if_false, ite_true, ite_false, reduceCtorEq, true_or, or_true, and_self, or_false, false_or, Bool.false_eq_true, x_var, x_int, x_str, x_bl, x_non, x_bin, x_and, x_or, x_andN, x_orN, x_andC, x_orC, x_not, x_neg, x_ite, x_lst, x_tup, x_nil, x_cons, x_call, x_bi, x_slc, x_isi, x_oN, x_sNil, x_sCons, x_set, x_sIte, x_ret, x_retN, x_brk, x_cnt, x_pass, x_doc, j_bin, j_un, j_seq, j_seqR, j_seqB, j_seqC, j_iteT, j_iteF, j_iteCT, j_iteCF, j_andT, j_andF, j_orT, j_orF, j_bl, j_cons, j_bi, j_asB, j_stV, j_stO, j_ret, retE, j_sl, o_add, o_sub, o_mulL, o_mulR, o_div, o_mod, o_pow, o_lt, o_le, o_gt, o_ge, o_eq, o_ne, o_isB, b_int, b_intB, b_lenL, b_lenT, b_max, b_min, b_tupL, b_tupT, b_lstL, b_lstT, b_abs, Option.bind_some, Option.map_some, Option.bind_none, Option.map_none, x_lock, x_frz, x_for, x_mth, x_unp, x_setIx, x_comp, x_it, x_rng, x_enm, x_zip, j_lockV, j_lockB, j_lockO, j_frzO, j_frzV, j_frzB, j_own, j_itL, j_itT, j_enmL, j_enmT, safeI, safeS, t_nm, t_tup, t_tupL, t_nil, t_cons, f_nil, f_one, v_val, v_own, argM, j_lst2, j_tup2, vls_nil, vls_val, vls_own, lstO_s, tupO_s, turn_nx, turn_cnt, fin_r, fin_n, rowI_len, row_len, o_iL, o_iT, o_rL, o_t0, o_t1, o_l0, o_l1, o_l2, r_n, s_from, s_fromI, s_to, s_toI, x_oI, x_oB, x_oV, opt_int, o_addI, o_addR, o_in2, Int.toNat_natCast, Int.reduceToNat, Int.reduceEq, Int.reduceLT, Int.reduceLE, Int.reduceAdd, Int.reduceSub, Int.reduceMul, Int.reduceNeg, decide_true, decide_false, eq_self, Bool.true_or, Bool.or_true, Bool.or_false, Bool.false_or, Bool.not_true, Bool.not_false, sq_it, Int.cast_ofNat_Int, j_for he, hz2, hs.jO (fun i hi => (hok i hi).2), barsB, z, q2, Bool.true_and]
    · simp -implicitDefEqProofs (disch := omega) only [d12, b12, runF, List.length_cons, List.length_nil, List.map_cons, List.map_nil, List.cons_append, List.nil_append, List.append_nil, List.replicate_succ, List.replicate_zero, Nat.reduceAdd, Nat.reduceSub, Nat.zero_add, Nat.reduceLT, Nat.reduceLeDiff, List.getElem?_cons_zero, List.getElem?_cons_succ, List.set_cons_zero, List.set_cons_succ, rdV, D.isMut, if_true, if_false, ite_true, ite_false, reduceCtorEq, true_or, or_true, and_self, or_false, false_or, Bool.false_eq_true, x_var, x_int, x_str, x_bl, x_non, x_bin, x_and, x_or, x_andN, x_orN, x_andC, x_orC, x_not, x_neg, x_ite, x_lst, x_tup, x_nil, x_cons, x_call, x_bi, x_slc, x_isi, x_oN, x_sNil, x_sCons, x_set, x_sIte, x_ret, x_retN, x_brk, x_cnt, x_pass, x_doc, j_bin, j_un, j_seq, j_seqR, j_seqB, j_seqC, j_iteT, j_iteF, j_iteCT, j_iteCF, j_andT, j_andF, j_orT, j_orF, j_bl, j_cons, j_bi, j_asB, j_stV, j_stO, j_ret, retE, j_sl, o_add, o_sub, o_mulL, o_mulR, o_div, o_mod, o_pow, o_lt, o_le, o_gt, o_ge, o_eq, o_ne, o_isB, b_int, b_intB, b_lenL, b_lenT, b_max, b_min, b_tupL, b_tupT, b_lstL, b_lstT, b_abs, Option.bind_some, Option.map_some, Option.bind_none, Option.map_none, x_lock, x_frz, x_for, x_mth, x_unp, x_setIx, x_comp, x_it, x_rng, x_enm, x_zip, j_lockV, j_lockB, j_lockO, j_frzO, j_frzV, j_frzB, j_own, j_itL, j_itT, j_enmL, j_enmT, safeI, safeS, t_nm, t_tup, t_tupL, t_nil, t_cons, f_nil, f_one, v_val, v_own, argM, j_lst2, j_tup2, vls_nil, vls_val, vls_own, lstO_s, tupO_s, turn_nx, turn_cnt, fin_r, fin_n, rowI_len, row_len, o_iL, o_iT, o_rL, o_t0, o_t1, o_l0, o_l1, o_l2, r_n, s_from, s_fromI, s_to, s_toI, x_oI, x_oB, x_oV, opt_int, o_addI, o_addR, o_in2, Int.toNat_natCast, Int.reduceToNat, Int.reduceEq, Int.reduceLT, Int.reduceLE, Int.reduceAdd, Int.reduceSub, Int.reduceMul, Int.reduceNeg, decide_true, decide_false, eq_self, Bool.true_or, Bool.or_true, Bool.or_false, Bool.false_or, Bool.not_true, Bool.not_false, sq_it, Int.cast_ofNat_Int, j_for he, hz2, hs.jO (fun i hi => (hok i hi).2), barsB, z, q2, Bool.true_and]
  · have z : decide (∀ j, j < w → sm (fun i => (h i).1 j * y i) n % N = 0) = false := decide_eq_false fun k => by
      obtain ⟨i, hi, ho⟩ := q
      rw [rowI_len] at hi
      exact of_decide_eq_false ho (k i hi)
    simp -implicitDefEqProofs (disch := omega) only [d12, b12, runF, List.length_cons, List.length_nil, List.map_cons, List.map_nil, List.cons_append, List.nil_append, List.append_nil, List.replicate_succ, List.replicate_zero, Nat.reduceAdd, Nat.reduceSub, Nat.zero_add, Nat.reduceLT, Nat.reduceLeDiff, List.getElem?_cons_zero, List.getElem?_cons_succ, List.set_cons_zero, List.set_cons_succ, rdV, D.isMut, if_true, if_false, ite_true, ite_false, reduceCtorEq, true_or, or_true, and_self, or_false, false_or, Bool.false_eq_true, x_var, x_int, x_str, x_bl, x_non, x_bin, x_and, x_or, x_andN, x_orN, x_andC, x_orC, x_not, x_neg, x_ite, x_lst, x_tup, x_nil, x_cons, x_call, x_bi, x_slc, x_isi, x_oN, x_sNil, x_sCons, x_set, x_sIte, x_ret, x_retN, x_brk, x_cnt, x_pass, x_doc, j_bin, j_un, j_seq, j_seqR, j_seqB, j_seqC, j_iteT, j_iteF, j_iteCT, j_iteCF, j_andT, j_andF, j_orT, j_orF, j_bl, j_cons, j_bi, j_asB, j_stV, j_stO, j_ret, retE, j_sl, o_add, o_sub, o_mulL, o_mulR, o_div, o_mod, o_pow, o_lt, o_le, o_gt, o_ge, o_eq, o_ne, o_isB, b_int, b_intB, b_lenL, b_lenT, b_max, b_min, b_tupL, b_tupT, b_lstL, b_lstT, b_abs, Option.bind_some, Option.map_some, Option.bind_none, Option.map_none, x_lock, x_frz, x_for, x_mth, x_unp, x_setIx, x_comp, x_it, x_rng, x_enm, x_zip, j_lockV, j_lockB, j_lockO, j_frzO, j_frzV, j_frzB, j_own, j_itL, j_itT, j_enmL, j_enmT, safeI, safeS, t_nm, t_tup, t_tupL, t_nil, t_cons, f_nil, f_one, v_val, v_own, argM, j_lst2, j_tup2, vls_nil, vls_val, vls_own, lstO_s, tupO_s, turn_nx, turn_cnt, fin_r, fin_n, rowI_len, row_len, o_iL, o_iT, o_rL, o_t0, o_t1, o_l0, o_l1, o_l2, r_n, s_from, s_fromI, s_to, s_toI, x_oI, x_oB, x_oV, opt_int, o_addI, o_addR, o_in2, Int.toNat_natCast, Int.reduceToNat, Int.reduceEq, Int.reduceLT, Int.reduceLE, Int.reduceAdd, Int.reduceSub, Int.reduceMul, Int.reduceNeg, decide_true, decide_false, eq_self, Bool.true_or, Bool.or_true, Bool.or_false, Bool.false_or, Bool.not_true, Bool.not_false, sq_it, Int.cast_ofNat_Int, j_forR he, barsB, z, Bool.false_and]
theorem passed_ok (hw : w ≤ 40) (hn3 : n ≤ 3000) (h0 : 0 ≤ v) :
    runF cf gl fu d13 [(.val, .lst (row n fun i => encR true w (h i))), (.val, .int v)] = some (.val, sq (decide (¬ v % 2 = 1)) (row n fun i => encR (decide (¬ 2 ≤ v)) w (h i))) := by
  obtain ⟨e, he, a, rfl⟩ := loop_to (g := setT (.nm 3)) (b := evS cf gl fu b13_1) (fun i e => ∃ (a : Option My.C),
      e = [some (.val, .lst (row n fun i => encR true w (h i))), some (.val, .int v), some (.own, .lst (row i fun k => encR (decide (¬ 2 ≤ v)) w (h k))), a])
    (ds := row n fun i => encR true w (h i)) (env := [some (.val, .lst (row n fun i => encR true w (h i))), some (.val, .int v), some (.own, .lst []), none]) ⟨none, rfl⟩ (by
      rintro i dd e hd0 _ ⟨a, rfl⟩
      obtain ⟨hi, rfl⟩ := row_some hd0
      have up : ∀ t, (row (i + 1) fun k => encR t w (upd h i ((h i).1, (h i).2) k)) = row (i + 1) fun k => encR t w (h k) := fun t => row_congr fun k hk => by
        by_cases q : k = i
        · subst q; rw [upd_eq]
        · rw [upd_ne q]
      refine ⟨_, ?_, some (.val, encR true w (h i)), rfl⟩
      by_cases q : 2 ≤ v
      · simp -implicitDefEqProofs (disch := omega) only [b13_1, runF, List.length_cons, List.length_nil, List.map_cons, List.map_nil, List.cons_append, List.nil_append, List.append_nil, List.replicate_succ, List.replicate_zero, Nat.reduceAdd, Nat.reduceSub, Nat.zero_add, Nat.reduceLT, Nat.reduceLeDiff, List.getElem?_cons_zero, List.getElem?_cons_succ, List.set_cons_zero, List.set_cons_succ, rdV, D.isMut, if_true, if_false, ite_true, ite_false, reduceCtorEq, true_or, or_true, and_self, or_false, false_or, Bool.false_eq_true, x_var, x_int, x_str, x_bl, x_non, x_bin, x_and, x_or, x_andN, x_orN, x_andC, x_orC, x_not, x_neg, x_ite, x_lst, x_tup, x_nil, x_cons, x_call, x_bi, x_slc, x_isi, x_oN, x_sNil, x_sCons, x_set, x_sIte, x_ret, x_retN, x_brk, x_cnt, x_pass, x_doc, j_bin, j_un, j_seq, j_seqR, j_seqB, j_seqC, j_iteT, j_iteF, j_iteCT, j_iteCF, j_andT, j_andF, j_orT, j_orF, j_bl, j_cons, j_bi, j_asB, j_stV, j_stO, j_ret, retE, j_sl, o_add, o_sub, o_mulL, o_mulR, o_div, o_mod, o_pow, o_lt, o_le, o_gt, o_ge, o_eq, o_ne, o_isB, b_int, b_intB, b_lenL, b_lenT, b_max, b_min, b_tupL, b_tupT, b_lstL, b_lstT, b_abs, Option.bind_some, Option.map_some, Option.bind_none, Option.map_none, x_lock, x_frz, x_for, x_mth, x_unp, x_setIx, x_comp, x_it, x_rng, x_enm, x_zip, j_lockV, j_lockB, j_lockO, j_frzO, j_frzV, j_frzB, j_own, j_itL, j_itT, j_enmL, j_enmT, safeI, safeS, t_nm, t_tup, t_tupL, t_nil, t_cons, f_nil, f_one, v_val, v_own, argM, j_lst2, j_tup2, vls_nil, vls_val, vls_own, lstO_s, tupO_s, turn_nx, turn_cnt, fin_r, fin_n, rowI_len, row_len, o_iL, o_iT, o_rL, o_t0, o_t1, o_l0, o_l1, o_l2, r_n, s_from, s_fromI, s_to, s_toI, x_oI, x_oB, x_oV, opt_int, o_addI, o_addR, o_in2, Int.toNat_natCast, Int.reduceToNat, Int.reduceEq, Int.reduceLT, Int.reduceLE, Int.reduceAdd, Int.reduceSub, Int.reduceMul, Int.reduceNeg, decide_true, decide_false, eq_self, Bool.true_or, Bool.or_true, Bool.or_false, Bool.false_or, Bool.not_true, Bool.not_false, sq_it, Int.cast_ofNat_Int, o_e0, o_e1, q, not_true, not_false_iff, j_appF, up]
      · simp -implicitDefEqProofs (disch := omega) only [b13_1, runF, List.length_cons, List.length_nil, List.map_cons, List.map_nil, List.cons_append, List.nil_append, List.append_nil, List.replicate_succ, List.replicate_zero, Nat.reduceAdd, Nat.reduceSub, Nat.zero_add, Nat.reduceLT, Nat.reduceLeDiff, List.getElem?_cons_zero, List.getElem?_cons_succ, List.set_cons_zero, List.set_cons_succ, rdV, D.isMut, if_true, if_false, ite_true, ite_false, reduceCtorEq, true_or, or_true, and_self, or_false, false_or, Bool.false_eq_true, x_var, x_int, x_str, x_bl, x_non, x_bin, x_and, x_or, x_andN, x_orN, x_andC, x_orC, x_not, x_neg, x_ite, x_lst, x_tup, x_nil, x_cons, x_call, x_bi, x_slc, x_isi, x_oN, x_sNil, x_sCons, x_set, x_sIte, x_ret, x_retN, x_brk, x_cnt, x_pass, x_doc, j_bin, j_un, j_seq, j_seqR, j_seqB, j_seqC, j_iteT, j_iteF, j_iteCT, j_iteCF, j_andT, j_andF, j_orT, j_orF, j_bl, j_cons, j_bi, j_asB, j_stV, j_stO, j_ret, retE, j_sl, o_add, o_sub, o_mulL, o_mulR, o_div, o_mod, o_pow, o_lt, o_le, o_gt, o_ge, o_eq, o_ne, o_isB, b_int, b_intB, b_lenL, b_lenT, b_max, b_min, b_tupL, b_tupT, b_lstL, b_lstT, b_abs, Option.bind_some, Option.map_some, Option.bind_none, Option.map_none, x_lock, x_frz, x_for, x_mth, x_unp, x_setIx, x_comp, x_it, x_rng, x_enm, x_zip, j_lockV, j_lockB, j_lockO, j_frzO, j_frzV, j_frzB, j_own, j_itL, j_itT, j_enmL, j_enmT, safeI, safeS, t_nm, t_tup, t_tupL, t_nil, t_cons, f_nil, f_one, v_val, v_own, argM, j_lst2, j_tup2, vls_nil, vls_val, vls_own, lstO_s, tupO_s, turn_nx, turn_cnt, fin_r, fin_n, rowI_len, row_len, o_iL, o_iT, o_rL, o_t0, o_t1, o_l0, o_l1, o_l2, r_n, s_from, s_fromI, s_to, s_toI, x_oI, x_oB, x_oV, opt_int, o_addI, o_addR, o_in2, Int.toNat_natCast, Int.reduceToNat, Int.reduceEq, Int.reduceLT, Int.reduceLE, Int.reduceAdd, Int.reduceSub, Int.reduceMul, Int.reduceNeg, decide_true, decide_false, eq_self, Bool.true_or, Bool.or_true, Bool.or_false, Bool.false_or, Bool.not_true, Bool.not_false, sq_it, Int.cast_ofNat_Int, o_e0, o_e1, q, not_true, not_false_iff, j_appE, up])
  rw [row_len] at he
  by_cases q : v % 2 = 1
  · simp -implicitDefEqProofs (disch := omega) only [d13, b13, runF, List.length_cons, List.length_nil, List.map_cons, List.map_nil, List.cons_append, List.nil_append, List.append_nil, List.replicate_succ, List.replicate_zero, Nat.reduceAdd, Nat.reduceSub, Nat.zero_add, Nat.reduceLT, Nat.reduceLeDiff, List.getElem?_cons_zero, List.getElem?_cons_succ, List.set_cons_zero, List.set_cons_succ, rdV, D.isMut, if_true, if_false, ite_true, ite_false, reduceCtorEq, true_or, or_true, and_self, or_false, false_or, Bool.false_eq_true, x_var, x_int, x_str, x_bl, x_non, x_bin, x_and, x_or, x_andN, x_orN, x_andC, x_orC, x_not, x_neg, x_ite, x_lst, x_tup, x_nil, x_cons, x_call, x_bi, x_slc, x_isi, x_oN, x_sNil, x_sCons, x_set, x_sIte, x_ret, x_retN, x_brk, x_cnt, x_pass, x_doc, j_bin, j_un, j_seq, j_seqR, j_seqB, j_seqC, j_iteT, j_iteF, j_iteCT, j_iteCF, j_andT, j_andF, j_orT, j_orF, j_bl, j_cons, j_bi, j_asB, j_stV, j_stO, j_ret, retE, j_sl, o_add, o_sub, o_mulL, o_mulR, o_div, o_mod, o_pow, o_lt, o_le, o_gt, o_ge, o_eq, o_ne, o_isB, b_int, b_intB, b_lenL, b_lenT, b_max, b_min, b_tupL, b_tupT, b_lstL, b_lstT, b_abs, Option.bind_some, Option.map_some, Option.bind_none, Option.map_none, x_lock, x_frz, x_for, x_mth, x_unp, x_setIx, x_comp, x_it, x_rng, x_enm, x_zip, j_lockV, j_lockB, j_lockO, j_frzO, j_frzV, j_frzB, j_own, j_itL, j_itT, j_enmL, j_enmT, safeI, safeS, t_nm, t_tup, t_tupL, t_nil, t_cons, f_nil, f_one, v_val, v_own, argM, j_lst2, j_tup2, vls_nil, vls_val, vls_own, lstO_s, tupO_s, turn_nx, turn_cnt, fin_r, fin_n, rowI_len, row_len, o_iL, o_iT, o_rL, o_t0, o_t1, o_l0, o_l1, o_l2, r_n, s_from, s_fromI, s_to, s_toI, x_oI, x_oB, x_oV, opt_int, o_addI, o_addR, o_in2, Int.toNat_natCast, Int.reduceToNat, Int.reduceEq, Int.reduceLT, Int.reduceLE, Int.reduceAdd, Int.reduceSub, Int.reduceMul, Int.reduceNeg, decide_true, decide_false, eq_self, Bool.true_or, Bool.or_true, Bool.or_false, Bool.false_or, Bool.not_true, Bool.not_false, sq_it, Int.cast_ofNat_Int, j_for he, q, not_true]
    rfl
  · simp -implicitDefEqProofs (disch := omega) only [d13, b13, runF, List.length_cons, List.length_nil, List.map_cons, List.map_nil, List.cons_append, List.nil_append, List.append_nil, List.replicate_succ, List.replicate_zero, Nat.reduceAdd, Nat.reduceSub, Nat.zero_add, Nat.reduceLT, Nat.reduceLeDiff, List.getElem?_cons_zero, List.getElem?_cons_succ, List.set_cons_zero, List.set_cons_succ, rdV, D.isMut, if_true, if_false, ite_true, ite_false, reduceCtorEq, true_or, or_true, and_self, or_false, false_or, Bool.false_eq_true, x_var, x_int, x_str, x_bl, x_non, x_bin, x_and, x_or, x_andN, x_orN, x_andC, x_orC, x_not, x_neg, x_ite, x_lst, x_tup, x_nil, x_cons, x_call, x_bi, x_slc, x_isi, x_oN, x_sNil, x_sCons, x_set, x_sIte, x_ret, x_retN, x_brk, x_cnt, x_pass, x_doc, j_bin, j_un, j_seq, j_seqR, j_seqB, j_seqC, j_iteT, j_iteF, j_iteCT, j_iteCF, j_andT, j_andF, j_orT, j_orF, j_bl, j_cons, j_bi, j_asB, j_stV, j_stO, j_ret, retE, j_sl, o_add, o_sub, o_mulL, o_mulR, o_div, o_mod, o_pow, o_lt, o_le, o_gt, o_ge, o_eq, o_ne, o_isB, b_int, b_intB, b_lenL, b_lenT, b_max, b_min, b_tupL, b_tupT, b_lstL, b_lstT, b_abs, Option.bind_some, Option.map_some, Option.bind_none, Option.map_none, x_lock, x_frz, x_for, x_mth, x_unp, x_setIx, x_comp, x_it, x_rng, x_enm, x_zip, j_lockV, j_lockB, j_lockO, j_frzO, j_frzV, j_frzB, j_own, j_itL, j_itT, j_enmL, j_enmT, safeI, safeS, t_nm, t_tup, t_tupL, t_nil, t_cons, f_nil, f_one, v_val, v_own, argM, j_lst2, j_tup2, vls_nil, vls_val, vls_own, lstO_s, tupO_s, turn_nx, turn_cnt, fin_r, fin_n, rowI_len, row_len, o_iL, o_iT, o_rL, o_t0, o_t1, o_l0, o_l1, o_l2, r_n, s_from, s_fromI, s_to, s_toI, x_oI, x_oB, x_oV, opt_int, o_addI, o_addR, o_in2, Int.toNat_natCast, Int.reduceToNat, Int.reduceEq, Int.reduceLT, Int.reduceLE, Int.reduceAdd, Int.reduceSub, Int.reduceMul, Int.reduceNeg, decide_true, decide_false, eq_self, Bool.true_or, Bool.or_true, Bool.or_false, Bool.false_or, Bool.not_true, Bool.not_false, sq_it, Int.cast_ofNat_Int, j_for he, q, not_false_iff]
    rfl
end
end My
end

section
set_option Elab.async false
set_option linter.all false
set_option maxRecDepth 100000
set_option maxHeartbeats 2000000
namespace My
open PySem
/-! == of a plain thing with itself -/
mutual
theorem eqv_refl : ∀ p : PyData, p.canLay0 = true → PyData.eqv p p = true
  | .none, _ => by simp [PyData.eqv]
  | .bool _, _ => by simp [PyData.eqv]
  | .int _, _ => by simp [PyData.eqv]
  | .str _, _ => by simp [PyData.eqv]
  | .list xs, h => by
    have h' : PyData.canLayAll0 xs = true := by simpa [PyData.canLay0] using h
    simpa [PyData.eqv] using eqvAll_refl xs h'
  | .tuple xs, h => by
    have h' : PyData.canLayAll0 xs = true := by simpa [PyData.canLay0] using h
    simpa [PyData.eqv] using eqvAll_refl xs h'
  | .dict _, h => by simp [PyData.canLay0] at h
theorem eqvAll_refl : ∀ ps : List PyData, PyData.canLayAll0 ps = true → PyData.eqvAll ps ps = true
  | [], _ => by simp [PyData.eqvAll]
  | p :: ps, h => by
    have h' : p.canLay0 = true ∧ PyData.canLayAll0 ps = true := by simpa [PyData.canLayAll0] using h
    simp [PyData.eqvAll, eqv_refl p h'.1, eqvAll_refl ps h'.2]
end
/-- plain, of bounded depth -/
def Pl (k : Nat) (d : D) : Prop := ∃ p, D.py d = some p ∧ p.canLay0 = true ∧ p.depth ≤ k
theorem pl_int {i : Int} {k : Nat} : Pl k (.int i) := ⟨.int i, rfl, by simp [PyData.canLay0], by simp [PyData.depth]⟩
theorem pl_list {k : Nat} : ∀ {l : List D}, (∀ d ∈ l, Pl k d) → ∃ ps, D.pyL l = some ps ∧ PyData.canLayAll0 ps = true ∧ PyData.depthAll ps ≤ k
  | [], _ => ⟨[], rfl, by simp [PyData.canLayAll0], by simp [PyData.depthAll]⟩
  | d :: l, h => by
    obtain ⟨p, h1, h2, h3⟩ := h d (by simp)
    obtain ⟨ps, h4, h5, h6⟩ := pl_list fun x hx => h x (List.mem_cons_of_mem _ hx)
    exact ⟨p :: ps, by rw [D.pyL, h1, Option.bind_some, h4]; rfl, by simp [PyData.canLayAll0, h2, h5], by simp only [PyData.depthAll]; omega⟩
theorem pl_lst {k : Nat} {l : List D} (h : ∀ d ∈ l, Pl k d) : Pl (k + 1) (.lst l) := by
  obtain ⟨ps, h1, h2, h3⟩ := pl_list h
  exact ⟨.list ps, by rw [D.py, h1]; rfl, by simp [PyData.canLay0, h2], by simp only [PyData.depth]; omega⟩
theorem pl_tup {k : Nat} {l : List D} (h : ∀ d ∈ l, Pl k d) : Pl (k + 1) (.tup l) := by
  obtain ⟨ps, h1, h2, h3⟩ := pl_list h
  exact ⟨.tuple ps, by rw [D.py, h1]; rfl, by simp [PyData.canLay0, h2], by simp only [PyData.depth]; omega⟩
theorem pl_sq {t : Bool} {k : Nat} {l : List D} (h : ∀ d ∈ l, Pl k d) : Pl (k + 1) (sq t l) := by
  cases t
  · exact pl_lst h
  · exact pl_tup h
theorem mem_row {n : Nat} {f : Nat → D} {d : D} (h : d ∈ row n f) : ∃ i, i < n ∧ d = f i := by
  unfold row at h
  obtain ⟨i, hi, rfl⟩ := List.mem_map.mp h
  exact ⟨i, by simpa using hi, rfl⟩
theorem pl_row {t : Bool} {k n : Nat} {f : Nat → D} (h : ∀ i, i < n → Pl k (f i)) : Pl (k + 1) (sq t (row n f)) := pl_sq fun d hd => by
  obtain ⟨i, hi, rfl⟩ := mem_row hd
  exact h i hi
theorem pl_rowI {t : Bool} {n : Nat} {f : Nat → Int} : Pl 1 (sq t (rowI n f)) := pl_row fun i _ => pl_int
theorem pl_enc {t : Bool} {w : Nat} {r : Rw} : Pl 2 (encR t w r) := pl_sq fun d hd => by
  simp only [List.mem_cons, List.not_mem_nil, or_false] at hd
  rcases hd with rfl | rfl
  · exact pl_rowI
  · exact pl_int
theorem eqD_self {d : D} {k : Nat} (h : Pl k d) (hk : k ≤ 64) : eqD d d = some true := by
  obtain ⟨p, h1, h2, h3⟩ := h
  have hs : SeqAt.shaped p = true := by
    unfold SeqAt.shaped
    rw [h2, decide_eq_true (by omega : p.depth ≤ 64)]
    rfl
  simp only [eqD, h1, Option.bind_some, hs, Bool.and_self, if_true, eqv_refl p h2]
theorem ne_self {d : D} {k : Nat} (h : Pl k d) (hk : k ≤ 64) : op2 .ne d d = some (.val, .bl false) := by
  simp only [op2, eqD_self h hk, Option.map_some, Bool.not_true]
/-! frozen -/
section
variable {gl : Nat → Option D} {fu k : Nat}
theorem fr0 {i : Int} : callF tab gl fu (k + 1) 0 [(.val, .int i)] = some (.val, .int i) := frozen_int (callF tab gl fu k) gl fu i
theorem fr1 {t : Bool} {n : Nat} {f : Nat → Int} (hn : n ≤ 16777216) : callF tab gl fu (k + 2) 0 [(.val, sq t (rowI n f))] = some (.val, .tup (rowI n f)) :=
  frozen_row (callF tab gl fu (k + 1)) gl fu (g := fun i => .int (f i)) hn fun i _ => fr0
theorem fr2 {t : Bool} {w : Nat} {r : Rw} (hn : w ≤ 16777216) : callF tab gl fu (k + 3) 0 [(.val, encR t w r)] = some (.val, encR true w r) :=
  frozen_row (callF tab gl fu (k + 2)) gl fu (n := 2) (f := fun i => if i = 0 then sq t (rowI w r.1) else .int r.2) (g := fun i => if i = 0 then .tup (rowI w r.1) else .int r.2) (by omega) fun i _ => by
    by_cases q : i = 0
    · rw [if_pos q, if_pos q]; exact fr1 hn
    · rw [if_neg q, if_neg q]; exact fr0
end
def Frz (cf : CF) : Prop := ∀ (o t : Bool) (n w : Nat) (h : Nat → Rw), n ≤ 3000 → w ≤ 40 → cf 0 [(.val, sq o (row n fun i => encR t w (h i)))] = some (.val, sq true (row n fun i => encR true w (h i)))
theorem frz_c {gl : Nat → Option D} {fu k : Nat} : Frz (callF tab gl fu (k + 4)) := fun o t n w h hn hw =>
  frozen_row (callF tab gl fu (k + 3)) gl fu (g := fun i => encR true w (h i)) (by omega) fun i _ => fr2 (by omega)
def solB (n w : Nat) (h : Nat → Rw) (x : Nat → Int) (N : Int) : Bool := decide (∀ i, i < n → (sm (fun j => (h i).1 j * x j) w - (h i).2) % N = 0)
def Sol1 (cf : CF) : Prop := ∀ (o t u : Bool) (n w : Nat) (h : Nat → Rw) (x : Nat → Int) (N : Int), 0 < N → n ≤ 3000 → w ≤ 40 → (∀ i, i < n → okR w (h i)) → cf 1 [(.val, sq o (row n fun i => encR t w (h i))), (.val, .int N), (.val, sq u (rowI w x))] = some (.val, .bl (solB n w h x N))
def Wei2 (cf : CF) : Prop := ∀ (o t u : Bool) (n w : Nat) (h : Nat → Rw) (y : Nat → Int) (N : Int), 0 < N → n ≤ 3000 → w ≤ 40 → (∀ i, i < n → okR w (h i)) → cf 2 [(.val, sq o (row n fun i => encR t w (h i))), (.val, .int N), (.val, sq u (rowI n y))] = some (.val, .bl (barsB n w (fun i j => (h i).1 j) (fun i => (h i).2) y N))
section
variable {cf : CF} {gl : Nat → Option D} {fu n w : Nat} {N v : Int} {h : Nat → Rw} {x y : Nat → Int} {o t u : Bool}
theorem big {w : Nat} {r : Rw} (h : okR w r) {j : Nat} (hj : j < w) : -18446744073709551616 < r.1 j ∧ r.1 j < 18446744073709551616 := by
  obtain ⟨_, _⟩ := h.1 j hj
  exact ⟨by omega, by omega⟩
theorem big2 {w : Nat} {r : Rw} (h : okR w r) : -18446744073709551616 < r.2 ∧ r.2 < 18446744073709551616 := by
  obtain ⟨_, _⟩ := h.2
  exact ⟨by omega, by omega⟩
theorem sol1_c (h0 : 0 < N) (hn : n ≤ 3000) (hw : w ≤ 40) (hok : ∀ i, i < n → okR w (h i)) : runF cf gl fu d1 [(.val, sq o (row n fun i => encR t w (h i))), (.val, .int N), (.val, sq u (rowI w x))] = some (.val, .bl (solB n w h x N)) :=
  solution_ok cf gl fu (o := o) (t := t) (u := u) (C := fun i => (h i).1) (B := fun i => (h i).2) h0 (by omega) fun i j hi hj => big (hok i hi) hj
theorem wei2_c (hf : Frz cf) (h0 : 0 < N) (hn : n ≤ 3000) (hw : w ≤ 40) (hok : ∀ i, i < n → okR w (h i)) : runF cf gl fu d2 [(.val, sq o (row n fun i => encR t w (h i))), (.val, .int N), (.val, sq u (rowI n y))] = some (.val, .bl (barsB n w (fun i j => (h i).1 j) (fun i => (h i).2) y N)) :=
  weights_ok cf gl fu (u := u) (C := fun i => (h i).1) (B := fun i => (h i).2) h0 (by omega) (by omega) (fun i j hi hj => big (hok i hi) hj) (fun i hi => big2 (hok i hi)) (hf o t n w h hn hw)
def Sol11 (cf : CF) : Prop := ∀ (n w : Nat) (h : Nat → Rw) (x : Nat → Int) (N : Int), w ≤ 40 → n ≤ 3000 → 0 < N → (∀ i, i < n → okR w (h i)) → cf 11 [(.val, .lst (row n fun i => encR true w (h i))), (.val, .int N), (.val, .lst (rowI w x))] = some (.val, .bl (solB n w h x N))
def Bar12 (cf : CF) : Prop := ∀ (n w : Nat) (h : Nat → Rw) (y : Nat → Int) (N : Int), w ≤ 40 → n ≤ 3000 → 0 < N → (∀ i, i < n → okR w (h i)) → cf 12 [(.val, .lst (row n fun i => encR true w (h i))), (.val, .int N), (.val, .int (w : Int)), (.val, .lst (rowI n y))] = some (.val, .bl (barsB n w (fun i j => (h i).1 j) (fun i => (h i).2) y N))
def Pas13 (cf : CF) : Prop := ∀ (n w : Nat) (h : Nat → Rw) (v : Int), w ≤ 40 → n ≤ 3000 → 0 ≤ v → cf 13 [(.val, .lst (row n fun i => encR true w (h i))), (.val, .int v)] = some (.val, sq (decide (¬ v % 2 = 1)) (row n fun i => encR (decide (¬ 2 ≤ v)) w (h i)))
/-- _law_solution -/
theorem sol19_c (h1 : Sol1 cf) (h11 : Sol11 cf) (h13 : Pas13 cf) (hw : w ≤ 40) (hn : n ≤ 3000) (h0 : 0 < N) (hv : 0 ≤ v) (hok : ∀ i, i < n → okR w (h i)) :
    runF cf gl fu d19 [(.val, .lst (row n fun i => encR true w (h i))), (.val, .int N), (.val, .lst (rowI w x)), (.val, .int v)] = some (.val, .bl true) := by
  have k11 : callO (cf 11) (some [(.val, .lst (row n fun i => encR true w (h i))), (.val, .int N), (.val, .lst (rowI w x))]) = some (.val, .bl (solB n w h x N)) := j_call (h11 n w h x N hw hn h0 hok) (.inl rfl)
  have k13 : callO (cf 13) (some [(.val, .lst (row n fun i => encR true w (h i))), (.val, .int v)]) = _ := j_call (h13 n w h v hw hn hv) (.inl rfl)
  have k1 : callO (cf 1) (some [(.val, sq (decide (¬ v % 2 = 1)) (row n fun i => encR (decide (¬ 2 ≤ v)) w (h i))), (.val, .int N), (.val, .lst (rowI w x))]) = some (.val, .bl (solB n w h x N)) := j_call (h1 _ _ false n w h x N h0 hn hw hok) (.inl rfl)
  have k1' : callO (cf 1) (some [(.val, sq (decide (¬ v % 2 = 1)) (row n fun i => encR (decide (¬ 2 ≤ v)) w (h i))), (.val, .int N), (.val, .tup (rowI w x))]) = some (.val, .bl (solB n w h x N)) := j_call (h1 _ _ true n w h x N h0 hn hw hok) (.inl rfl)
  have e1 : op2 .ne (sq (decide (¬ v % 2 = 1)) (row n fun i => encR (decide (¬ 2 ≤ v)) w (h i))) (sq (decide (¬ v % 2 = 1)) (row n fun i => encR (decide (¬ 2 ≤ v)) w (h i))) = some (.val, .bl false) := ne_self (pl_row fun i _ => pl_enc) (by omega)
  have e2 : op2 .ne (.lst (rowI w x)) (.lst (rowI w x)) = some (.val, .bl false) := ne_self (pl_rowI (t := false)) (by omega)
  generalize sq (decide (¬ v % 2 = 1)) (row n fun i => encR (decide (¬ 2 ≤ v)) w (h i)) = dp at *
  have hm : ∀ m : M, rdV (some (some (.val, dp))) = some (.val, dp) := fun _ => rfl
  generalize solB n w h x N = b at *
  by_cases q : v % 2 = 0
  · cases b <;> simp -implicitDefEqProofs (disch := omega) only [d19, b19, runF, List.length_cons, List.length_nil, List.map_cons, List.map_nil, List.cons_append, List.nil_append, List.append_nil, List.replicate_succ, List.replicate_zero, Nat.reduceAdd, Nat.reduceSub, Nat.zero_add, Nat.reduceLT, Nat.reduceLeDiff, List.getElem?_cons_zero, List.getElem?_cons_succ, List.set_cons_zero, List.set_cons_succ, rdV, D.isMut, if_true, if_false, ite_true, ite_false, reduceCtorEq, true_or, or_true, and_self, or_false, false_or, Bool.false_eq_true, x_var, x_int, x_str, x_bl, x_non, x_bin, x_and, x_or, x_andN, x_orN, x_andC, x_orC, x_not, x_neg, x_ite, x_lst, x_tup, x_nil, x_cons, x_call, x_bi, x_slc, x_isi, x_oN, x_sNil, x_sCons, x_set, x_sIte, x_ret, x_retN, x_brk, x_cnt, x_pass, x_doc, j_bin, j_un, j_seq, j_seqR, j_seqB, j_seqC, j_iteT, j_iteF, j_iteCT, j_iteCF, j_andT, j_andF, j_orT, j_orF, j_bl, j_cons, j_bi, j_asB, j_stV, j_stO, j_ret, retE, j_sl, o_add, o_sub, o_mulL, o_mulR, o_div, o_mod, o_pow, o_lt, o_le, o_gt, o_ge, o_eq, o_ne, o_isB, b_int, b_intB, b_lenL, b_lenT, b_max, b_min, b_tupL, b_tupT, b_lstL, b_lstT, b_abs, Option.bind_some, Option.map_some, Option.bind_none, Option.map_none, x_lock, x_frz, x_for, x_mth, x_unp, x_setIx, x_comp, x_it, x_rng, x_enm, x_zip, j_lockV, j_lockB, j_lockO, j_frzO, j_frzV, j_frzB, j_own, j_itL, j_itT, j_enmL, j_enmT, safeI, safeS, t_nm, t_tup, t_tupL, t_nil, t_cons, f_nil, f_one, v_val, v_own, argM, j_lst2, j_tup2, vls_nil, vls_val, vls_own, lstO_s, tupO_s, turn_nx, turn_cnt, fin_r, fin_n, rowI_len, row_len, o_iL, o_iT, o_rL, o_t0, o_t1, o_l0, o_l1, o_l2, r_n, s_from, s_fromI, s_to, s_toI, x_oI, x_oB, x_oV, opt_int, o_addI, o_addR, o_in2, Int.toNat_natCast, Int.reduceToNat, Int.reduceEq, Int.reduceLT, Int.reduceLE, Int.reduceAdd, Int.reduceSub, Int.reduceMul, Int.reduceNeg, decide_true, decide_false, eq_self, Bool.true_or, Bool.or_true, Bool.or_false, Bool.false_or, Bool.not_true, Bool.not_false, sq_it, Int.cast_ofNat_Int, k11, k13, k1, e1, e2, q, beq_self_eq_true]
  · cases b <;> simp -implicitDefEqProofs (disch := omega) only [d19, b19, runF, List.length_cons, List.length_nil, List.map_cons, List.map_nil, List.cons_append, List.nil_append, List.append_nil, List.replicate_succ, List.replicate_zero, Nat.reduceAdd, Nat.reduceSub, Nat.zero_add, Nat.reduceLT, Nat.reduceLeDiff, List.getElem?_cons_zero, List.getElem?_cons_succ, List.set_cons_zero, List.set_cons_succ, rdV, D.isMut, if_true, if_false, ite_true, ite_false, reduceCtorEq, true_or, or_true, and_self, or_false, false_or, Bool.false_eq_true, x_var, x_int, x_str, x_bl, x_non, x_bin, x_and, x_or, x_andN, x_orN, x_andC, x_orC, x_not, x_neg, x_ite, x_lst, x_tup, x_nil, x_cons, x_call, x_bi, x_slc, x_isi, x_oN, x_sNil, x_sCons, x_set, x_sIte, x_ret, x_retN, x_brk, x_cnt, x_pass, x_doc, j_bin, j_un, j_seq, j_seqR, j_seqB, j_seqC, j_iteT, j_iteF, j_iteCT, j_iteCF, j_andT, j_andF, j_orT, j_orF, j_bl, j_cons, j_bi, j_asB, j_stV, j_stO, j_ret, retE, j_sl, o_add, o_sub, o_mulL, o_mulR, o_div, o_mod, o_pow, o_lt, o_le, o_gt, o_ge, o_eq, o_ne, o_isB, b_int, b_intB, b_lenL, b_lenT, b_max, b_min, b_tupL, b_tupT, b_lstL, b_lstT, b_abs, Option.bind_some, Option.map_some, Option.bind_none, Option.map_none, x_lock, x_frz, x_for, x_mth, x_unp, x_setIx, x_comp, x_it, x_rng, x_enm, x_zip, j_lockV, j_lockB, j_lockO, j_frzO, j_frzV, j_frzB, j_own, j_itL, j_itT, j_enmL, j_enmT, safeI, safeS, t_nm, t_tup, t_tupL, t_nil, t_cons, f_nil, f_one, v_val, v_own, argM, j_lst2, j_tup2, vls_nil, vls_val, vls_own, lstO_s, tupO_s, turn_nx, turn_cnt, fin_r, fin_n, rowI_len, row_len, o_iL, o_iT, o_rL, o_t0, o_t1, o_l0, o_l1, o_l2, r_n, s_from, s_fromI, s_to, s_toI, x_oI, x_oB, x_oV, opt_int, o_addI, o_addR, o_in2, Int.toNat_natCast, Int.reduceToNat, Int.reduceEq, Int.reduceLT, Int.reduceLE, Int.reduceAdd, Int.reduceSub, Int.reduceMul, Int.reduceNeg, decide_true, decide_false, eq_self, Bool.true_or, Bool.or_true, Bool.or_false, Bool.false_or, Bool.not_true, Bool.not_false, sq_it, Int.cast_ofNat_Int, k11, k13, k1', e1, e2, q, beq_self_eq_true]
/-- _law_weights -/
theorem wei20_c (h2 : Wei2 cf) (h12 : Bar12 cf) (h13 : Pas13 cf) (hw : w ≤ 40) (hn : n ≤ 3000) (h0 : 0 < N) (hv : 0 ≤ v) (hok : ∀ i, i < n → okR w (h i)) :
    runF cf gl fu d20 [(.val, .lst (row n fun i => encR true w (h i))), (.val, .int N), (.val, .int (w : Int)), (.val, .lst (rowI n y)), (.val, .int v)] = some (.val, .bl true) := by
  have k12 : callO (cf 12) (some [(.val, .lst (row n fun i => encR true w (h i))), (.val, .int N), (.val, .int (w : Int)), (.val, .lst (rowI n y))]) = some (.val, .bl (barsB n w (fun i j => (h i).1 j) (fun i => (h i).2) y N)) := j_call (h12 n w h y N hw hn h0 hok) (.inl rfl)
  have k13 : callO (cf 13) (some [(.val, .lst (row n fun i => encR true w (h i))), (.val, .int v)]) = _ := j_call (h13 n w h v hw hn hv) (.inl rfl)
  have k2 : callO (cf 2) (some [(.val, sq (decide (¬ v % 2 = 1)) (row n fun i => encR (decide (¬ 2 ≤ v)) w (h i))), (.val, .int N), (.val, .lst (rowI n y))]) = some (.val, .bl (barsB n w (fun i j => (h i).1 j) (fun i => (h i).2) y N)) := j_call (h2 _ _ false n w h y N h0 hn hw hok) (.inl rfl)
  have k2' : callO (cf 2) (some [(.val, sq (decide (¬ v % 2 = 1)) (row n fun i => encR (decide (¬ 2 ≤ v)) w (h i))), (.val, .int N), (.val, .tup (rowI n y))]) = some (.val, .bl (barsB n w (fun i j => (h i).1 j) (fun i => (h i).2) y N)) := j_call (h2 _ _ true n w h y N h0 hn hw hok) (.inl rfl)
  have e1 : op2 .ne (sq (decide (¬ v % 2 = 1)) (row n fun i => encR (decide (¬ 2 ≤ v)) w (h i))) (sq (decide (¬ v % 2 = 1)) (row n fun i => encR (decide (¬ 2 ≤ v)) w (h i))) = some (.val, .bl false) := ne_self (pl_row fun i _ => pl_enc) (by omega)
  have e2 : op2 .ne (.lst (rowI n y)) (.lst (rowI n y)) = some (.val, .bl false) := ne_self (pl_rowI (t := false)) (by omega)
  generalize sq (decide (¬ v % 2 = 1)) (row n fun i => encR (decide (¬ 2 ≤ v)) w (h i)) = dp at *
  generalize barsB n w (fun i j => (h i).1 j) (fun i => (h i).2) y N = b at *
  by_cases q : v % 2 = 0
  · cases b <;> simp -implicitDefEqProofs (disch := omega) only [d20, b20, runF, List.length_cons, List.length_nil, List.map_cons, List.map_nil, List.cons_append, List.nil_append, List.append_nil, List.replicate_succ, List.replicate_zero, Nat.reduceAdd, Nat.reduceSub, Nat.zero_add, Nat.reduceLT, Nat.reduceLeDiff, List.getElem?_cons_zero, List.getElem?_cons_succ, List.set_cons_zero, List.set_cons_succ, rdV, D.isMut, if_true, if_false, ite_true, ite_false, reduceCtorEq, true_or, or_true, and_self, or_false, false_or, Bool.false_eq_true, x_var, x_int, x_str, x_bl, x_non, x_bin, x_and, x_or, x_andN, x_orN, x_andC, x_orC, x_not, x_neg, x_ite, x_lst, x_tup, x_nil, x_cons, x_call, x_bi, x_slc, x_isi, x_oN, x_sNil, x_sCons, x_set, x_sIte, x_ret, x_retN, x_brk, x_cnt, x_pass, x_doc, j_bin, j_un, j_seq, j_seqR, j_seqB, j_seqC, j_iteT, j_iteF, j_iteCT, j_iteCF, j_andT, j_andF, j_orT, j_orF, j_bl, j_cons, j_bi, j_asB, j_stV, j_stO, j_ret, retE, j_sl, o_add, o_sub, o_mulL, o_mulR, o_div, o_mod, o_pow, o_lt, o_le, o_gt, o_ge, o_eq, o_ne, o_isB, b_int, b_intB, b_lenL, b_lenT, b_max, b_min, b_tupL, b_tupT, b_lstL, b_lstT, b_abs, Option.bind_some, Option.map_some, Option.bind_none, Option.map_none, x_lock, x_frz, x_for, x_mth, x_unp, x_setIx, x_comp, x_it, x_rng, x_enm, x_zip, j_lockV, j_lockB, j_lockO, j_frzO, j_frzV, j_frzB, j_own, j_itL, j_itT, j_enmL, j_enmT, safeI, safeS, t_nm, t_tup, t_tupL, t_nil, t_cons, f_nil, f_one, v_val, v_own, argM, j_lst2, j_tup2, vls_nil, vls_val, vls_own, lstO_s, tupO_s, turn_nx, turn_cnt, fin_r, fin_n, rowI_len, row_len, o_iL, o_iT, o_rL, o_t0, o_t1, o_l0, o_l1, o_l2, r_n, s_from, s_fromI, s_to, s_toI, x_oI, x_oB, x_oV, opt_int, o_addI, o_addR, o_in2, Int.toNat_natCast, Int.reduceToNat, Int.reduceEq, Int.reduceLT, Int.reduceLE, Int.reduceAdd, Int.reduceSub, Int.reduceMul, Int.reduceNeg, decide_true, decide_false, eq_self, Bool.true_or, Bool.or_true, Bool.or_false, Bool.false_or, Bool.not_true, Bool.not_false, sq_it, Int.cast_ofNat_Int, k12, k13, k2, e1, e2, q, beq_self_eq_true]
  · cases b <;> simp -implicitDefEqProofs (disch := omega) only [d20, b20, runF, List.length_cons, List.length_nil, List.map_cons, List.map_nil, List.cons_append, List.nil_append, List.append_nil, List.replicate_succ, List.replicate_zero, Nat.reduceAdd, Nat.reduceSub, Nat.zero_add, Nat.reduceLT, Nat.reduceLeDiff, List.getElem?_cons_zero, List.getElem?_cons_succ, List.set_cons_zero, List.set_cons_succ, rdV, D.isMut, if_true, if_false, ite_true, ite_false, reduceCtorEq, true_or, or_true, and_self, or_false, false_or, Bool.false_eq_true, x_var, x_int, x_str, x_bl, x_non, x_bin, x_and, x_or, x_andN, x_orN, x_andC, x_orC, x_not, x_neg, x_ite, x_lst, x_tup, x_nil, x_cons, x_call, x_bi, x_slc, x_isi, x_oN, x_sNil, x_sCons, x_set, x_sIte, x_ret, x_retN, x_brk, x_cnt, x_pass, x_doc, j_bin, j_un, j_seq, j_seqR, j_seqB, j_seqC, j_iteT, j_iteF, j_iteCT, j_iteCF, j_andT, j_andF, j_orT, j_orF, j_bl, j_cons, j_bi, j_asB, j_stV, j_stO, j_ret, retE, j_sl, o_add, o_sub, o_mulL, o_mulR, o_div, o_mod, o_pow, o_lt, o_le, o_gt, o_ge, o_eq, o_ne, o_isB, b_int, b_intB, b_lenL, b_lenT, b_max, b_min, b_tupL, b_tupT, b_lstL, b_lstT, b_abs, Option.bind_some, Option.map_some, Option.bind_none, Option.map_none, x_lock, x_frz, x_for, x_mth, x_unp, x_setIx, x_comp, x_it, x_rng, x_enm, x_zip, j_lockV, j_lockB, j_lockO, j_frzO, j_frzV, j_frzB, j_own, j_itL, j_itT, j_enmL, j_enmT, safeI, safeS, t_nm, t_tup, t_tupL, t_nil, t_cons, f_nil, f_one, v_val, v_own, argM, j_lst2, j_tup2, vls_nil, vls_val, vls_own, lstO_s, tupO_s, turn_nx, turn_cnt, fin_r, fin_n, rowI_len, row_len, o_iL, o_iT, o_rL, o_t0, o_t1, o_l0, o_l1, o_l2, r_n, s_from, s_fromI, s_to, s_toI, x_oI, x_oB, x_oV, opt_int, o_addI, o_addR, o_in2, Int.toNat_natCast, Int.reduceToNat, Int.reduceEq, Int.reduceLT, Int.reduceLE, Int.reduceAdd, Int.reduceSub, Int.reduceMul, Int.reduceNeg, decide_true, decide_false, eq_self, Bool.true_or, Bool.or_true, Bool.or_false, Bool.false_or, Bool.not_true, Bool.not_false, sq_it, Int.cast_ofNat_Int, k12, k13, k2', e1, e2, q, beq_self_eq_true]
end
end My
end

section
set_option Elab.async false
set_option linter.all false
set_option maxRecDepth 100000
set_option maxHeartbeats 2000000
namespace My
open PySem
section
variable {cf : CF} {gl : Nat → Option D} {fu n w k : Nat} {N v a j : Int} {h : Nat → Rw} {c x y : Nat → Int} {f : Nat → D} {d : D}
theorem o_add1 (hk : k + 1 ≤ 16777216) : op2 .add (.lst (row k f)) (.lst [d]) = some (.own, .lst (row (k + 1) fun i => if i < k then f i else d)) := by
  have e : row k f ++ [d] = row (k + 1) fun i => if i < k then f i else d := row_snoc (fun i hi => if_pos hi) (if_neg (Nat.lt_irrefl _))
  rw [← e]
  simp only [op2, opAdd, row_len, List.length_cons, List.length_nil, hk, if_true, Nat.zero_add]
theorem splice (hk : k < n) {g : Nat → D} (h1 : g k = d) (h2 : ∀ i, i < n → i ≠ k → g i = f i) {p q : Nat} (hp : p = k + 1) (hq : q = n - (k + 1)) :
    (row (p + q) fun i => if i < p then (if i < k then f i else d) else f (p + (i - p))) = row n g := by
  subst hp hq
  have e : k + 1 + (n - (k + 1)) = n := by omega
  rw [e]
  refine row_congr fun i hi => ?_
  by_cases q1 : i < k + 1
  · rw [if_pos q1]
    by_cases q2 : i < k
    · rw [if_pos q2, h2 i hi (by omega)]
    · have e2 : i = k := by omega
      rw [if_neg q2, e2, h1]
  · have e2 : k + 1 + (i - (k + 1)) = i := by omega
    rw [if_neg q1, e2, h2 i hi (by omega)]
theorem splice_enc (hk : k < n) {u : Int} : (row (k + 1 + (n - (k + 1))) fun i => if i < k + 1 then (if i < k then encR true w (h i) else .tup [.tup (rowI w c), .int u]) else encR true w (h (k + 1 + (i - (k + 1))))) = row n fun i => encR true w (upd h k (c, u) i) :=
  splice (f := fun i => encR true w (h i)) hk (by rw [upd_eq]; rfl) (fun i _ hi => by rw [upd_ne hi]) rfl rfl
/-- _law_right_side -/
theorem right_ok (hw : w ≤ 40) (hn : n ≤ 3000) (ha : 0 ≤ a ∧ a < (n : Int)) (hv : 0 ≤ v ∧ v ≤ 20000) (hok : ∀ i, i < n → okR w (h i)) :
    ∃ h' : Nat → Rw, (∀ i, i < n → okR w (h' i)) ∧ runF cf gl fu d15 [(.val, .lst (row n fun i => encR true w (h i))), (.val, .int a), (.val, .int v)] = some (.own, .lst (row n fun i => encR true w (h' i))) := by
  generalize hk : a.toNat = k
  have e : a = (k : Int) := by omega
  subst e
  have hkn : k < n := by omega
  obtain ⟨o1, o2, o3⟩ := hok k hkn
  have e1 : ((k : Int) + 1).toNat = k + 1 := by omega
  refine ⟨upd h k ((h k).1, if (h k).2 + v ≤ 10000 then (h k).2 + v else (h k).2 - v), upd_any hok ⟨o1, by show sml (if (h k).2 + v ≤ 10000 then (h k).2 + v else (h k).2 - v); split <;> exact ⟨by omega, by omega⟩⟩, ?_⟩
  by_cases q : (h k).2 + v ≤ 10000
  · simp -implicitDefEqProofs (disch := omega) only [d15, b15, runF, List.length_cons, List.length_nil, List.map_cons, List.map_nil, List.cons_append, List.nil_append, List.append_nil, List.replicate_succ, List.replicate_zero, Nat.reduceAdd, Nat.reduceSub, Nat.zero_add, Nat.reduceLT, Nat.reduceLeDiff, List.getElem?_cons_zero, List.getElem?_cons_succ, List.set_cons_zero, List.set_cons_succ, rdV, D.isMut, if_true, if_false, ite_true, ite_false, reduceCtorEq, true_or, or_true, and_self, or_false, false_or, Bool.false_eq_true, x_var, x_int, x_str, x_bl, x_non, x_bin, x_and, x_or, x_andN, x_orN, x_andC, x_orC, x_not, x_neg, x_ite, x_lst, x_tup, x_nil, x_cons, x_call, x_bi, x_slc, x_isi, x_oN, x_sNil, x_sCons, x_set, x_sIte, x_ret, x_retN, x_brk, x_cnt, x_pass, x_doc, j_bin, j_un, j_seq, j_seqR, j_seqB, j_seqC, j_iteT, j_iteF, j_iteCT, j_iteCF, j_andT, j_andF, j_orT, j_orF, j_bl, j_cons, j_bi, j_asB, j_stV, j_stO, j_ret, retE, j_sl, o_add, o_sub, o_mulL, o_mulR, o_div, o_mod, o_pow, o_lt, o_le, o_gt, o_ge, o_eq, o_ne, o_isB, b_int, b_intB, b_lenL, b_lenT, b_max, b_min, b_tupL, b_tupT, b_lstL, b_lstT, b_abs, Option.bind_some, Option.map_some, Option.bind_none, Option.map_none, x_lock, x_frz, x_for, x_mth, x_unp, x_setIx, x_comp, x_it, x_rng, x_enm, x_zip, j_lockV, j_lockB, j_lockO, j_frzO, j_frzV, j_frzB, j_own, j_itL, j_itT, j_enmL, j_enmT, safeI, safeS, t_nm, t_tup, t_tupL, t_nil, t_cons, f_nil, f_one, v_val, v_own, argM, j_lst2, j_tup2, vls_nil, vls_val, vls_own, lstO_s, tupO_s, turn_nx, turn_cnt, fin_r, fin_n, rowI_len, row_len, o_iL, o_iT, o_rL, o_t0, o_t1, o_l0, o_l1, o_l2, r_n, s_from, s_fromI, s_to, s_toI, x_oI, x_oB, x_oV, opt_int, o_addI, o_addR, o_in2, Int.toNat_natCast, Int.reduceToNat, Int.reduceEq, Int.reduceLT, Int.reduceLE, Int.reduceAdd, Int.reduceSub, Int.reduceMul, Int.reduceNeg, decide_true, decide_false, eq_self, Bool.true_or, Bool.or_true, Bool.or_false, Bool.false_or, Bool.not_true, Bool.not_false, sq_it, Int.cast_ofNat_Int, o_e0, o_e1, q, e1, o_add1, splice_enc hkn]
  · simp -implicitDefEqProofs (disch := omega) only [d15, b15, runF, List.length_cons, List.length_nil, List.map_cons, List.map_nil, List.cons_append, List.nil_append, List.append_nil, List.replicate_succ, List.replicate_zero, Nat.reduceAdd, Nat.reduceSub, Nat.zero_add, Nat.reduceLT, Nat.reduceLeDiff, List.getElem?_cons_zero, List.getElem?_cons_succ, List.set_cons_zero, List.set_cons_succ, rdV, D.isMut, if_true, if_false, ite_true, ite_false, reduceCtorEq, true_or, or_true, and_self, or_false, false_or, Bool.false_eq_true, x_var, x_int, x_str, x_bl, x_non, x_bin, x_and, x_or, x_andN, x_orN, x_andC, x_orC, x_not, x_neg, x_ite, x_lst, x_tup, x_nil, x_cons, x_call, x_bi, x_slc, x_isi, x_oN, x_sNil, x_sCons, x_set, x_sIte, x_ret, x_retN, x_brk, x_cnt, x_pass, x_doc, j_bin, j_un, j_seq, j_seqR, j_seqB, j_seqC, j_iteT, j_iteF, j_iteCT, j_iteCF, j_andT, j_andF, j_orT, j_orF, j_bl, j_cons, j_bi, j_asB, j_stV, j_stO, j_ret, retE, j_sl, o_add, o_sub, o_mulL, o_mulR, o_div, o_mod, o_pow, o_lt, o_le, o_gt, o_ge, o_eq, o_ne, o_isB, b_int, b_intB, b_lenL, b_lenT, b_max, b_min, b_tupL, b_tupT, b_lstL, b_lstT, b_abs, Option.bind_some, Option.map_some, Option.bind_none, Option.map_none, x_lock, x_frz, x_for, x_mth, x_unp, x_setIx, x_comp, x_it, x_rng, x_enm, x_zip, j_lockV, j_lockB, j_lockO, j_frzO, j_frzV, j_frzB, j_own, j_itL, j_itT, j_enmL, j_enmT, safeI, safeS, t_nm, t_tup, t_tupL, t_nil, t_cons, f_nil, f_one, v_val, v_own, argM, j_lst2, j_tup2, vls_nil, vls_val, vls_own, lstO_s, tupO_s, turn_nx, turn_cnt, fin_r, fin_n, rowI_len, row_len, o_iL, o_iT, o_rL, o_t0, o_t1, o_l0, o_l1, o_l2, r_n, s_from, s_fromI, s_to, s_toI, x_oI, x_oB, x_oV, opt_int, o_addI, o_addR, o_in2, Int.toNat_natCast, Int.reduceToNat, Int.reduceEq, Int.reduceLT, Int.reduceLE, Int.reduceAdd, Int.reduceSub, Int.reduceMul, Int.reduceNeg, decide_true, decide_false, eq_self, Bool.true_or, Bool.or_true, Bool.or_false, Bool.false_or, Bool.not_true, Bool.not_false, sq_it, Int.cast_ofNat_Int, o_e0, o_e1, q, e1, o_add1, splice_enc hkn]
theorem ix_row {m : Nat} {u : Int} (hj : 0 ≤ j ∧ j < (m : Int)) : ixSet (rowI m c) j (.int u) = some (rowI m (upd c j.toNat u)) := by
  generalize hk : j.toNat = k
  have e : j = (k : Int) := by omega
  subst e
  have z : L2.ixN (rowI m c).length (k : Int) = some k := by
    rw [rowI_len]
    unfold L2.ixN
    rw [if_pos (by omega), if_pos (by omega), Int.toNat_natCast]
  rw [ixSet, z, Option.map_some]
  congr 1
  apply row_ext (by rw [List.length_set, rowI_len])
  intro i hi
  by_cases q : i = k
  · subst q
    rw [List.getElem?_set_self (by rw [rowI_len]; exact hi), upd_eq]
  · rw [List.getElem?_set_ne (by omega), upd_ne q]
    exact row_at hi
theorem j_setI {s m : Nat} {u : Int} {env : Sl} (hj : 0 ≤ j ∧ j < (m : Int)) : setIxO s (some (.val, .int u)) (some (.val, .int j)) (some (rowI m c)) env = some (.nx (env.set s (some (.own, .lst (rowI m (upd c j.toNat u)))))) := by
  simp only [setIxO, v_val, ix_row hj, Option.map_some]
/-- _law_coefficient -/
theorem coef_ok (hw : w ≤ 40) (hn : n ≤ 3000) (ha : 0 ≤ a ∧ a < (n : Int)) (hj : 0 ≤ j ∧ j < (w : Int)) (hv : sml v) (hok : ∀ i, i < n → okR w (h i)) :
    ∃ h' : Nat → Rw, (∀ i, i < n → okR w (h' i)) ∧ runF cf gl fu d16 [(.val, .lst (row n fun i => encR true w (h i))), (.val, .int a), (.val, .int j), (.val, .int v)] = some (.own, .lst (row n fun i => encR true w (h' i))) := by
  generalize hk : a.toNat = k
  have e : a = (k : Int) := by omega
  subst e
  have hkn : k < n := by omega
  obtain ⟨o1, o2⟩ := hok k hkn
  have e1 : ((k : Int) + 1).toNat = k + 1 := by omega
  refine ⟨upd h k (upd (h k).1 j.toNat v, (h k).2), upd_any hok ⟨upd_any o1 hv, o2⟩, ?_⟩
  simp -implicitDefEqProofs (disch := omega) only [d16, b16, runF, List.length_cons, List.length_nil, List.map_cons, List.map_nil, List.cons_append, List.nil_append, List.append_nil, List.replicate_succ, List.replicate_zero, Nat.reduceAdd, Nat.reduceSub, Nat.zero_add, Nat.reduceLT, Nat.reduceLeDiff, List.getElem?_cons_zero, List.getElem?_cons_succ, List.set_cons_zero, List.set_cons_succ, rdV, D.isMut, if_true, if_false, ite_true, ite_false, reduceCtorEq, true_or, or_true, and_self, or_false, false_or, Bool.false_eq_true, x_var, x_int, x_str, x_bl, x_non, x_bin, x_and, x_or, x_andN, x_orN, x_andC, x_orC, x_not, x_neg, x_ite, x_lst, x_tup, x_nil, x_cons, x_call, x_bi, x_slc, x_isi, x_oN, x_sNil, x_sCons, x_set, x_sIte, x_ret, x_retN, x_brk, x_cnt, x_pass, x_doc, j_bin, j_un, j_seq, j_seqR, j_seqB, j_seqC, j_iteT, j_iteF, j_iteCT, j_iteCF, j_andT, j_andF, j_orT, j_orF, j_bl, j_cons, j_bi, j_asB, j_stV, j_stO, j_ret, retE, j_sl, o_add, o_sub, o_mulL, o_mulR, o_div, o_mod, o_pow, o_lt, o_le, o_gt, o_ge, o_eq, o_ne, o_isB, b_int, b_intB, b_lenL, b_lenT, b_max, b_min, b_tupL, b_tupT, b_lstL, b_lstT, b_abs, Option.bind_some, Option.map_some, Option.bind_none, Option.map_none, x_lock, x_frz, x_for, x_mth, x_unp, x_setIx, x_comp, x_it, x_rng, x_enm, x_zip, j_lockV, j_lockB, j_lockO, j_frzO, j_frzV, j_frzB, j_own, j_itL, j_itT, j_enmL, j_enmT, safeI, safeS, t_nm, t_tup, t_tupL, t_nil, t_cons, f_nil, f_one, v_val, v_own, argM, j_lst2, j_tup2, vls_nil, vls_val, vls_own, lstO_s, tupO_s, turn_nx, turn_cnt, fin_r, fin_n, rowI_len, row_len, o_iL, o_iT, o_rL, o_t0, o_t1, o_l0, o_l1, o_l2, r_n, s_from, s_fromI, s_to, s_toI, x_oI, x_oB, x_oV, opt_int, o_addI, o_addR, o_in2, Int.toNat_natCast, Int.reduceToNat, Int.reduceEq, Int.reduceLT, Int.reduceLE, Int.reduceAdd, Int.reduceSub, Int.reduceMul, Int.reduceNeg, decide_true, decide_false, eq_self, Bool.true_or, Bool.or_true, Bool.or_false, Bool.false_or, Bool.not_true, Bool.not_false, sq_it, Int.cast_ofNat_Int, o_e0, o_e1, j_setI, e1, o_add1, splice_enc hkn]
/-- _law_changed -/
theorem changed_ok (ha : 0 ≤ a ∧ a < (n : Int)) : ∃ x' : Nat → Int, runF cf gl fu d17 [(.val, .lst (rowI n x)), (.val, .int a), (.val, .int v)] = some (.own, .lst (rowI n x')) :=
  ⟨upd x a.toNat (x a.toNat + v), by simp -implicitDefEqProofs (disch := omega) only [d17, b17, runF, List.length_cons, List.length_nil, List.map_cons, List.map_nil, List.cons_append, List.nil_append, List.append_nil, List.replicate_succ, List.replicate_zero, Nat.reduceAdd, Nat.reduceSub, Nat.zero_add, Nat.reduceLT, Nat.reduceLeDiff, List.getElem?_cons_zero, List.getElem?_cons_succ, List.set_cons_zero, List.set_cons_succ, rdV, D.isMut, if_true, if_false, ite_true, ite_false, reduceCtorEq, true_or, or_true, and_self, or_false, false_or, Bool.false_eq_true, x_var, x_int, x_str, x_bl, x_non, x_bin, x_and, x_or, x_andN, x_orN, x_andC, x_orC, x_not, x_neg, x_ite, x_lst, x_tup, x_nil, x_cons, x_call, x_bi, x_slc, x_isi, x_oN, x_sNil, x_sCons, x_set, x_sIte, x_ret, x_retN, x_brk, x_cnt, x_pass, x_doc, j_bin, j_un, j_seq, j_seqR, j_seqB, j_seqC, j_iteT, j_iteF, j_iteCT, j_iteCF, j_andT, j_andF, j_orT, j_orF, j_bl, j_cons, j_bi, j_asB, j_stV, j_stO, j_ret, retE, j_sl, o_add, o_sub, o_mulL, o_mulR, o_div, o_mod, o_pow, o_lt, o_le, o_gt, o_ge, o_eq, o_ne, o_isB, b_int, b_intB, b_lenL, b_lenT, b_max, b_min, b_tupL, b_tupT, b_lstL, b_lstT, b_abs, Option.bind_some, Option.map_some, Option.bind_none, Option.map_none, x_lock, x_frz, x_for, x_mth, x_unp, x_setIx, x_comp, x_it, x_rng, x_enm, x_zip, j_lockV, j_lockB, j_lockO, j_frzO, j_frzV, j_frzB, j_own, j_itL, j_itT, j_enmL, j_enmT, safeI, safeS, t_nm, t_tup, t_tupL, t_nil, t_cons, f_nil, f_one, v_val, v_own, argM, j_lst2, j_tup2, vls_nil, vls_val, vls_own, lstO_s, tupO_s, turn_nx, turn_cnt, fin_r, fin_n, rowI_len, row_len, o_iL, o_iT, o_rL, o_t0, o_t1, o_l0, o_l1, o_l2, r_n, s_from, s_fromI, s_to, s_toI, x_oI, x_oB, x_oV, opt_int, o_addI, o_addR, o_in2, Int.toNat_natCast, Int.reduceToNat, Int.reduceEq, Int.reduceLT, Int.reduceLE, Int.reduceAdd, Int.reduceSub, Int.reduceMul, Int.reduceNeg, decide_true, decide_false, eq_self, Bool.true_or, Bool.or_true, Bool.or_false, Bool.false_or, Bool.not_true, Bool.not_false, sq_it, Int.cast_ofNat_Int, j_setI]⟩
/-- _law_shifted -/
theorem shifted_ok (hn : Near cf) (hd : Digits cf) (hk : n ≤ 16777215) (h0 : 0 < N) (h1 : N ≤ 9000) : ∃ x' : Nat → Int, runF cf gl fu d18 [(.val, .lst (rowI n x)), (.val, .int N), (.val, .int v)] = some (.own, .lst (rowI n x')) := by
  obtain ⟨f, _, hc⟩ := hd v n (fun _ => 20001) .val (.inl rfl) (fun i hi => ⟨by omega, by omega⟩) (by omega)
  have hc2 : callO (cf 4) (some [(.val, .int v), (.own, .lst (rowI n fun _ => 20001))]) = some (.own, .lst (rowI n f)) := j_call hc (.inr rfl)
  have z1 : ∀ s0 s1 s2 s3 s4 s5, compO (some (rowI n x)) (cmpF cf gl [5] (.nm 5) .nil e18_1 [s0, s1, s2, s3, s4, s5]) = some (.own, .lst (rowI n fun _ => 20001)) := fun s0 s1 s2 s3 s4 s5 =>
    compI (fun i hi => by simp -implicitDefEqProofs (disch := omega) only [cmpF, wipeE, e18_1, runF, List.length_cons, List.length_nil, List.map_cons, List.map_nil, List.cons_append, List.nil_append, List.append_nil, List.replicate_succ, List.replicate_zero, Nat.reduceAdd, Nat.reduceSub, Nat.zero_add, Nat.reduceLT, Nat.reduceLeDiff, List.getElem?_cons_zero, List.getElem?_cons_succ, List.set_cons_zero, List.set_cons_succ, rdV, D.isMut, if_true, if_false, ite_true, ite_false, reduceCtorEq, true_or, or_true, and_self, or_false, false_or, Bool.false_eq_true, x_var, x_int, x_str, x_bl, x_non, x_bin, x_and, x_or, x_andN, x_orN, x_andC, x_orC, x_not, x_neg, x_ite, x_lst, x_tup, x_nil, x_cons, x_call, x_bi, x_slc, x_isi, x_oN, x_sNil, x_sCons, x_set, x_sIte, x_ret, x_retN, x_brk, x_cnt, x_pass, x_doc, j_bin, j_un, j_seq, j_seqR, j_seqB, j_seqC, j_iteT, j_iteF, j_iteCT, j_iteCF, j_andT, j_andF, j_orT, j_orF, j_bl, j_cons, j_bi, j_asB, j_stV, j_stO, j_ret, retE, j_sl, o_add, o_sub, o_mulL, o_mulR, o_div, o_mod, o_pow, o_lt, o_le, o_gt, o_ge, o_eq, o_ne, o_isB, b_int, b_intB, b_lenL, b_lenT, b_max, b_min, b_tupL, b_tupT, b_lstL, b_lstT, b_abs, Option.bind_some, Option.map_some, Option.bind_none, Option.map_none, x_lock, x_frz, x_for, x_mth, x_unp, x_setIx, x_comp, x_it, x_rng, x_enm, x_zip, j_lockV, j_lockB, j_lockO, j_frzO, j_frzV, j_frzB, j_own, j_itL, j_itT, j_enmL, j_enmT, safeI, safeS, t_nm, t_tup, t_tupL, t_nil, t_cons, f_nil, f_one, v_val, v_own, argM, j_lst2, j_tup2, vls_nil, vls_val, vls_own, lstO_s, tupO_s, turn_nx, turn_cnt, fin_r, fin_n, rowI_len, row_len, o_iL, o_iT, o_rL, o_t0, o_t1, o_l0, o_l1, o_l2, r_n, s_from, s_fromI, s_to, s_toI, x_oI, x_oB, x_oV, opt_int, o_addI, o_addR, o_in2, Int.toNat_natCast, Int.reduceToNat, Int.reduceEq, Int.reduceLT, Int.reduceLE, Int.reduceAdd, Int.reduceSub, Int.reduceMul, Int.reduceNeg, decide_true, decide_false, eq_self, Bool.true_or, Bool.or_true, Bool.or_false, Bool.false_or, Bool.not_true, Bool.not_false, sq_it, Int.cast_ofNat_Int]) (by omega)
  have z2 : ∀ s2 s4 s5, compO (some (rowI n fun i => (i : Int))) (cmpF cf gl [4] (.nm 4) .nil e18_2 [some (.val, .lst (rowI n x)), some (.val, .int N), s2, some (.own, .lst (rowI n f)), s4, s5]) = some (.own, .lst (rowI n fun i => near (x i) N (f i))) := fun s2 s4 s5 =>
    compI (fun i hi => by simp -implicitDefEqProofs (disch := omega) only [cmpF, wipeE, e18_2, runF, List.length_cons, List.length_nil, List.map_cons, List.map_nil, List.cons_append, List.nil_append, List.append_nil, List.replicate_succ, List.replicate_zero, Nat.reduceAdd, Nat.reduceSub, Nat.zero_add, Nat.reduceLT, Nat.reduceLeDiff, List.getElem?_cons_zero, List.getElem?_cons_succ, List.set_cons_zero, List.set_cons_succ, rdV, D.isMut, if_true, if_false, ite_true, ite_false, reduceCtorEq, true_or, or_true, and_self, or_false, false_or, Bool.false_eq_true, x_var, x_int, x_str, x_bl, x_non, x_bin, x_and, x_or, x_andN, x_orN, x_andC, x_orC, x_not, x_neg, x_ite, x_lst, x_tup, x_nil, x_cons, x_call, x_bi, x_slc, x_isi, x_oN, x_sNil, x_sCons, x_set, x_sIte, x_ret, x_retN, x_brk, x_cnt, x_pass, x_doc, j_bin, j_un, j_seq, j_seqR, j_seqB, j_seqC, j_iteT, j_iteF, j_iteCT, j_iteCF, j_andT, j_andF, j_orT, j_orF, j_bl, j_cons, j_bi, j_asB, j_stV, j_stO, j_ret, retE, j_sl, o_add, o_sub, o_mulL, o_mulR, o_div, o_mod, o_pow, o_lt, o_le, o_gt, o_ge, o_eq, o_ne, o_isB, b_int, b_intB, b_lenL, b_lenT, b_max, b_min, b_tupL, b_tupT, b_lstL, b_lstT, b_abs, Option.bind_some, Option.map_some, Option.bind_none, Option.map_none, x_lock, x_frz, x_for, x_mth, x_unp, x_setIx, x_comp, x_it, x_rng, x_enm, x_zip, j_lockV, j_lockB, j_lockO, j_frzO, j_frzV, j_frzB, j_own, j_itL, j_itT, j_enmL, j_enmT, safeI, safeS, t_nm, t_tup, t_tupL, t_nil, t_cons, f_nil, f_one, v_val, v_own, argM, j_lst2, j_tup2, vls_nil, vls_val, vls_own, lstO_s, tupO_s, turn_nx, turn_cnt, fin_r, fin_n, rowI_len, row_len, o_iL, o_iT, o_rL, o_t0, o_t1, o_l0, o_l1, o_l2, r_n, s_from, s_fromI, s_to, s_toI, x_oI, x_oB, x_oV, opt_int, o_addI, o_addR, o_in2, Int.toNat_natCast, Int.reduceToNat, Int.reduceEq, Int.reduceLT, Int.reduceLE, Int.reduceAdd, Int.reduceSub, Int.reduceMul, Int.reduceNeg, decide_true, decide_false, eq_self, Bool.true_or, Bool.or_true, Bool.or_false, Bool.false_or, Bool.not_true, Bool.not_false, sq_it, Int.cast_ofNat_Int, hn.j]) (by omega)
  exact ⟨fun i => near (x i) N (f i), by simp -implicitDefEqProofs (disch := omega) only [d18, b18, runF, List.length_cons, List.length_nil, List.map_cons, List.map_nil, List.cons_append, List.nil_append, List.append_nil, List.replicate_succ, List.replicate_zero, Nat.reduceAdd, Nat.reduceSub, Nat.zero_add, Nat.reduceLT, Nat.reduceLeDiff, List.getElem?_cons_zero, List.getElem?_cons_succ, List.set_cons_zero, List.set_cons_succ, rdV, D.isMut, if_true, if_false, ite_true, ite_false, reduceCtorEq, true_or, or_true, and_self, or_false, false_or, Bool.false_eq_true, x_var, x_int, x_str, x_bl, x_non, x_bin, x_and, x_or, x_andN, x_orN, x_andC, x_orC, x_not, x_neg, x_ite, x_lst, x_tup, x_nil, x_cons, x_call, x_bi, x_slc, x_isi, x_oN, x_sNil, x_sCons, x_set, x_sIte, x_ret, x_retN, x_brk, x_cnt, x_pass, x_doc, j_bin, j_un, j_seq, j_seqR, j_seqB, j_seqC, j_iteT, j_iteF, j_iteCT, j_iteCF, j_andT, j_andF, j_orT, j_orF, j_bl, j_cons, j_bi, j_asB, j_stV, j_stO, j_ret, retE, j_sl, o_add, o_sub, o_mulL, o_mulR, o_div, o_mod, o_pow, o_lt, o_le, o_gt, o_ge, o_eq, o_ne, o_isB, b_int, b_intB, b_lenL, b_lenT, b_max, b_min, b_tupL, b_tupT, b_lstL, b_lstT, b_abs, Option.bind_some, Option.map_some, Option.bind_none, Option.map_none, x_lock, x_frz, x_for, x_mth, x_unp, x_setIx, x_comp, x_it, x_rng, x_enm, x_zip, j_lockV, j_lockB, j_lockO, j_frzO, j_frzV, j_frzB, j_own, j_itL, j_itT, j_enmL, j_enmT, safeI, safeS, t_nm, t_tup, t_tupL, t_nil, t_cons, f_nil, f_one, v_val, v_own, argM, j_lst2, j_tup2, vls_nil, vls_val, vls_own, lstO_s, tupO_s, turn_nx, turn_cnt, fin_r, fin_n, rowI_len, row_len, o_iL, o_iT, o_rL, o_t0, o_t1, o_l0, o_l1, o_l2, r_n, s_from, s_fromI, s_to, s_toI, x_oI, x_oB, x_oV, opt_int, o_addI, o_addR, o_in2, Int.toNat_natCast, Int.reduceToNat, Int.reduceEq, Int.reduceLT, Int.reduceLE, Int.reduceAdd, Int.reduceSub, Int.reduceMul, Int.reduceNeg, decide_true, decide_false, eq_self, Bool.true_or, Bool.or_true, Bool.or_false, Bool.false_or, Bool.not_true, Bool.not_false, sq_it, Int.cast_ofNat_Int, z1, z2, hc2]⟩
end
end My
end

section
set_option Elab.async false
set_option linter.all false
set_option maxRecDepth 100000
set_option maxHeartbeats 2000000
namespace My
open PySem
section
variable {cf : CF} {gl : Nat → Option D} {fu n w : Nat} {N v p : Int} {h : Nat → Rw} {f mf g : Nat → Int} {s0 s1 s2 s3 s4 s5 s6 s7 s8 s9 s10 s11 s12 s13 s14 s15 s16 : Option My.C}
theorem c14_1 (hw : w ≤ 40) : compO (some (rowI (w + 1) fun j => (j : Int))) (cmpF cf gl [10] (.nm 10) .nil e14_1 [s0, s1, s2, s3, s4, s5, s6, s7, s8, s9, s10, s11, s12, s13, s14, s15, s16]) = some (.own, .lst (rowI (w + 1) fun _ => 20001)) :=
  compI (fun i hi => by simp -implicitDefEqProofs (disch := omega) only [cmpF, wipeE, e14_1, runF, List.length_cons, List.length_nil, List.map_cons, List.map_nil, List.cons_append, List.nil_append, List.append_nil, List.replicate_succ, List.replicate_zero, Nat.reduceAdd, Nat.reduceSub, Nat.zero_add, Nat.reduceLT, Nat.reduceLeDiff, List.getElem?_cons_zero, List.getElem?_cons_succ, List.set_cons_zero, List.set_cons_succ, rdV, D.isMut, if_true, if_false, ite_true, ite_false, reduceCtorEq, true_or, or_true, and_self, or_false, false_or, Bool.false_eq_true, x_var, x_int, x_str, x_bl, x_non, x_bin, x_and, x_or, x_andN, x_orN, x_andC, x_orC, x_not, x_neg, x_ite, x_lst, x_tup, x_nil, x_cons, x_call, x_bi, x_slc, x_isi, x_oN, x_sNil, x_sCons, x_set, x_sIte, x_ret, x_retN, x_brk, x_cnt, x_pass, x_doc, j_bin, j_un, j_seq, j_seqR, j_seqB, j_seqC, j_iteT, j_iteF, j_iteCT, j_iteCF, j_andT, j_andF, j_orT, j_orF, j_bl, j_cons, j_bi, j_asB, j_stV, j_stO, j_ret, retE, j_sl, o_add, o_sub, o_mulL, o_mulR, o_div, o_mod, o_pow, o_lt, o_le, o_gt, o_ge, o_eq, o_ne, o_isB, b_int, b_intB, b_lenL, b_lenT, b_max, b_min, b_tupL, b_tupT, b_lstL, b_lstT, b_abs, Option.bind_some, Option.map_some, Option.bind_none, Option.map_none, x_lock, x_frz, x_for, x_mth, x_unp, x_setIx, x_comp, x_it, x_rng, x_enm, x_zip, j_lockV, j_lockB, j_lockO, j_frzO, j_frzV, j_frzB, j_own, j_itL, j_itT, j_enmL, j_enmT, safeI, safeS, t_nm, t_tup, t_tupL, t_nil, t_cons, f_nil, f_one, v_val, v_own, argM, j_lst2, j_tup2, vls_nil, vls_val, vls_own, lstO_s, tupO_s, turn_nx, turn_cnt, fin_r, fin_n, rowI_len, row_len, o_iL, o_iT, o_rL, o_t0, o_t1, o_l0, o_l1, o_l2, r_n, s_from, s_fromI, s_to, s_toI, x_oI, x_oB, x_oV, opt_int, o_addI, o_addR, o_in2, Int.toNat_natCast, Int.reduceToNat, Int.reduceEq, Int.reduceLT, Int.reduceLE, Int.reduceAdd, Int.reduceSub, Int.reduceMul, Int.reduceNeg, decide_true, decide_false, eq_self, Bool.true_or, Bool.or_true, Bool.or_false, Bool.false_or, Bool.not_true, Bool.not_false, sq_it, Int.cast_ofNat_Int]) (by omega)
theorem c14_2 (hn : n ≤ 3000) : compO (some (row n fun i => encR true w (h i))) (cmpF cf gl [16] (.nm 16) .nil e14_2 [s0, s1, s2, s3, s4, s5, s6, s7, s8, s9, s10, s11, s12, s13, s14, s15, s16]) = some (.own, .lst (rowI n fun _ => 8)) :=
  compI (fun i hi => by simp -implicitDefEqProofs (disch := omega) only [cmpF, wipeE, e14_2, runF, List.length_cons, List.length_nil, List.map_cons, List.map_nil, List.cons_append, List.nil_append, List.append_nil, List.replicate_succ, List.replicate_zero, Nat.reduceAdd, Nat.reduceSub, Nat.zero_add, Nat.reduceLT, Nat.reduceLeDiff, List.getElem?_cons_zero, List.getElem?_cons_succ, List.set_cons_zero, List.set_cons_succ, rdV, D.isMut, if_true, if_false, ite_true, ite_false, reduceCtorEq, true_or, or_true, and_self, or_false, false_or, Bool.false_eq_true, x_var, x_int, x_str, x_bl, x_non, x_bin, x_and, x_or, x_andN, x_orN, x_andC, x_orC, x_not, x_neg, x_ite, x_lst, x_tup, x_nil, x_cons, x_call, x_bi, x_slc, x_isi, x_oN, x_sNil, x_sCons, x_set, x_sIte, x_ret, x_retN, x_brk, x_cnt, x_pass, x_doc, j_bin, j_un, j_seq, j_seqR, j_seqB, j_seqC, j_iteT, j_iteF, j_iteCT, j_iteCF, j_andT, j_andF, j_orT, j_orF, j_bl, j_cons, j_bi, j_asB, j_stV, j_stO, j_ret, retE, j_sl, o_add, o_sub, o_mulL, o_mulR, o_div, o_mod, o_pow, o_lt, o_le, o_gt, o_ge, o_eq, o_ne, o_isB, b_int, b_intB, b_lenL, b_lenT, b_max, b_min, b_tupL, b_tupT, b_lstL, b_lstT, b_abs, Option.bind_some, Option.map_some, Option.bind_none, Option.map_none, x_lock, x_frz, x_for, x_mth, x_unp, x_setIx, x_comp, x_it, x_rng, x_enm, x_zip, j_lockV, j_lockB, j_lockO, j_frzO, j_frzV, j_frzB, j_own, j_itL, j_itT, j_enmL, j_enmT, safeI, safeS, t_nm, t_tup, t_tupL, t_nil, t_cons, f_nil, f_one, v_val, v_own, argM, j_lst2, j_tup2, vls_nil, vls_val, vls_own, lstO_s, tupO_s, turn_nx, turn_cnt, fin_r, fin_n, rowI_len, row_len, o_iL, o_iT, o_rL, o_t0, o_t1, o_l0, o_l1, o_l2, r_n, s_from, s_fromI, s_to, s_toI, x_oI, x_oB, x_oV, opt_int, o_addI, o_addR, o_in2, Int.toNat_natCast, Int.reduceToNat, Int.reduceEq, Int.reduceLT, Int.reduceLE, Int.reduceAdd, Int.reduceSub, Int.reduceMul, Int.reduceNeg, decide_true, decide_false, eq_self, Bool.true_or, Bool.or_true, Bool.or_false, Bool.false_or, Bool.not_true, Bool.not_false, sq_it, Int.cast_ofNat_Int]) (by omega)
theorem c14_3 (h0 : 2 ≤ N) (h1 : N ≤ 9000) :
    compO (some ((List.range (N + 1 - 2).toNat).map fun (k : Nat) => D.int (2 + k))) (cmpF cf gl [14] (.nm 14) (.cons (.bin .eq (.bin .mod (.bi .int (.cons (.var 1) .nil)) (.var 14)) (.int 0)) .nil) e14_3 [s0, some (.val, .int N), s2, s3, s4, s5, s6, s7, s8, s9, s10, s11, s12, s13, s14, s15, s16]) = some (.own, .lst (divs 2 N)) :=
  divs_comp (cf := cf) (gl := gl) (by omega) fun i hi => by
    by_cases e : N % (2 + (i : Int)) = 0
    · simp -implicitDefEqProofs (disch := omega) only [cmpF, wipeE, e14_3, runF, List.length_cons, List.length_nil, List.map_cons, List.map_nil, List.cons_append, List.nil_append, List.append_nil, List.replicate_succ, List.replicate_zero, Nat.reduceAdd, Nat.reduceSub, Nat.zero_add, Nat.reduceLT, Nat.reduceLeDiff, List.getElem?_cons_zero, List.getElem?_cons_succ, List.set_cons_zero, List.set_cons_succ, rdV, D.isMut, if_true, if_false, ite_true, ite_false, reduceCtorEq, true_or, or_true, and_self, or_false, false_or, Bool.false_eq_true, x_var, x_int, x_str, x_bl, x_non, x_bin, x_and, x_or, x_andN, x_orN, x_andC, x_orC, x_not, x_neg, x_ite, x_lst, x_tup, x_nil, x_cons, x_call, x_bi, x_slc, x_isi, x_oN, x_sNil, x_sCons, x_set, x_sIte, x_ret, x_retN, x_brk, x_cnt, x_pass, x_doc, j_bin, j_un, j_seq, j_seqR, j_seqB, j_seqC, j_iteT, j_iteF, j_iteCT, j_iteCF, j_andT, j_andF, j_orT, j_orF, j_bl, j_cons, j_bi, j_asB, j_stV, j_stO, j_ret, retE, j_sl, o_add, o_sub, o_mulL, o_mulR, o_div, o_mod, o_pow, o_lt, o_le, o_gt, o_ge, o_eq, o_ne, o_isB, b_int, b_intB, b_lenL, b_lenT, b_max, b_min, b_tupL, b_tupT, b_lstL, b_lstT, b_abs, Option.bind_some, Option.map_some, Option.bind_none, Option.map_none, x_lock, x_frz, x_for, x_mth, x_unp, x_setIx, x_comp, x_it, x_rng, x_enm, x_zip, j_lockV, j_lockB, j_lockO, j_frzO, j_frzV, j_frzB, j_own, j_itL, j_itT, j_enmL, j_enmT, safeI, safeS, t_nm, t_tup, t_tupL, t_nil, t_cons, f_nil, f_one, v_val, v_own, argM, j_lst2, j_tup2, vls_nil, vls_val, vls_own, lstO_s, tupO_s, turn_nx, turn_cnt, fin_r, fin_n, rowI_len, row_len, o_iL, o_iT, o_rL, o_t0, o_t1, o_l0, o_l1, o_l2, r_n, s_from, s_fromI, s_to, s_toI, x_oI, x_oB, x_oV, opt_int, o_addI, o_addR, o_in2, Int.toNat_natCast, Int.reduceToNat, Int.reduceEq, Int.reduceLT, Int.reduceLE, Int.reduceAdd, Int.reduceSub, Int.reduceMul, Int.reduceNeg, decide_true, decide_false, eq_self, Bool.true_or, Bool.or_true, Bool.or_false, Bool.false_or, Bool.not_true, Bool.not_false, sq_it, Int.cast_ofNat_Int, e]
    · simp -implicitDefEqProofs (disch := omega) only [cmpF, wipeE, e14_3, runF, List.length_cons, List.length_nil, List.map_cons, List.map_nil, List.cons_append, List.nil_append, List.append_nil, List.replicate_succ, List.replicate_zero, Nat.reduceAdd, Nat.reduceSub, Nat.zero_add, Nat.reduceLT, Nat.reduceLeDiff, List.getElem?_cons_zero, List.getElem?_cons_succ, List.set_cons_zero, List.set_cons_succ, rdV, D.isMut, if_true, if_false, ite_true, ite_false, reduceCtorEq, true_or, or_true, and_self, or_false, false_or, Bool.false_eq_true, x_var, x_int, x_str, x_bl, x_non, x_bin, x_and, x_or, x_andN, x_orN, x_andC, x_orC, x_not, x_neg, x_ite, x_lst, x_tup, x_nil, x_cons, x_call, x_bi, x_slc, x_isi, x_oN, x_sNil, x_sCons, x_set, x_sIte, x_ret, x_retN, x_brk, x_cnt, x_pass, x_doc, j_bin, j_un, j_seq, j_seqR, j_seqB, j_seqC, j_iteT, j_iteF, j_iteCT, j_iteCF, j_andT, j_andF, j_orT, j_orF, j_bl, j_cons, j_bi, j_asB, j_stV, j_stO, j_ret, retE, j_sl, o_add, o_sub, o_mulL, o_mulR, o_div, o_mod, o_pow, o_lt, o_le, o_gt, o_ge, o_eq, o_ne, o_isB, b_int, b_intB, b_lenL, b_lenT, b_max, b_min, b_tupL, b_tupT, b_lstL, b_lstT, b_abs, Option.bind_some, Option.map_some, Option.bind_none, Option.map_none, x_lock, x_frz, x_for, x_mth, x_unp, x_setIx, x_comp, x_it, x_rng, x_enm, x_zip, j_lockV, j_lockB, j_lockO, j_frzO, j_frzV, j_frzB, j_own, j_itL, j_itT, j_enmL, j_enmT, safeI, safeS, t_nm, t_tup, t_tupL, t_nil, t_cons, f_nil, f_one, v_val, v_own, argM, j_lst2, j_tup2, vls_nil, vls_val, vls_own, lstO_s, tupO_s, turn_nx, turn_cnt, fin_r, fin_n, rowI_len, row_len, o_iL, o_iT, o_rL, o_t0, o_t1, o_l0, o_l1, o_l2, r_n, s_from, s_fromI, s_to, s_toI, x_oI, x_oB, x_oV, opt_int, o_addI, o_addR, o_in2, Int.toNat_natCast, Int.reduceToNat, Int.reduceEq, Int.reduceLT, Int.reduceLE, Int.reduceAdd, Int.reduceSub, Int.reduceMul, Int.reduceNeg, decide_true, decide_false, eq_self, Bool.true_or, Bool.or_true, Bool.or_false, Bool.false_or, Bool.not_true, Bool.not_false, sq_it, Int.cast_ofNat_Int, e]
def m8 (p : Int) : List Int := [0, 0, 0, 1, p - 1, 2, 3, 5]
theorem l8 : ([.int 0, .int 0, .int 0, .int 1, .int (p - 1), .int 2, .int 3, .int 5] : List D) = rowI 8 fun i => (m8 p).getD i 0 := rfl
theorem c14_4 (hn : n ≤ 3000) (hg : ∀ i, i < n → 0 ≤ g i ∧ g i < 8) : compO (some (rowI n g)) (cmpF cf gl [15] (.nm 15) .nil e14_4 [s0, s1, s2, s3, s4, s5, some (.val, .int p), s7, s8, s9, s10, s11, s12, s13, s14, s15, s16]) = some (.own, .lst (rowI n fun i => (m8 p).getD (g i).toNat 0)) :=
  compI (fun i hi => by
    have := hg i hi
    simp -implicitDefEqProofs (disch := omega) only [cmpF, wipeE, e14_4, runF, List.length_cons, List.length_nil, List.map_cons, List.map_nil, List.cons_append, List.nil_append, List.append_nil, List.replicate_succ, List.replicate_zero, Nat.reduceAdd, Nat.reduceSub, Nat.zero_add, Nat.reduceLT, Nat.reduceLeDiff, List.getElem?_cons_zero, List.getElem?_cons_succ, List.set_cons_zero, List.set_cons_succ, rdV, D.isMut, if_true, if_false, ite_true, ite_false, reduceCtorEq, true_or, or_true, and_self, or_false, false_or, Bool.false_eq_true, x_var, x_int, x_str, x_bl, x_non, x_bin, x_and, x_or, x_andN, x_orN, x_andC, x_orC, x_not, x_neg, x_ite, x_lst, x_tup, x_nil, x_cons, x_call, x_bi, x_slc, x_isi, x_oN, x_sNil, x_sCons, x_set, x_sIte, x_ret, x_retN, x_brk, x_cnt, x_pass, x_doc, j_bin, j_un, j_seq, j_seqR, j_seqB, j_seqC, j_iteT, j_iteF, j_iteCT, j_iteCF, j_andT, j_andF, j_orT, j_orF, j_bl, j_cons, j_bi, j_asB, j_stV, j_stO, j_ret, retE, j_sl, o_add, o_sub, o_mulL, o_mulR, o_div, o_mod, o_pow, o_lt, o_le, o_gt, o_ge, o_eq, o_ne, o_isB, b_int, b_intB, b_lenL, b_lenT, b_max, b_min, b_tupL, b_tupT, b_lstL, b_lstT, b_abs, Option.bind_some, Option.map_some, Option.bind_none, Option.map_none, x_lock, x_frz, x_for, x_mth, x_unp, x_setIx, x_comp, x_it, x_rng, x_enm, x_zip, j_lockV, j_lockB, j_lockO, j_frzO, j_frzV, j_frzB, j_own, j_itL, j_itT, j_enmL, j_enmT, safeI, safeS, t_nm, t_tup, t_tupL, t_nil, t_cons, f_nil, f_one, v_val, v_own, argM, j_lst2, j_tup2, vls_nil, vls_val, vls_own, lstO_s, tupO_s, turn_nx, turn_cnt, fin_r, fin_n, rowI_len, row_len, o_iL, o_iT, o_rL, o_t0, o_t1, o_l0, o_l1, o_l2, r_n, s_from, s_fromI, s_to, s_toI, x_oI, x_oB, x_oV, opt_int, o_addI, o_addR, o_in2, Int.toNat_natCast, Int.reduceToNat, Int.reduceEq, Int.reduceLT, Int.reduceLE, Int.reduceAdd, Int.reduceSub, Int.reduceMul, Int.reduceNeg, decide_true, decide_false, eq_self, Bool.true_or, Bool.or_true, Bool.or_false, Bool.false_or, Bool.not_true, Bool.not_false, sq_it, Int.cast_ofNat_Int, l8]) (by omega)
theorem c14_8 (hn : n ≤ 3000) (h0 : 0 < N) (h1 : N ≤ 120) (hp : 0 < p ∧ p ≤ 120) : compO (some (rowI n mf)) (cmpF cf gl [16] (.nm 16) .nil e14_8 [s0, some (.val, .int N), s2, s3, s4, s5, some (.val, .int p), s7, s8, s9, s10, s11, s12, s13, s14, s15, s16]) = some (.own, .lst (rowI n fun i => mf i * (N / p) % N)) :=
  compI (fun i hi => by
    have b1 : 0 ≤ N / p := Int.ediv_nonneg (by omega) (by omega)
    have b2 : N / p ≤ N := Int.ediv_le_self _ (by omega)
    simp -implicitDefEqProofs (disch := omega) only [cmpF, wipeE, e14_8, runF, List.length_cons, List.length_nil, List.map_cons, List.map_nil, List.cons_append, List.nil_append, List.append_nil, List.replicate_succ, List.replicate_zero, Nat.reduceAdd, Nat.reduceSub, Nat.zero_add, Nat.reduceLT, Nat.reduceLeDiff, List.getElem?_cons_zero, List.getElem?_cons_succ, List.set_cons_zero, List.set_cons_succ, rdV, D.isMut, if_true, if_false, ite_true, ite_false, reduceCtorEq, true_or, or_true, and_self, or_false, false_or, Bool.false_eq_true, x_var, x_int, x_str, x_bl, x_non, x_bin, x_and, x_or, x_andN, x_orN, x_andC, x_orC, x_not, x_neg, x_ite, x_lst, x_tup, x_nil, x_cons, x_call, x_bi, x_slc, x_isi, x_oN, x_sNil, x_sCons, x_set, x_sIte, x_ret, x_retN, x_brk, x_cnt, x_pass, x_doc, j_bin, j_un, j_seq, j_seqR, j_seqB, j_seqC, j_iteT, j_iteF, j_iteCT, j_iteCF, j_andT, j_andF, j_orT, j_orF, j_bl, j_cons, j_bi, j_asB, j_stV, j_stO, j_ret, retE, j_sl, o_add, o_sub, o_mulL, o_mulR, o_div, o_mod, o_pow, o_lt, o_le, o_gt, o_ge, o_eq, o_ne, o_isB, b_int, b_intB, b_lenL, b_lenT, b_max, b_min, b_tupL, b_tupT, b_lstL, b_lstT, b_abs, Option.bind_some, Option.map_some, Option.bind_none, Option.map_none, x_lock, x_frz, x_for, x_mth, x_unp, x_setIx, x_comp, x_it, x_rng, x_enm, x_zip, j_lockV, j_lockB, j_lockO, j_frzO, j_frzV, j_frzB, j_own, j_itL, j_itT, j_enmL, j_enmT, safeI, safeS, t_nm, t_tup, t_tupL, t_nil, t_cons, f_nil, f_one, v_val, v_own, argM, j_lst2, j_tup2, vls_nil, vls_val, vls_own, lstO_s, tupO_s, turn_nx, turn_cnt, fin_r, fin_n, rowI_len, row_len, o_iL, o_iT, o_rL, o_t0, o_t1, o_l0, o_l1, o_l2, r_n, s_from, s_fromI, s_to, s_toI, x_oI, x_oB, x_oV, opt_int, o_addI, o_addR, o_in2, Int.toNat_natCast, Int.reduceToNat, Int.reduceEq, Int.reduceLT, Int.reduceLE, Int.reduceAdd, Int.reduceSub, Int.reduceMul, Int.reduceNeg, decide_true, decide_false, eq_self, Bool.true_or, Bool.or_true, Bool.or_false, Bool.false_or, Bool.not_true, Bool.not_false, sq_it, Int.cast_ofNat_Int]) (by omega)
theorem l14_5 {j : Nat} (hj : j < w) (hok : ∀ i, i < n → okR w (h i)) (t0 : Int) : ∃ (t : Int) (s : Option My.C), loopF (setT (.nm 12)) (evS cf gl fu b14_5) (rowI n fun i => (i : Int)) [some (.val, .lst (row n fun i => encR true w (h i))), s1, s2, s3, s4, s5, s6, s7, some (.own, .lst (rowI n mf)), s9, some (.val, .int (j : Int)), some (.val, .int t0), s12, s13, s14, s15, s16] =
    some (.nx [some (.val, .lst (row n fun i => encR true w (h i))), s1, s2, s3, s4, s5, s6, s7, some (.own, .lst (rowI n mf)), s9, some (.val, .int (j : Int)), some (.val, .int t), s, s13, s14, s15, s16]) := by
  obtain ⟨e, he, t, s, rfl⟩ := loop_to (g := setT (.nm 12)) (b := evS cf gl fu b14_5) (fun i e => ∃ (t : Int) (s : Option My.C),
      e = [some (.val, .lst (row n fun i => encR true w (h i))), s1, s2, s3, s4, s5, s6, s7, some (.own, .lst (rowI n mf)), s9, some (.val, .int (j : Int)), some (.val, .int t), s, s13, s14, s15, s16])
    (ds := rowI n fun i => (i : Int)) (env := [some (.val, .lst (row n fun i => encR true w (h i))), s1, s2, s3, s4, s5, s6, s7, some (.own, .lst (rowI n mf)), s9, some (.val, .int (j : Int)), some (.val, .int t0), s12, s13, s14, s15, s16]) ⟨t0, s12, rfl⟩ (by
      rintro i dd e hd0 _ ⟨t, s, rfl⟩
      obtain ⟨hi, rfl⟩ := row_some hd0
      obtain ⟨_, _⟩ := (hok i hi).1 j hj
      exact ⟨_, by simp -implicitDefEqProofs (disch := omega) only [b14_5, runF, List.length_cons, List.length_nil, List.map_cons, List.map_nil, List.cons_append, List.nil_append, List.append_nil, List.replicate_succ, List.replicate_zero, Nat.reduceAdd, Nat.reduceSub, Nat.zero_add, Nat.reduceLT, Nat.reduceLeDiff, List.getElem?_cons_zero, List.getElem?_cons_succ, List.set_cons_zero, List.set_cons_succ, rdV, D.isMut, if_true, if_false, ite_true, ite_false, reduceCtorEq, true_or, or_true, and_self, or_false, false_or, Bool.false_eq_true, x_var, x_int, x_str, x_bl, x_non, x_bin, x_and, x_or, x_andN, x_orN, x_andC, x_orC, x_not, x_neg, x_ite, x_lst, x_tup, x_nil, x_cons, x_call, x_bi, x_slc, x_isi, x_oN, x_sNil, x_sCons, x_set, x_sIte, x_ret, x_retN, x_brk, x_cnt, x_pass, x_doc, j_bin, j_un, j_seq, j_seqR, j_seqB, j_seqC, j_iteT, j_iteF, j_iteCT, j_iteCF, j_andT, j_andF, j_orT, j_orF, j_bl, j_cons, j_bi, j_asB, j_stV, j_stO, j_ret, retE, j_sl, o_add, o_sub, o_mulL, o_mulR, o_div, o_mod, o_pow, o_lt, o_le, o_gt, o_ge, o_eq, o_ne, o_isB, b_int, b_intB, b_lenL, b_lenT, b_max, b_min, b_tupL, b_tupT, b_lstL, b_lstT, b_abs, Option.bind_some, Option.map_some, Option.bind_none, Option.map_none, x_lock, x_frz, x_for, x_mth, x_unp, x_setIx, x_comp, x_it, x_rng, x_enm, x_zip, j_lockV, j_lockB, j_lockO, j_frzO, j_frzV, j_frzB, j_own, j_itL, j_itT, j_enmL, j_enmT, safeI, safeS, t_nm, t_tup, t_tupL, t_nil, t_cons, f_nil, f_one, v_val, v_own, argM, j_lst2, j_tup2, vls_nil, vls_val, vls_own, lstO_s, tupO_s, turn_nx, turn_cnt, fin_r, fin_n, rowI_len, row_len, o_iL, o_iT, o_rL, o_t0, o_t1, o_l0, o_l1, o_l2, r_n, s_from, s_fromI, s_to, s_toI, x_oI, x_oB, x_oV, opt_int, o_addI, o_addR, o_in2, Int.toNat_natCast, Int.reduceToNat, Int.reduceEq, Int.reduceLT, Int.reduceLE, Int.reduceAdd, Int.reduceSub, Int.reduceMul, Int.reduceNeg, decide_true, decide_false, eq_self, Bool.true_or, Bool.or_true, Bool.or_false, Bool.false_or, Bool.not_true, Bool.not_false, sq_it, Int.cast_ofNat_Int, o_e0, o_e1]; rfl, _, _, rfl⟩)
  exact ⟨t, s, he⟩
theorem l14_7 (hok : ∀ i, i < n → okR w (h i)) (t0 : Int) : ∃ (t : Int) (s : Option My.C), loopF (setT (.nm 12)) (evS cf gl fu b14_7) (rowI n fun i => (i : Int)) [some (.val, .lst (row n fun i => encR true w (h i))), s1, s2, s3, s4, s5, s6, s7, some (.own, .lst (rowI n mf)), s9, s10, some (.val, .int t0), s12, s13, s14, s15, s16] =
    some (.nx [some (.val, .lst (row n fun i => encR true w (h i))), s1, s2, s3, s4, s5, s6, s7, some (.own, .lst (rowI n mf)), s9, s10, some (.val, .int t), s, s13, s14, s15, s16]) := by
  obtain ⟨e, he, t, s, rfl⟩ := loop_to (g := setT (.nm 12)) (b := evS cf gl fu b14_7) (fun i e => ∃ (t : Int) (s : Option My.C),
      e = [some (.val, .lst (row n fun i => encR true w (h i))), s1, s2, s3, s4, s5, s6, s7, some (.own, .lst (rowI n mf)), s9, s10, some (.val, .int t), s, s13, s14, s15, s16])
    (ds := rowI n fun i => (i : Int)) (env := [some (.val, .lst (row n fun i => encR true w (h i))), s1, s2, s3, s4, s5, s6, s7, some (.own, .lst (rowI n mf)), s9, s10, some (.val, .int t0), s12, s13, s14, s15, s16]) ⟨t0, s12, rfl⟩ (by
      rintro i dd e hd0 _ ⟨t, s, rfl⟩
      obtain ⟨hi, rfl⟩ := row_some hd0
      obtain ⟨_, _⟩ := (hok i hi).2
      exact ⟨_, by simp -implicitDefEqProofs (disch := omega) only [b14_7, runF, List.length_cons, List.length_nil, List.map_cons, List.map_nil, List.cons_append, List.nil_append, List.append_nil, List.replicate_succ, List.replicate_zero, Nat.reduceAdd, Nat.reduceSub, Nat.zero_add, Nat.reduceLT, Nat.reduceLeDiff, List.getElem?_cons_zero, List.getElem?_cons_succ, List.set_cons_zero, List.set_cons_succ, rdV, D.isMut, if_true, if_false, ite_true, ite_false, reduceCtorEq, true_or, or_true, and_self, or_false, false_or, Bool.false_eq_true, x_var, x_int, x_str, x_bl, x_non, x_bin, x_and, x_or, x_andN, x_orN, x_andC, x_orC, x_not, x_neg, x_ite, x_lst, x_tup, x_nil, x_cons, x_call, x_bi, x_slc, x_isi, x_oN, x_sNil, x_sCons, x_set, x_sIte, x_ret, x_retN, x_brk, x_cnt, x_pass, x_doc, j_bin, j_un, j_seq, j_seqR, j_seqB, j_seqC, j_iteT, j_iteF, j_iteCT, j_iteCF, j_andT, j_andF, j_orT, j_orF, j_bl, j_cons, j_bi, j_asB, j_stV, j_stO, j_ret, retE, j_sl, o_add, o_sub, o_mulL, o_mulR, o_div, o_mod, o_pow, o_lt, o_le, o_gt, o_ge, o_eq, o_ne, o_isB, b_int, b_intB, b_lenL, b_lenT, b_max, b_min, b_tupL, b_tupT, b_lstL, b_lstT, b_abs, Option.bind_some, Option.map_some, Option.bind_none, Option.map_none, x_lock, x_frz, x_for, x_mth, x_unp, x_setIx, x_comp, x_it, x_rng, x_enm, x_zip, j_lockV, j_lockB, j_lockO, j_frzO, j_frzV, j_frzB, j_own, j_itL, j_itT, j_enmL, j_enmT, safeI, safeS, t_nm, t_tup, t_tupL, t_nil, t_cons, f_nil, f_one, v_val, v_own, argM, j_lst2, j_tup2, vls_nil, vls_val, vls_own, lstO_s, tupO_s, turn_nx, turn_cnt, fin_r, fin_n, rowI_len, row_len, o_iL, o_iT, o_rL, o_t0, o_t1, o_l0, o_l1, o_l2, r_n, s_from, s_fromI, s_to, s_toI, x_oI, x_oB, x_oV, opt_int, o_addI, o_addR, o_in2, Int.toNat_natCast, Int.reduceToNat, Int.reduceEq, Int.reduceLT, Int.reduceLE, Int.reduceAdd, Int.reduceSub, Int.reduceMul, Int.reduceNeg, decide_true, decide_false, eq_self, Bool.true_or, Bool.or_true, Bool.or_false, Bool.false_or, Bool.not_true, Bool.not_false, sq_it, Int.cast_ofNat_Int, o_e0, o_e1]; rfl, _, _, rfl⟩)
  exact ⟨t, s, he⟩
theorem j_appI {s k : Nat} {c : Nat → Int} {env : Sl} (hk : k < 16777216) : mthO s .append (some (rowI k c)) (some [(.val, .int v)]) env = some (.nx (env.set s (some (.own, .lst (rowI (k + 1) (upd c k v)))))) := by
  rw [j_app v_val (by rw [rowI_len]; exact hk)]
  exact congrArg (fun l => some (Out.nx (env.set s (some (.own, .lst l))))) (row_snoc (fun i hi => by rw [upd_ne (by omega)]) (by rw [upd_eq]))
theorem l14_6 (hn : Near cf) (hw : w ≤ 40) (hn3 : n ≤ 3000) (hp : 0 < p ∧ p ≤ 120) (hok : ∀ i, i < n → okR w (h i)) : ∃ (c : Nat → Int) (a b d : Option My.C), (∀ j, j < w → sml (c j)) ∧
    loopF (setT (.nm 10)) (evS cf gl fu b14_6) (rowI w fun i => (i : Int)) [some (.val, .lst (row n fun i => encR true w (h i))), s1, s2, s3, some (.own, .lst (rowI (3 + (w + 1) + n) f)), s5, some (.val, .int p), s7, some (.own, .lst (rowI n mf)), some (.own, .lst []), s10, s11, s12, s13, s14, s15, s16] =
    some (.nx [some (.val, .lst (row n fun i => encR true w (h i))), s1, s2, s3, some (.own, .lst (rowI (3 + (w + 1) + n) f)), s5, some (.val, .int p), s7, some (.own, .lst (rowI n mf)), some (.own, .lst (rowI w c)), a, b, d, s13, s14, s15, s16]) := by
  obtain ⟨e, he, c, a, b, d, hc, rfl⟩ := loop_to (g := setT (.nm 10)) (b := evS cf gl fu b14_6) (fun i e => ∃ (c : Nat → Int) (a b d : Option My.C), (∀ j, j < i → sml (c j)) ∧
      e = [some (.val, .lst (row n fun i => encR true w (h i))), s1, s2, s3, some (.own, .lst (rowI (3 + (w + 1) + n) f)), s5, some (.val, .int p), s7, some (.own, .lst (rowI n mf)), some (.own, .lst (rowI i c)), a, b, d, s13, s14, s15, s16])
    (ds := rowI w fun i => (i : Int)) (env := [some (.val, .lst (row n fun i => encR true w (h i))), s1, s2, s3, some (.own, .lst (rowI (3 + (w + 1) + n) f)), s5, some (.val, .int p), s7, some (.own, .lst (rowI n mf)), some (.own, .lst []), s10, s11, s12, s13, s14, s15, s16]) ⟨fun _ => 0, s10, s11, s12, fun j hj => absurd hj (Nat.not_lt_zero j), rfl⟩ (by
      rintro i dd e hd0 _ ⟨c, a, b, d, hc, rfl⟩
      obtain ⟨hi, rfl⟩ := row_some hd0
      obtain ⟨t, s, ht⟩ := l14_5 (cf := cf) (gl := gl) (fu := fu) (mf := mf) (s1 := s1) (s2 := s2) (s3 := s3) (s4 := some (.own, .lst (rowI (3 + (w + 1) + n) f))) (s5 := s5) (s6 := some (.val, .int p)) (s7 := s7) (s9 := some (.own, .lst (rowI i c))) (s12 := d) (s13 := s13) (s14 := s14) (s15 := s15) (s16 := s16) hi hok 0
      exact ⟨_, by simp -implicitDefEqProofs (disch := omega) only [b14_6, runF, List.length_cons, List.length_nil, List.map_cons, List.map_nil, List.cons_append, List.nil_append, List.append_nil, List.replicate_succ, List.replicate_zero, Nat.reduceAdd, Nat.reduceSub, Nat.zero_add, Nat.reduceLT, Nat.reduceLeDiff, List.getElem?_cons_zero, List.getElem?_cons_succ, List.set_cons_zero, List.set_cons_succ, rdV, D.isMut, if_true, if_false, ite_true, ite_false, reduceCtorEq, true_or, or_true, and_self, or_false, false_or, Bool.false_eq_true, x_var, x_int, x_str, x_bl, x_non, x_bin, x_and, x_or, x_andN, x_orN, x_andC, x_orC, x_not, x_neg, x_ite, x_lst, x_tup, x_nil, x_cons, x_call, x_bi, x_slc, x_isi, x_oN, x_sNil, x_sCons, x_set, x_sIte, x_ret, x_retN, x_brk, x_cnt, x_pass, x_doc, j_bin, j_un, j_seq, j_seqR, j_seqB, j_seqC, j_iteT, j_iteF, j_iteCT, j_iteCF, j_andT, j_andF, j_orT, j_orF, j_bl, j_cons, j_bi, j_asB, j_stV, j_stO, j_ret, retE, j_sl, o_add, o_sub, o_mulL, o_mulR, o_div, o_mod, o_pow, o_lt, o_le, o_gt, o_ge, o_eq, o_ne, o_isB, b_int, b_intB, b_lenL, b_lenT, b_max, b_min, b_tupL, b_tupT, b_lstL, b_lstT, b_abs, Option.bind_some, Option.map_some, Option.bind_none, Option.map_none, x_lock, x_frz, x_for, x_mth, x_unp, x_setIx, x_comp, x_it, x_rng, x_enm, x_zip, j_lockV, j_lockB, j_lockO, j_frzO, j_frzV, j_frzB, j_own, j_itL, j_itT, j_enmL, j_enmT, safeI, safeS, t_nm, t_tup, t_tupL, t_nil, t_cons, f_nil, f_one, v_val, v_own, argM, j_lst2, j_tup2, vls_nil, vls_val, vls_own, lstO_s, tupO_s, turn_nx, turn_cnt, fin_r, fin_n, rowI_len, row_len, o_iL, o_iT, o_rL, o_t0, o_t1, o_l0, o_l1, o_l2, r_n, s_from, s_fromI, s_to, s_toI, x_oI, x_oB, x_oV, opt_int, o_addI, o_addR, o_in2, Int.toNat_natCast, Int.reduceToNat, Int.reduceEq, Int.reduceLT, Int.reduceLE, Int.reduceAdd, Int.reduceSub, Int.reduceMul, Int.reduceNeg, decide_true, decide_false, eq_self, Bool.true_or, Bool.or_true, Bool.or_false, Bool.false_or, Bool.not_true, Bool.not_false, sq_it, Int.cast_ofNat_Int, j_for ht, hn.j, j_appI]; rfl, _, _, _, _, upd_all hc (near_sml hp.1 (by omega)), rfl⟩)
  rw [rowI_len] at he hc
  exact ⟨c, a, b, d, hc, he⟩
end
end My
end

section
set_option Elab.async false
set_option linter.all false
set_option maxRecDepth 100000
set_option maxHeartbeats 2000000
namespace My
open PySem
def sz3 : List Int := [60, 3000, 119]
theorem l3 : ([.int 60, .int 3000, .int 119] : List D) = rowI 3 fun i => sz3.getD i 0 := rfl
def sz14 (w : Nat) (i : Nat) : Int := if i < 3 + (w + 1) then (if i < 3 then sz3.getD i 0 else 20001) else 8
theorem sz14_b {w i : Nat} : 0 < sz14 w i ∧ sz14 w i ≤ 20001 := by
  unfold sz14
  split
  · split
    · have : ∀ i, i < 3 → 0 < sz3.getD i 0 ∧ sz3.getD i 0 ≤ 20001 := by decide
      exact this i (by assumption)
    · exact ⟨by omega, by omega⟩
  · exact ⟨by omega, by omega⟩
theorem m8_b {p : Int} (h : 0 < p ∧ p ≤ 120) : ∀ i : Nat, sml ((m8 p).getD i 0)
  | 0 => ⟨by show (-1000000 : Int) ≤ 0; omega, by show (0 : Int) ≤ 1000000; omega⟩
  | 1 => ⟨by show (-1000000 : Int) ≤ 0; omega, by show (0 : Int) ≤ 1000000; omega⟩
  | 2 => ⟨by show (-1000000 : Int) ≤ 0; omega, by show (0 : Int) ≤ 1000000; omega⟩
  | 3 => ⟨by show (-1000000 : Int) ≤ 1; omega, by show (1 : Int) ≤ 1000000; omega⟩
  | 4 => ⟨by show (-1000000 : Int) ≤ p - 1; omega, by show (p - 1 : Int) ≤ 1000000; omega⟩
  | 5 => ⟨by show (-1000000 : Int) ≤ 2; omega, by show (2 : Int) ≤ 1000000; omega⟩
  | 6 => ⟨by show (-1000000 : Int) ≤ 3; omega, by show (3 : Int) ≤ 1000000; omega⟩
  | 7 => ⟨by show (-1000000 : Int) ≤ 5; omega, by show (5 : Int) ≤ 1000000; omega⟩
  | _ + 8 => ⟨by show (-1000000 : Int) ≤ 0; omega, by show (0 : Int) ≤ 1000000; omega⟩
section
variable {cf : CF} {gl : Nat → Option D} {fu n w : Nat} {N v : Int} {h : Nat → Rw}
/-- _law_barred -/
theorem barred_ok (hn : Near cf) (hd : Digits cf) (hw : w ≤ 40) (hn0 : 0 < n) (hn3 : n ≤ 3000) (h0 : 2 ≤ N) (h1 : N ≤ 120) (hok : ∀ i, i < n → okR w (h i)) :
    ∃ (h' : Nat → Rw) (y : Nat → Int) (a : Nat), (∀ i, i < n → okR w (h' i)) ∧ a < n ∧ runF cf gl fu d14 [(.val, .lst (row n fun i => encR true w (h i))), (.val, .int N), (.val, .int (w : Int)), (.val, .int v)] =
      some (.own, .lst [.lst (row n fun i => encR true w (h' i)), .lst (rowI n y), .int (a : Int)]) := by
  obtain ⟨f, hf, hc⟩ := hd v (3 + (w + 1) + n) (sz14 w) .val (.inl rfl) (fun i hi => by have := @sz14_b w i; exact ⟨by omega, by omega⟩) (by omega)
  have hc2 : callO (cf 4) (some [(.val, .int v), (.own, .lst (rowI (3 + (w + 1) + n) fun i => if i < 3 + (w + 1) then (if i < 3 then sz3.getD i 0 else 20001) else 8))]) = some (.own, .lst (rowI (3 + (w + 1) + n) f)) := j_call hc (.inr rfl)
  have fb : ∀ i, i < 3 + (w + 1) + n → 0 ≤ f i ∧ f i ≤ 20001 := fun i hi => by have := hf i hi; have := @sz14_b w i; exact ⟨by omega, by omega⟩
  have f8 : ∀ i, i < n → 0 ≤ f (4 + w + i) ∧ f (4 + w + i) < 8 := fun i hi => by
    have q := hf (4 + w + i) (by omega)
    have z : sz14 w (4 + w + i) = 8 := by unfold sz14; rw [if_neg (by omega)]
    rw [z] at q
    exact q
  have rw1 : ∀ m, rngO (some [(m, .int ((w : Int) + 1))]) = some (rowI (w + 1) fun i => (i : Int)) := fun m => r_n (n := w + 1) (by omega)
  have f0 := fb 0 (by omega)
  have f1 := fb 1 (by omega)
  have f2 := fb 2 (by omega)
  have dp := divs_pos (lo := 2) (N := N) (by omega) (by omega)
  obtain ⟨p, g1, g2, g3⟩ := divs_ix (lo := 2) (N := N) (i := f 0 % ((divs 2 N).length : Int)) ⟨Int.emod_nonneg _ (by omega), Int.emod_lt_of_pos _ (by omega)⟩
  have k1 := And.intro (Int.emod_nonneg (f 1) (show (n : Int) ≠ 0 by omega)) (Int.emod_lt_of_pos (f 1) (show (0 : Int) < n by omega))
  generalize hk : (f 1 % (n : Int)).toNat = k
  have ek : f 1 % (n : Int) = (k : Int) := by omega
  have hkn : k < n := by omega
  have en : 3 + (w + 1) + n - (4 + (w : Int)).toNat = n := by omega
  have en2 : (4 + (w : Int)).toNat = 4 + w := by omega
  have e1 : ((k : Int) + 1).toNat = k + 1 := by omega
  have s1 := s_fromI (n := 3 + (w + 1) + n) (f := f) (k := 4 + (w : Int)) (by omega)
  rw [en, en2] at s1
  generalize hmf : upd (fun i => (m8 p).getD (f (4 + w + i)).toNat 0) k 0 = mf
  obtain ⟨c, a, b, d, hcs, h6⟩ := l14_6 (cf := cf) (gl := gl) (fu := fu) (mf := mf) (f := f) (s1 := some (.val, .int N)) (s2 := some (.val, .int (w : Int))) (s3 := some (.val, .int v)) (s5 := some (.own, .lst (divs 2 N))) (s7 := some (.val, .int (k : Int))) (s10 := none) (s11 := none) (s12 := none) (s13 := none) (s14 := none) (s15 := none) (s16 := none) hn hw hn3 (p := p) ⟨by omega, by omega⟩ hok
  obtain ⟨t, s, h7⟩ := l14_7 (cf := cf) (gl := gl) (fu := fu) (mf := mf) (s1 := some (.val, .int N)) (s2 := some (.val, .int (w : Int))) (s3 := some (.val, .int v)) (s4 := some (.own, .lst (rowI (3 + (w + 1) + n) f))) (s5 := some (.own, .lst (divs 2 N))) (s6 := some (.val, .int p)) (s7 := some (.val, .int (k : Int))) (s9 := some (.own, .lst (rowI w c))) (s10 := a) (s12 := d) (s13 := none) (s14 := none) (s15 := none) (s16 := none) hok (1 + f 2 % (p - 1))
  refine ⟨upd h k (c, near t p (f (3 + (w : Int)).toNat)), fun i => upd mf k (-1) i * (N / p) % N, k, upd_any hok ⟨hcs, near_sml (by omega) (by omega)⟩, hkn, ?_⟩
  simp -implicitDefEqProofs (disch := omega) only [d14, b14, runF, List.length_cons, List.length_nil, List.map_cons, List.map_nil, List.cons_append, List.nil_append, List.append_nil, List.replicate_succ, List.replicate_zero, Nat.reduceAdd, Nat.reduceSub, Nat.zero_add, Nat.reduceLT, Nat.reduceLeDiff, List.getElem?_cons_zero, List.getElem?_cons_succ, List.set_cons_zero, List.set_cons_succ, rdV, D.isMut, if_true, if_false, ite_true, ite_false, reduceCtorEq, true_or, or_true, and_self, or_false, false_or, Bool.false_eq_true, x_var, x_int, x_str, x_bl, x_non, x_bin, x_and, x_or, x_andN, x_orN, x_andC, x_orC, x_not, x_neg, x_ite, x_lst, x_tup, x_nil, x_cons, x_call, x_bi, x_slc, x_isi, x_oN, x_sNil, x_sCons, x_set, x_sIte, x_ret, x_retN, x_brk, x_cnt, x_pass, x_doc, j_bin, j_un, j_seq, j_seqR, j_seqB, j_seqC, j_iteT, j_iteF, j_iteCT, j_iteCF, j_andT, j_andF, j_orT, j_orF, j_bl, j_cons, j_bi, j_asB, j_stV, j_stO, j_ret, retE, j_sl, o_add, o_sub, o_mulL, o_mulR, o_div, o_mod, o_pow, o_lt, o_le, o_gt, o_ge, o_eq, o_ne, o_isB, b_int, b_intB, b_lenL, b_lenT, b_max, b_min, b_tupL, b_tupT, b_lstL, b_lstT, b_abs, Option.bind_some, Option.map_some, Option.bind_none, Option.map_none, x_lock, x_frz, x_for, x_mth, x_unp, x_setIx, x_comp, x_it, x_rng, x_enm, x_zip, j_lockV, j_lockB, j_lockO, j_frzO, j_frzV, j_frzB, j_own, j_itL, j_itT, j_enmL, j_enmT, safeI, safeS, t_nm, t_tup, t_tupL, t_nil, t_cons, f_nil, f_one, v_val, v_own, argM, j_lst2, j_tup2, vls_nil, vls_val, vls_own, lstO_s, tupO_s, turn_nx, turn_cnt, fin_r, fin_n, rowI_len, row_len, o_iL, o_iT, o_rL, o_t0, o_t1, o_l0, o_l1, o_l2, r_n, s_from, s_fromI, s_to, s_toI, x_oI, x_oB, x_oV, opt_int, o_addI, o_addR, o_in2, Int.toNat_natCast, Int.reduceToNat, Int.reduceEq, Int.reduceLT, Int.reduceLE, Int.reduceAdd, Int.reduceSub, Int.reduceMul, Int.reduceNeg, decide_true, decide_false, eq_self, Bool.true_or, Bool.or_true, Bool.or_false, Bool.false_or, Bool.not_true, Bool.not_false, sq_it, Int.cast_ofNat_Int, l3, c14_1 hw, c14_2 hn3, rw1, hc2, r_2, c14_3 h0 (show N ≤ 9000 by omega), g3, ek, s1, c14_4 hn3 f8, j_setI, hmf, j_for h6, j_for h7, hn.j, e1, o_add1, splice_enc hkn, c14_8 hn3 (show 0 < N by omega) h1 (show 0 < p ∧ p ≤ 120 by omega)]
end
end My
end

section
set_option Elab.async false
set_option linter.all false
set_option maxRecDepth 100000
set_option maxHeartbeats 2000000
namespace My
open PySem
theorem r_3 {m m' m'' : M} {i j c : Int} (h : 0 ≤ i ∧ i < 1073741824 ∧ 0 ≤ j ∧ j < 1073741824 ∧ 0 < c ∧ c < 1073741824) :
    rngO (some [(m, .int i), (m', .int j), (m'', .int c)]) = some ((List.range (if i < j then (j - i - 1) / c + 1 else 0 : Int).toNat).map fun (k : Nat) => D.int (i + k * c)) := by
  simp only [rngO, range3, h, and_self, if_true]
theorem rng3_mem {i j c : Int} (hi : 0 ≤ i) (hc : 0 < c) : ∀ d ∈ ((List.range (if i < j then (j - i - 1) / c + 1 else 0 : Int).toNat).map fun (k : Nat) => D.int (i + k * c)), ∃ q : Int, d = .int q ∧ 0 ≤ q ∧ q < j := by
  intro d hd
  obtain ⟨k, hk, rfl⟩ := List.mem_map.mp hd
  have hk := List.mem_range.mp hk
  refine ⟨_, rfl, ?_, ?_⟩
  · have := Int.mul_nonneg (show (0 : Int) ≤ k by omega) (show 0 ≤ c by omega)
    omega
  · by_cases q : i < j
    · rw [if_pos q] at hk
      have a := Int.ediv_mul_le (j - i - 1) (show c ≠ 0 by omega)
      have b : (k : Int) * c ≤ (j - i - 1) / c * c := Int.mul_le_mul_of_nonneg_right (by omega) (by omega)
      omega
    · rw [if_neg q] at hk
      exact absurd hk (by simp)
def rng3 (i j c : Int) : List D := (List.range (if i < j then (j - i - 1) / c + 1 else 0 : Int).toNat).map fun (k : Nat) => D.int (i + k * c)
def Right15 (cf : CF) : Prop := ∀ (n w : Nat) (h : Nat → Rw) (a v : Int), w ≤ 40 → n ≤ 3000 → 0 ≤ a → a < (n : Int) → 0 ≤ v → v ≤ 20000 → (∀ i, i < n → okR w (h i)) →
  ∃ h' : Nat → Rw, (∀ i, i < n → okR w (h' i)) ∧ cf 15 [(.val, .lst (row n fun i => encR true w (h i))), (.val, .int a), (.val, .int v)] = some (.own, .lst (row n fun i => encR true w (h' i)))
def Coef16 (cf : CF) : Prop := ∀ (n w : Nat) (h : Nat → Rw) (a j v : Int), w ≤ 40 → n ≤ 3000 → 0 ≤ a → a < (n : Int) → 0 ≤ j → j < (w : Int) → sml v → (∀ i, i < n → okR w (h i)) →
  ∃ h' : Nat → Rw, (∀ i, i < n → okR w (h' i)) ∧ cf 16 [(.val, .lst (row n fun i => encR true w (h i))), (.val, .int a), (.val, .int j), (.val, .int v)] = some (.own, .lst (row n fun i => encR true w (h' i)))
def Chg17 (cf : CF) : Prop := ∀ (n : Nat) (x : Nat → Int) (a v : Int), 0 ≤ a → a < (n : Int) → ∃ x' : Nat → Int, cf 17 [(.val, .lst (rowI n x)), (.val, .int a), (.val, .int v)] = some (.own, .lst (rowI n x'))
def Sol19 (cf : CF) : Prop := ∀ (n w : Nat) (h : Nat → Rw) (x : Nat → Int) (N v : Int), w ≤ 40 → n ≤ 3000 → 0 < N → 0 ≤ v → (∀ i, i < n → okR w (h i)) → cf 19 [(.val, .lst (row n fun i => encR true w (h i))), (.val, .int N), (.val, .lst (rowI w x)), (.val, .int v)] = some (.val, .bl true)
def Wei20 (cf : CF) : Prop := ∀ (n w : Nat) (h : Nat → Rw) (y : Nat → Int) (N v : Int), w ≤ 40 → n ≤ 3000 → 0 < N → 0 ≤ v → (∀ i, i < n → okR w (h i)) → cf 20 [(.val, .lst (row n fun i => encR true w (h i))), (.val, .int N), (.val, .int (w : Int)), (.val, .lst (rowI n y)), (.val, .int v)] = some (.val, .bl true)
theorem j_appV {i : Nat} {l : List D} {d : D} {env : Sl} (h2 : l.length < 16777216) : mthO i .append (some l) (some [(.val, d)]) env = some (.nx (env.set i (some (.own, .lst (l ++ [d]))))) := j_app v_val h2
/-- a question: rows and numbers -/
def GoodQ (n w m : Nat) (d : D) : Prop := ∃ (h : Nat → Rw) (x : Nat → Int), (∀ i, i < n → okR w (h i)) ∧ d = .tup [.lst (row n fun i => encR true w (h i)), .lst (rowI m x)]
section
variable {cf : CF} {gl : Nat → Option D} {fu n w m : Nat} {N v p : Int} {h : Nat → Rw} {f x y : Nat → Int} {l : List D} {s0 s1 s2 s3 s4 s5 s6 s7 s8 s9 s10 s11 s12 s13 s14 : Option My.C}
theorem good_one (hok : ∀ i, i < n → okR w (h i)) : GoodQ n w m (.tup [.lst (row n fun i => encR true w (h i)), .lst (rowI m x)]) := ⟨h, x, hok, rfl⟩
theorem l21 (h19 : Sol19 cf) (hw : w ≤ 40) (hn : n ≤ 3000) (h0 : 0 < N) (hv : 0 ≤ v) (hg : ∀ d ∈ l, GoodQ n w w d) {ds : List D} (hds : ∀ d ∈ ds, ∃ q : Int, d = .int q ∧ 0 ≤ q ∧ q < (l.length : Int)) :
    ∃ s, loopF (setT (.nm 10)) (evS cf gl fu b21_1) ds [s0, some (.val, .int N), s2, s3, s4, some (.val, .int v), s6, s7, s8, some (.own, .lst l), s10] = some (.nx [s0, some (.val, .int N), s2, s3, s4, some (.val, .int v), s6, s7, s8, some (.own, .lst l), s]) := by
  obtain ⟨e, he, s, rfl⟩ := loop_to (g := setT (.nm 10)) (b := evS cf gl fu b21_1) (fun i e => ∃ s, e = [s0, some (.val, .int N), s2, s3, s4, some (.val, .int v), s6, s7, s8, some (.own, .lst l), s])
    (ds := ds) (env := [s0, some (.val, .int N), s2, s3, s4, some (.val, .int v), s6, s7, s8, some (.own, .lst l), s10]) ⟨s10, rfl⟩ (by
      rintro i dd e hd0 _ ⟨s, rfl⟩
      obtain ⟨q, rfl, q0, q1⟩ := hds _ (List.mem_of_getElem? hd0)
      obtain ⟨d, hd, hi⟩ := o_mem ⟨q0, q1⟩
      obtain ⟨h', x', hok, rfl⟩ := hg d hd
      have hc : callO (cf 19) (some [(.val, .lst (row n fun i => encR true w (h' i))), (.val, .int N), (.val, .lst (rowI w x')), (.val, .int ((q + v) % 4))]) = some (.val, .bl true) := j_call (h19 n w h' x' N _ hw hn h0 (by omega) hok) (.inl rfl)
      exact ⟨_, by simp -implicitDefEqProofs (disch := omega) only [b21_1, runF, List.length_cons, List.length_nil, List.map_cons, List.map_nil, List.cons_append, List.nil_append, List.append_nil, List.replicate_succ, List.replicate_zero, Nat.reduceAdd, Nat.reduceSub, Nat.zero_add, Nat.reduceLT, Nat.reduceLeDiff, List.getElem?_cons_zero, List.getElem?_cons_succ, List.set_cons_zero, List.set_cons_succ, rdV, D.isMut, if_true, if_false, ite_true, ite_false, reduceCtorEq, true_or, or_true, and_self, or_false, false_or, Bool.false_eq_true, x_var, x_int, x_str, x_bl, x_non, x_bin, x_and, x_or, x_andN, x_orN, x_andC, x_orC, x_not, x_neg, x_ite, x_lst, x_tup, x_nil, x_cons, x_call, x_bi, x_slc, x_isi, x_oN, x_sNil, x_sCons, x_set, x_sIte, x_ret, x_retN, x_brk, x_cnt, x_pass, x_doc, j_bin, j_un, j_seq, j_seqR, j_seqB, j_seqC, j_iteT, j_iteF, j_iteCT, j_iteCF, j_andT, j_andF, j_orT, j_orF, j_bl, j_cons, j_bi, j_asB, j_stV, j_stO, j_ret, retE, j_sl, o_add, o_sub, o_mulL, o_mulR, o_div, o_mod, o_pow, o_lt, o_le, o_gt, o_ge, o_eq, o_ne, o_isB, b_int, b_intB, b_lenL, b_lenT, b_max, b_min, b_tupL, b_tupT, b_lstL, b_lstT, b_abs, Option.bind_some, Option.map_some, Option.bind_none, Option.map_none, x_lock, x_frz, x_for, x_mth, x_unp, x_setIx, x_comp, x_it, x_rng, x_enm, x_zip, j_lockV, j_lockB, j_lockO, j_frzO, j_frzV, j_frzB, j_own, j_itL, j_itT, j_enmL, j_enmT, safeI, safeS, t_nm, t_tup, t_tupL, t_nil, t_cons, f_nil, f_one, v_val, v_own, argM, j_lst2, j_tup2, vls_nil, vls_val, vls_own, lstO_s, tupO_s, turn_nx, turn_cnt, fin_r, fin_n, rowI_len, row_len, o_iL, o_iT, o_rL, o_t0, o_t1, o_l0, o_l1, o_l2, r_n, s_from, s_fromI, s_to, s_toI, x_oI, x_oB, x_oV, opt_int, o_addI, o_addR, o_in2, Int.toNat_natCast, Int.reduceToNat, Int.reduceEq, Int.reduceLT, Int.reduceLE, Int.reduceAdd, Int.reduceSub, Int.reduceMul, Int.reduceNeg, decide_true, decide_false, eq_self, Bool.true_or, Bool.or_true, Bool.or_false, Bool.false_or, Bool.not_true, Bool.not_false, sq_it, Int.cast_ofNat_Int, hi, hc]; rfl, _, rfl⟩)
  exact ⟨s, he⟩
/-- _law_ask_solutions -/
theorem ask21 (hn : Near cf) (hs : Signed cf) (h15 : Right15 cf) (h16 : Coef16 cf) (h17 : Chg17 cf) (h19 : Sol19 cf) (hw : w ≤ 40) (hn0 : 0 < n) (hn3 : n ≤ 3000) (h0 : 0 < N) (h1 : N ≤ 120) (hv : 0 ≤ v ∧ v < 100) (hp : 0 < p ∧ p < 100)
    (hf : ∀ i, i < 5 → 0 ≤ f i ∧ f i < 20001) (hf3 : f 3 < 80) (hok : ∀ i, i < n → okR w (h i)) :
    runF cf gl fu d21 [(.val, .lst (row n fun i => encR true w (h i))), (.val, .int N), (.val, .int (w : Int)), (.val, .lst (rowI w x)), (.val, .lst (rowI 5 f)), (.val, .int v), (.val, .int p)] = some (.val, .bl true) := by
  have f0 := hf 0 (by omega)
  have f1 := hf 1 (by omega)
  have f2 := hf 2 (by omega)
  have f3 := hf 3 (by omega)
  have f4 := hf 4 (by omega)
  have k1 := And.intro (Int.emod_nonneg (f 0) (show (n : Int) ≠ 0 by omega)) (Int.emod_lt_of_pos (f 0) (show (0 : Int) < n by omega))
  generalize hk : f 0 % (n : Int) = k at *
  have b1 : 0 ≤ N * (1 + f 3) := Int.mul_nonneg (by omega) (by omega)
  have b2 : N * (1 + f 3) ≤ 120 * 80 := Int.mul_le_mul h1 (by omega) (by omega) (by omega)
  have hvp := And.intro (Int.emod_nonneg v (show p ≠ 0 by omega)) (Int.emod_lt_of_pos v hp.1)
  obtain ⟨ha, oka, ca⟩ := h15 n w h k (1 + f 2 % 119) hw hn3 k1.1 k1.2 (by omega) (by omega) hok
  obtain ⟨hb, okb, cb⟩ := h15 n w h k (N * (1 + f 3)) hw hn3 k1.1 k1.2 (by omega) (by omega) hok
  have ca := j_call (cs := [(.val, .lst (row n fun i => encR true w (h i))), (.val, .int k), (.val, .int (1 + f 2 % 119))]) ca (.inr rfl)
  have cb := j_call (cs := [(.val, .lst (row n fun i => encR true w (h i))), (.val, .int k), (.val, .int (N * (1 + f 3)))]) cb (.inr rfl)
  by_cases hz : (0 : Int) < (w : Int)
  · have em : (if (w : Int) > 1 then (w : Int) else 1) = (w : Int) := by split <;> omega
    have k2 := And.intro (Int.emod_nonneg (f 1) (show (w : Int) ≠ 0 by omega)) (Int.emod_lt_of_pos (f 1) hz)
    generalize hj : f 1 % (w : Int) = j at *
    have sg := signed_sml f4.1 f4.2
    have sn := near_sml (r := (h k.toNat).1 j.toNat) (d := f 4) h0 (show N ≤ 9000 by omega)
    obtain ⟨x', cx⟩ := h17 w x j (1 + f 2 % 119) k2.1 k2.2
    obtain ⟨hc, okc, cc⟩ := h16 n w h k j (signed (f 4)) hw hn3 k1.1 k1.2 k2.1 k2.2 sg hok
    obtain ⟨hd, okd, cd⟩ := h16 n w h k j (near ((h k.toNat).1 j.toNat) N (f 4)) hw hn3 k1.1 k1.2 k2.1 k2.2 sn hok
    have cx := j_call (cs := [(.val, .lst (rowI w x)), (.val, .int j), (.val, .int (1 + f 2 % 119))]) cx (.inr rfl)
    have cc := j_call (cs := [(.val, .lst (row n fun i => encR true w (h i))), (.val, .int k), (.val, .int j), (.val, .int (signed (f 4)))]) cc (.inr rfl)
    have cd := j_call (cs := [(.val, .lst (row n fun i => encR true w (h i))), (.val, .int k), (.val, .int j), (.val, .int (near ((h k.toNat).1 j.toNat) N (f 4)))]) cd (.inr rfl)
    have gl6 : ∀ d ∈ ([.tup [.lst (row n fun i => encR true w (h i)), .lst (rowI w x)], .tup [.lst (row n fun i => encR true w (ha i)), .lst (rowI w x)], .tup [.lst (row n fun i => encR true w (hb i)), .lst (rowI w x)], .tup [.lst (row n fun i => encR true w (h i)), .lst (rowI w x')],
        .tup [.lst (row n fun i => encR true w (hc i)), .lst (rowI w x)], .tup [.lst (row n fun i => encR true w (hd i)), .lst (rowI w x)]] : List D), GoodQ n w w d := by
      simp only [List.forall_mem_cons]
      exact ⟨good_one hok, good_one oka, good_one okb, good_one hok, good_one okc, good_one okd, fun d hd => absurd hd (by simp)⟩
    obtain ⟨s, hl⟩ := l21 (cf := cf) (gl := gl) (fu := fu) (s0 := some (.val, .lst (row n fun i => encR true w (h i)))) (s2 := some (.val, .int (w : Int))) (s3 := some (.val, .lst (rowI w x))) (s4 := some (.val, .lst (rowI 5 f))) (s6 := some (.val, .int p)) (s7 := some (.val, .int k)) (s8 := some (.val, .int j)) (s10 := none) h19 hw hn3 h0 hv.1 gl6 (rng3_mem (j := 6) hvp.1 hp.1)
    simp -implicitDefEqProofs (disch := first | omega | (simp only [List.length_cons, List.length_nil, Nat.zero_add, Nat.reduceAdd, Nat.reduceLT])) only [d21, b21, runF, List.length_cons, List.length_nil, List.map_cons, List.map_nil, List.cons_append, List.nil_append, List.append_nil, List.replicate_succ, List.replicate_zero, Nat.reduceAdd, Nat.reduceSub, Nat.zero_add, Nat.reduceLT, Nat.reduceLeDiff, List.getElem?_cons_zero, List.getElem?_cons_succ, List.set_cons_zero, List.set_cons_succ, rdV, D.isMut, if_true, if_false, ite_true, ite_false, reduceCtorEq, true_or, or_true, and_self, or_false, false_or, Bool.false_eq_true, x_var, x_int, x_str, x_bl, x_non, x_bin, x_and, x_or, x_andN, x_orN, x_andC, x_orC, x_not, x_neg, x_ite, x_lst, x_tup, x_nil, x_cons, x_call, x_bi, x_slc, x_isi, x_oN, x_sNil, x_sCons, x_set, x_sIte, x_ret, x_retN, x_brk, x_cnt, x_pass, x_doc, j_bin, j_un, j_seq, j_seqR, j_seqB, j_seqC, j_iteT, j_iteF, j_iteCT, j_iteCF, j_andT, j_andF, j_orT, j_orF, j_bl, j_cons, j_bi, j_asB, j_stV, j_stO, j_ret, retE, j_sl, o_add, o_sub, o_mulL, o_mulR, o_div, o_mod, o_pow, o_lt, o_le, o_gt, o_ge, o_eq, o_ne, o_isB, b_int, b_intB, b_lenL, b_lenT, b_max, b_min, b_tupL, b_tupT, b_lstL, b_lstT, b_abs, Option.bind_some, Option.map_some, Option.bind_none, Option.map_none, x_lock, x_frz, x_for, x_mth, x_unp, x_setIx, x_comp, x_it, x_rng, x_enm, x_zip, j_lockV, j_lockB, j_lockO, j_frzO, j_frzV, j_frzB, j_own, j_itL, j_itT, j_enmL, j_enmT, safeI, safeS, t_nm, t_tup, t_tupL, t_nil, t_cons, f_nil, f_one, v_val, v_own, argM, j_lst2, j_tup2, vls_nil, vls_val, vls_own, lstO_s, tupO_s, turn_nx, turn_cnt, fin_r, fin_n, rowI_len, row_len, o_iL, o_iT, o_rL, o_t0, o_t1, o_l0, o_l1, o_l2, r_n, s_from, s_fromI, s_to, s_toI, x_oI, x_oB, x_oV, opt_int, o_addI, o_addR, o_in2, Int.toNat_natCast, Int.reduceToNat, Int.reduceEq, Int.reduceLT, Int.reduceLE, Int.reduceAdd, Int.reduceSub, Int.reduceMul, Int.reduceNeg, decide_true, decide_false, eq_self, Bool.true_or, Bool.or_true, Bool.or_false, Bool.false_or, Bool.not_true, Bool.not_false, sq_it, Int.cast_ofNat_Int, hk, em, hj, hz, ca, cb, cx, cc, cd, hs.j, hn.j, o_e0, o_e1, j_appV, r_3, j_for hl]
  · have gl3 : ∀ d ∈ ([.tup [.lst (row n fun i => encR true w (h i)), .lst (rowI w x)], .tup [.lst (row n fun i => encR true w (ha i)), .lst (rowI w x)], .tup [.lst (row n fun i => encR true w (hb i)), .lst (rowI w x)]] : List D), GoodQ n w w d := by
      simp only [List.forall_mem_cons]
      exact ⟨good_one hok, good_one oka, good_one okb, fun d hd => absurd hd (by simp)⟩
    have em : (if (w : Int) > 1 then (w : Int) else 1) = 1 := by split <;> omega
    obtain ⟨s, hl⟩ := l21 (cf := cf) (gl := gl) (fu := fu) (s0 := some (.val, .lst (row n fun i => encR true w (h i)))) (s2 := some (.val, .int (w : Int))) (s3 := some (.val, .lst (rowI w x))) (s4 := some (.val, .lst (rowI 5 f))) (s6 := some (.val, .int p)) (s7 := some (.val, .int k)) (s8 := some (.val, .int (f 1 % 1))) (s10 := none) h19 hw hn3 h0 hv.1 gl3 (rng3_mem (j := 3) hvp.1 hp.1)
    simp -implicitDefEqProofs (disch := first | omega | (simp only [List.length_cons, List.length_nil, Nat.zero_add, Nat.reduceAdd, Nat.reduceLT])) only [d21, b21, runF, List.length_cons, List.length_nil, List.map_cons, List.map_nil, List.cons_append, List.nil_append, List.append_nil, List.replicate_succ, List.replicate_zero, Nat.reduceAdd, Nat.reduceSub, Nat.zero_add, Nat.reduceLT, Nat.reduceLeDiff, List.getElem?_cons_zero, List.getElem?_cons_succ, List.set_cons_zero, List.set_cons_succ, rdV, D.isMut, if_true, if_false, ite_true, ite_false, reduceCtorEq, true_or, or_true, and_self, or_false, false_or, Bool.false_eq_true, x_var, x_int, x_str, x_bl, x_non, x_bin, x_and, x_or, x_andN, x_orN, x_andC, x_orC, x_not, x_neg, x_ite, x_lst, x_tup, x_nil, x_cons, x_call, x_bi, x_slc, x_isi, x_oN, x_sNil, x_sCons, x_set, x_sIte, x_ret, x_retN, x_brk, x_cnt, x_pass, x_doc, j_bin, j_un, j_seq, j_seqR, j_seqB, j_seqC, j_iteT, j_iteF, j_iteCT, j_iteCF, j_andT, j_andF, j_orT, j_orF, j_bl, j_cons, j_bi, j_asB, j_stV, j_stO, j_ret, retE, j_sl, o_add, o_sub, o_mulL, o_mulR, o_div, o_mod, o_pow, o_lt, o_le, o_gt, o_ge, o_eq, o_ne, o_isB, b_int, b_intB, b_lenL, b_lenT, b_max, b_min, b_tupL, b_tupT, b_lstL, b_lstT, b_abs, Option.bind_some, Option.map_some, Option.bind_none, Option.map_none, x_lock, x_frz, x_for, x_mth, x_unp, x_setIx, x_comp, x_it, x_rng, x_enm, x_zip, j_lockV, j_lockB, j_lockO, j_frzO, j_frzV, j_frzB, j_own, j_itL, j_itT, j_enmL, j_enmT, safeI, safeS, t_nm, t_tup, t_tupL, t_nil, t_cons, f_nil, f_one, v_val, v_own, argM, j_lst2, j_tup2, vls_nil, vls_val, vls_own, lstO_s, tupO_s, turn_nx, turn_cnt, fin_r, fin_n, rowI_len, row_len, o_iL, o_iT, o_rL, o_t0, o_t1, o_l0, o_l1, o_l2, r_n, s_from, s_fromI, s_to, s_toI, x_oI, x_oB, x_oV, opt_int, o_addI, o_addR, o_in2, Int.toNat_natCast, Int.reduceToNat, Int.reduceEq, Int.reduceLT, Int.reduceLE, Int.reduceAdd, Int.reduceSub, Int.reduceMul, Int.reduceNeg, decide_true, decide_false, eq_self, Bool.true_or, Bool.or_true, Bool.or_false, Bool.false_or, Bool.not_true, Bool.not_false, sq_it, Int.cast_ofNat_Int, hk, em, hz, ca, cb, hs.j, hn.j, o_e0, o_e1, j_appV, r_3, j_for hl]
end
end My
end

section
set_option Elab.async false
set_option linter.all false
set_option maxRecDepth 100000
set_option maxHeartbeats 2000000
namespace My
open PySem
/-- a loop that may be broken off -/
theorem loop_brk {g : D → Sl → Option Sl} {b : Sl → Option Out} (P Q : Sl → Prop) : ∀ (ds : List D) (env : Sl), P env →
    (∀ (d : D) (e : Sl), d ∈ ds → P e → (∃ e2, turnO ((g d e).bind b) = some e2 ∧ P e2) ∨ ∃ e2, (g d e).bind b = some (.brk e2) ∧ Q e2) →
    (∃ e, loopF g b ds env = some (.nx e) ∧ P e) ∨ ∃ e, loopF g b ds env = some (.brk e) ∧ Q e
  | [], env, h, _ => .inl ⟨env, rfl, h⟩
  | d :: ds, env, h, st => by
    rcases st d env (by simp) h with ⟨e2, h1, h2⟩ | ⟨e2, h1, h2⟩
    · have go : loopF g b (d :: ds) env = loopF g b ds e2 := by
        unfold loopF
        cases hg : g d env with
        | none => rw [hg] at h1; cases h1
        | some e1 =>
          rw [hg, Option.bind_some] at h1
          rw [Option.bind_some]
          cases hb : b e1 with
          | none => rw [hb] at h1; cases h1
          | some o =>
            rw [hb] at h1
            rw [Option.bind_some]
            cases o with
            | nx e => cases h1; cases ds <;> rfl
            | cnt e => cases h1; cases ds <;> rfl
            | brk e => cases h1
            | ret e => cases h1
      rw [go]
      exact loop_brk P Q ds e2 h2 fun d e hd hp => st d e (List.mem_cons_of_mem _ hd) hp
    · refine .inr ⟨e2, ?_, h2⟩
      unfold loopF
      cases hg : g d env with
      | none => rw [hg] at h1; cases h1
      | some e1 =>
        rw [hg, Option.bind_some] at h1
        rw [Option.bind_some, h1]
        rfl
theorem j_forB {ds : List D} {g : D → Sl → Option Sl} {b k : Sl → Option Out} {env e : Sl} (h : loopF g b ds env = some (.brk e)) : forO (some ds) true g b k env = some (.nx e) := by
  simp only [forO, h, if_true]
section
variable {cf : CF} {gl : Nat → Option D} {fu n w m : Nat} {N v p : Int} {h : Nat → Rw} {f x y y0 : Nat → Int} {l : List D} {s0 s1 s2 s3 s4 s5 s6 s7 s8 s9 s10 s11 s12 s13 s14 : Option My.C}
theorem c22_1 (hn : n ≤ 3000) : compO (some (row n fun i => encR true w (h i))) (cmpF cf gl [14] (.nm 14) .nil e22_1 [s0, s1, s2, s3, s4, s5, s6, s7, s8, s9, s10, s11, s12, s13, s14]) = some (.own, .lst (rowI n fun i => (h i).2)) :=
  compI (fun i hi => by simp -implicitDefEqProofs (disch := omega) only [cmpF, wipeE, e22_1, runF, List.length_cons, List.length_nil, List.map_cons, List.map_nil, List.cons_append, List.nil_append, List.append_nil, List.replicate_succ, List.replicate_zero, Nat.reduceAdd, Nat.reduceSub, Nat.zero_add, Nat.reduceLT, Nat.reduceLeDiff, List.getElem?_cons_zero, List.getElem?_cons_succ, List.set_cons_zero, List.set_cons_succ, rdV, D.isMut, if_true, if_false, ite_true, ite_false, reduceCtorEq, true_or, or_true, and_self, or_false, false_or, Bool.false_eq_true, x_var, x_int, x_str, x_bl, x_non, x_bin, x_and, x_or, x_andN, x_orN, x_andC, x_orC, x_not, x_neg, x_ite, x_lst, x_tup, x_nil, x_cons, x_call, x_bi, x_slc, x_isi, x_oN, x_sNil, x_sCons, x_set, x_sIte, x_ret, x_retN, x_brk, x_cnt, x_pass, x_doc, j_bin, j_un, j_seq, j_seqR, j_seqB, j_seqC, j_iteT, j_iteF, j_iteCT, j_iteCF, j_andT, j_andF, j_orT, j_orF, j_bl, j_cons, j_bi, j_asB, j_stV, j_stO, j_ret, retE, j_sl, o_add, o_sub, o_mulL, o_mulR, o_div, o_mod, o_pow, o_lt, o_le, o_gt, o_ge, o_eq, o_ne, o_isB, b_int, b_intB, b_lenL, b_lenT, b_max, b_min, b_tupL, b_tupT, b_lstL, b_lstT, b_abs, Option.bind_some, Option.map_some, Option.bind_none, Option.map_none, x_lock, x_frz, x_for, x_mth, x_unp, x_setIx, x_comp, x_it, x_rng, x_enm, x_zip, j_lockV, j_lockB, j_lockO, j_frzO, j_frzV, j_frzB, j_own, j_itL, j_itT, j_enmL, j_enmT, safeI, safeS, t_nm, t_tup, t_tupL, t_nil, t_cons, f_nil, f_one, v_val, v_own, argM, j_lst2, j_tup2, vls_nil, vls_val, vls_own, lstO_s, tupO_s, turn_nx, turn_cnt, fin_r, fin_n, rowI_len, row_len, o_iL, o_iT, o_rL, o_t0, o_t1, o_l0, o_l1, o_l2, r_n, s_from, s_fromI, s_to, s_toI, x_oI, x_oB, x_oV, opt_int, o_addI, o_addR, o_in2, Int.toNat_natCast, Int.reduceToNat, Int.reduceEq, Int.reduceLT, Int.reduceLE, Int.reduceAdd, Int.reduceSub, Int.reduceMul, Int.reduceNeg, decide_true, decide_false, eq_self, Bool.true_or, Bool.or_true, Bool.or_false, Bool.false_or, Bool.not_true, Bool.not_false, sq_it, Int.cast_ofNat_Int, o_e0, o_e1]) (by omega)
theorem c22_2 (hn : n ≤ 3000) (h0 : 0 < N) (hf : 0 ≤ f 3 ∧ f 3 < 20001) : compO (some (rowI n y)) (cmpF cf gl [14] (.nm 14) .nil e22_2 [s0, some (.val, .int N), s2, s3, some (.val, .lst (rowI 5 f)), s5, s6, s7, s8, s9, s10, s11, s12, s13, s14]) = some (.own, .lst (rowI n fun i => y i * (2 + f 3) % N)) :=
  compI (fun i hi => by simp -implicitDefEqProofs (disch := omega) only [cmpF, wipeE, e22_2, runF, List.length_cons, List.length_nil, List.map_cons, List.map_nil, List.cons_append, List.nil_append, List.append_nil, List.replicate_succ, List.replicate_zero, Nat.reduceAdd, Nat.reduceSub, Nat.zero_add, Nat.reduceLT, Nat.reduceLeDiff, List.getElem?_cons_zero, List.getElem?_cons_succ, List.set_cons_zero, List.set_cons_succ, rdV, D.isMut, if_true, if_false, ite_true, ite_false, reduceCtorEq, true_or, or_true, and_self, or_false, false_or, Bool.false_eq_true, x_var, x_int, x_str, x_bl, x_non, x_bin, x_and, x_or, x_andN, x_orN, x_andC, x_orC, x_not, x_neg, x_ite, x_lst, x_tup, x_nil, x_cons, x_call, x_bi, x_slc, x_isi, x_oN, x_sNil, x_sCons, x_set, x_sIte, x_ret, x_retN, x_brk, x_cnt, x_pass, x_doc, j_bin, j_un, j_seq, j_seqR, j_seqB, j_seqC, j_iteT, j_iteF, j_iteCT, j_iteCF, j_andT, j_andF, j_orT, j_orF, j_bl, j_cons, j_bi, j_asB, j_stV, j_stO, j_ret, retE, j_sl, o_add, o_sub, o_mulL, o_mulR, o_div, o_mod, o_pow, o_lt, o_le, o_gt, o_ge, o_eq, o_ne, o_isB, b_int, b_intB, b_lenL, b_lenT, b_max, b_min, b_tupL, b_tupT, b_lstL, b_lstT, b_abs, Option.bind_some, Option.map_some, Option.bind_none, Option.map_none, x_lock, x_frz, x_for, x_mth, x_unp, x_setIx, x_comp, x_it, x_rng, x_enm, x_zip, j_lockV, j_lockB, j_lockO, j_frzO, j_frzV, j_frzB, j_own, j_itL, j_itT, j_enmL, j_enmT, safeI, safeS, t_nm, t_tup, t_tupL, t_nil, t_cons, f_nil, f_one, v_val, v_own, argM, j_lst2, j_tup2, vls_nil, vls_val, vls_own, lstO_s, tupO_s, turn_nx, turn_cnt, fin_r, fin_n, rowI_len, row_len, o_iL, o_iT, o_rL, o_t0, o_t1, o_l0, o_l1, o_l2, r_n, s_from, s_fromI, s_to, s_toI, x_oI, x_oB, x_oV, opt_int, o_addI, o_addR, o_in2, Int.toNat_natCast, Int.reduceToNat, Int.reduceEq, Int.reduceLT, Int.reduceLE, Int.reduceAdd, Int.reduceSub, Int.reduceMul, Int.reduceNeg, decide_true, decide_false, eq_self, Bool.true_or, Bool.or_true, Bool.or_false, Bool.false_or, Bool.not_true, Bool.not_false, sq_it, Int.cast_ofNat_Int]) (by omega)
theorem c22_4 (hn : Near cf) (hn3 : n ≤ 3000) (h0 : 0 < N) (h1 : N ≤ 9000) : compO (some (rowI n fun i => (i : Int))) (cmpF cf gl [13] (.nm 13) .nil e22_4 [s0, some (.val, .int N), s2, s3, some (.val, .lst (rowI 5 f)), s5, s6, s7, s8, s9, s10, s11, s12, s13, s14]) = some (.own, .lst (rowI n fun i => near 0 N (f 4 + (i : Int)))) :=
  compI (fun i hi => by simp -implicitDefEqProofs (disch := omega) only [cmpF, wipeE, e22_4, runF, List.length_cons, List.length_nil, List.map_cons, List.map_nil, List.cons_append, List.nil_append, List.append_nil, List.replicate_succ, List.replicate_zero, Nat.reduceAdd, Nat.reduceSub, Nat.zero_add, Nat.reduceLT, Nat.reduceLeDiff, List.getElem?_cons_zero, List.getElem?_cons_succ, List.set_cons_zero, List.set_cons_succ, rdV, D.isMut, if_true, if_false, ite_true, ite_false, reduceCtorEq, true_or, or_true, and_self, or_false, false_or, Bool.false_eq_true, x_var, x_int, x_str, x_bl, x_non, x_bin, x_and, x_or, x_andN, x_orN, x_andC, x_orC, x_not, x_neg, x_ite, x_lst, x_tup, x_nil, x_cons, x_call, x_bi, x_slc, x_isi, x_oN, x_sNil, x_sCons, x_set, x_sIte, x_ret, x_retN, x_brk, x_cnt, x_pass, x_doc, j_bin, j_un, j_seq, j_seqR, j_seqB, j_seqC, j_iteT, j_iteF, j_iteCT, j_iteCF, j_andT, j_andF, j_orT, j_orF, j_bl, j_cons, j_bi, j_asB, j_stV, j_stO, j_ret, retE, j_sl, o_add, o_sub, o_mulL, o_mulR, o_div, o_mod, o_pow, o_lt, o_le, o_gt, o_ge, o_eq, o_ne, o_isB, b_int, b_intB, b_lenL, b_lenT, b_max, b_min, b_tupL, b_tupT, b_lstL, b_lstT, b_abs, Option.bind_some, Option.map_some, Option.bind_none, Option.map_none, x_lock, x_frz, x_for, x_mth, x_unp, x_setIx, x_comp, x_it, x_rng, x_enm, x_zip, j_lockV, j_lockB, j_lockO, j_frzO, j_frzV, j_frzB, j_own, j_itL, j_itT, j_enmL, j_enmT, safeI, safeS, t_nm, t_tup, t_tupL, t_nil, t_cons, f_nil, f_one, v_val, v_own, argM, j_lst2, j_tup2, vls_nil, vls_val, vls_own, lstO_s, tupO_s, turn_nx, turn_cnt, fin_r, fin_n, rowI_len, row_len, o_iL, o_iT, o_rL, o_t0, o_t1, o_l0, o_l1, o_l2, r_n, s_from, s_fromI, s_to, s_toI, x_oI, x_oB, x_oV, opt_int, o_addI, o_addR, o_in2, Int.toNat_natCast, Int.reduceToNat, Int.reduceEq, Int.reduceLT, Int.reduceLE, Int.reduceAdd, Int.reduceSub, Int.reduceMul, Int.reduceNeg, decide_true, decide_false, eq_self, Bool.true_or, Bool.or_true, Bool.or_false, Bool.false_or, Bool.not_true, Bool.not_false, sq_it, Int.cast_ofNat_Int, hn.j]) (by omega)
theorem l22_5 (h20 : Wei20 cf) (hw : w ≤ 40) (hn : n ≤ 3000) (h0 : 0 < N) (hv : 0 ≤ v) (hg : ∀ d ∈ l, GoodQ n w n d) {ds : List D} (hds : ∀ d ∈ ds, ∃ q : Int, d = .int q ∧ 0 ≤ q ∧ q < (l.length : Int)) :
    ∃ s, loopF (setT (.nm 13)) (evS cf gl fu b22_5) ds [s0, some (.val, .int N), some (.val, .int (w : Int)), s3, s4, some (.val, .int v), s6, s7, s8, s9, s10, some (.own, .lst l), s12, s13, s14] = some (.nx [s0, some (.val, .int N), some (.val, .int (w : Int)), s3, s4, some (.val, .int v), s6, s7, s8, s9, s10, some (.own, .lst l), s12, s, s14]) := by
  obtain ⟨e, he, s, rfl⟩ := loop_to (g := setT (.nm 13)) (b := evS cf gl fu b22_5) (fun i e => ∃ s, e = [s0, some (.val, .int N), some (.val, .int (w : Int)), s3, s4, some (.val, .int v), s6, s7, s8, s9, s10, some (.own, .lst l), s12, s, s14])
    (ds := ds) (env := [s0, some (.val, .int N), some (.val, .int (w : Int)), s3, s4, some (.val, .int v), s6, s7, s8, s9, s10, some (.own, .lst l), s12, s13, s14]) ⟨s13, rfl⟩ (by
      rintro i dd e hd0 _ ⟨s, rfl⟩
      obtain ⟨q, rfl, q0, q1⟩ := hds _ (List.mem_of_getElem? hd0)
      obtain ⟨d, hd, hi⟩ := o_mem ⟨q0, q1⟩
      obtain ⟨h', x', hok, rfl⟩ := hg d hd
      have hc : callO (cf 20) (some [(.val, .lst (row n fun i => encR true w (h' i))), (.val, .int N), (.val, .int (w : Int)), (.val, .lst (rowI n x')), (.val, .int ((q + v) % 4))]) = some (.val, .bl true) := j_call (h20 n w h' x' N _ hw hn h0 (by omega) hok) (.inl rfl)
      exact ⟨_, by simp -implicitDefEqProofs (disch := omega) only [b22_5, runF, List.length_cons, List.length_nil, List.map_cons, List.map_nil, List.cons_append, List.nil_append, List.append_nil, List.replicate_succ, List.replicate_zero, Nat.reduceAdd, Nat.reduceSub, Nat.zero_add, Nat.reduceLT, Nat.reduceLeDiff, List.getElem?_cons_zero, List.getElem?_cons_succ, List.set_cons_zero, List.set_cons_succ, rdV, D.isMut, if_true, if_false, ite_true, ite_false, reduceCtorEq, true_or, or_true, and_self, or_false, false_or, Bool.false_eq_true, x_var, x_int, x_str, x_bl, x_non, x_bin, x_and, x_or, x_andN, x_orN, x_andC, x_orC, x_not, x_neg, x_ite, x_lst, x_tup, x_nil, x_cons, x_call, x_bi, x_slc, x_isi, x_oN, x_sNil, x_sCons, x_set, x_sIte, x_ret, x_retN, x_brk, x_cnt, x_pass, x_doc, j_bin, j_un, j_seq, j_seqR, j_seqB, j_seqC, j_iteT, j_iteF, j_iteCT, j_iteCF, j_andT, j_andF, j_orT, j_orF, j_bl, j_cons, j_bi, j_asB, j_stV, j_stO, j_ret, retE, j_sl, o_add, o_sub, o_mulL, o_mulR, o_div, o_mod, o_pow, o_lt, o_le, o_gt, o_ge, o_eq, o_ne, o_isB, b_int, b_intB, b_lenL, b_lenT, b_max, b_min, b_tupL, b_tupT, b_lstL, b_lstT, b_abs, Option.bind_some, Option.map_some, Option.bind_none, Option.map_none, x_lock, x_frz, x_for, x_mth, x_unp, x_setIx, x_comp, x_it, x_rng, x_enm, x_zip, j_lockV, j_lockB, j_lockO, j_frzO, j_frzV, j_frzB, j_own, j_itL, j_itT, j_enmL, j_enmT, safeI, safeS, t_nm, t_tup, t_tupL, t_nil, t_cons, f_nil, f_one, v_val, v_own, argM, j_lst2, j_tup2, vls_nil, vls_val, vls_own, lstO_s, tupO_s, turn_nx, turn_cnt, fin_r, fin_n, rowI_len, row_len, o_iL, o_iT, o_rL, o_t0, o_t1, o_l0, o_l1, o_l2, r_n, s_from, s_fromI, s_to, s_toI, x_oI, x_oB, x_oV, opt_int, o_addI, o_addR, o_in2, Int.toNat_natCast, Int.reduceToNat, Int.reduceEq, Int.reduceLT, Int.reduceLE, Int.reduceAdd, Int.reduceSub, Int.reduceMul, Int.reduceNeg, decide_true, decide_false, eq_self, Bool.true_or, Bool.or_true, Bool.or_false, Bool.false_or, Bool.not_true, Bool.not_false, sq_it, Int.cast_ofNat_Int, hi, hc]; rfl, _, rfl⟩)
  exact ⟨s, he⟩
/-- the loop that looks for a right side -/
theorem l22_3 (h15 : Right15 cf) {a : Nat} {t : Int} (hw : w ≤ 40) (hn3 : n ≤ 3000) (h0 : 0 < N) (h1 : N ≤ 120) (ha : a < n) (hok : ∀ i, i < n → okR w (h i)) (hl : ∀ d ∈ l, GoodQ n w n d) (hll : l.length < 100) :
    ∃ l', ∃ s, (∀ d ∈ l', GoodQ n w n d) ∧ l'.length ≤ l.length + 1 ∧ forO (some ((List.range (N - 1).toNat).map fun (k : Nat) => D.int (1 + k))) true (setT (.nm 12)) (evS cf gl fu b22_3) (evS cf gl fu .nil)
      [some (.val, .lst [.lst (row n fun i => encR true w (h i)), .lst (rowI n y0), .int (a : Int)]), some (.val, .int N), s2, some (.val, .lst (rowI n y)), s4, s5, s6, some (.val, .lst (row n fun i => encR true w (h i))), s8, s9, some (.val, .int t), some (.own, .lst l), s12, s13, s14] =
      some (.nx [some (.val, .lst [.lst (row n fun i => encR true w (h i)), .lst (rowI n y0), .int (a : Int)]), some (.val, .int N), s2, some (.val, .lst (rowI n y)), s4, s5, s6, some (.val, .lst (row n fun i => encR true w (h i))), s8, s9, some (.val, .int t), some (.own, .lst l'), s, s13, s14]) := by
  rcases loop_brk (g := setT (.nm 12)) (b := evS cf gl fu b22_3)
    (fun e => ∃ s, e = [some (.val, .lst [.lst (row n fun i => encR true w (h i)), .lst (rowI n y0), .int (a : Int)]), some (.val, .int N), s2, some (.val, .lst (rowI n y)), s4, s5, s6, some (.val, .lst (row n fun i => encR true w (h i))), s8, s9, some (.val, .int t), some (.own, .lst l), s, s13, s14])
    (fun e => ∃ l' s, (∀ d ∈ l', GoodQ n w n d) ∧ l'.length ≤ l.length + 1 ∧ e = [some (.val, .lst [.lst (row n fun i => encR true w (h i)), .lst (rowI n y0), .int (a : Int)]), some (.val, .int N), s2, some (.val, .lst (rowI n y)), s4, s5, s6, some (.val, .lst (row n fun i => encR true w (h i))), s8, s9, some (.val, .int t), some (.own, .lst l'), s, s13, s14])
    ((List.range (N - 1).toNat).map fun (k : Nat) => D.int (1 + k)) _ ⟨s12, rfl⟩ (by
      rintro d e hd ⟨s, rfl⟩
      obtain ⟨k, hk, rfl⟩ := List.mem_map.mp hd
      have hk := List.mem_range.mp hk
      by_cases q : (t + (1 + (k : Int)) * y a) % N = 0
      · obtain ⟨hb, okb, cb⟩ := h15 n w h (a : Int) (1 + (k : Int)) hw hn3 (by omega) (by omega) (by omega) (by omega) hok
        have cb := j_call (cs := [(.val, .lst (row n fun i => encR true w (h i))), (.val, .int (a : Int)), (.val, .int (1 + (k : Int)))]) cb (.inr rfl)
        refine .inr ⟨_, by simp -implicitDefEqProofs (disch := omega) only [b22_3, runF, List.length_cons, List.length_nil, List.map_cons, List.map_nil, List.cons_append, List.nil_append, List.append_nil, List.replicate_succ, List.replicate_zero, Nat.reduceAdd, Nat.reduceSub, Nat.zero_add, Nat.reduceLT, Nat.reduceLeDiff, List.getElem?_cons_zero, List.getElem?_cons_succ, List.set_cons_zero, List.set_cons_succ, rdV, D.isMut, if_true, if_false, ite_true, ite_false, reduceCtorEq, true_or, or_true, and_self, or_false, false_or, Bool.false_eq_true, x_var, x_int, x_str, x_bl, x_non, x_bin, x_and, x_or, x_andN, x_orN, x_andC, x_orC, x_not, x_neg, x_ite, x_lst, x_tup, x_nil, x_cons, x_call, x_bi, x_slc, x_isi, x_oN, x_sNil, x_sCons, x_set, x_sIte, x_ret, x_retN, x_brk, x_cnt, x_pass, x_doc, j_bin, j_un, j_seq, j_seqR, j_seqB, j_seqC, j_iteT, j_iteF, j_iteCT, j_iteCF, j_andT, j_andF, j_orT, j_orF, j_bl, j_cons, j_bi, j_asB, j_stV, j_stO, j_ret, retE, j_sl, o_add, o_sub, o_mulL, o_mulR, o_div, o_mod, o_pow, o_lt, o_le, o_gt, o_ge, o_eq, o_ne, o_isB, b_int, b_intB, b_lenL, b_lenT, b_max, b_min, b_tupL, b_tupT, b_lstL, b_lstT, b_abs, Option.bind_some, Option.map_some, Option.bind_none, Option.map_none, x_lock, x_frz, x_for, x_mth, x_unp, x_setIx, x_comp, x_it, x_rng, x_enm, x_zip, j_lockV, j_lockB, j_lockO, j_frzO, j_frzV, j_frzB, j_own, j_itL, j_itT, j_enmL, j_enmT, safeI, safeS, t_nm, t_tup, t_tupL, t_nil, t_cons, f_nil, f_one, v_val, v_own, argM, j_lst2, j_tup2, vls_nil, vls_val, vls_own, lstO_s, tupO_s, turn_nx, turn_cnt, fin_r, fin_n, rowI_len, row_len, o_iL, o_iT, o_rL, o_t0, o_t1, o_l0, o_l1, o_l2, r_n, s_from, s_fromI, s_to, s_toI, x_oI, x_oB, x_oV, opt_int, o_addI, o_addR, o_in2, Int.toNat_natCast, Int.reduceToNat, Int.reduceEq, Int.reduceLT, Int.reduceLE, Int.reduceAdd, Int.reduceSub, Int.reduceMul, Int.reduceNeg, decide_true, decide_false, eq_self, Bool.true_or, Bool.or_true, Bool.or_false, Bool.false_or, Bool.not_true, Bool.not_false, sq_it, Int.cast_ofNat_Int, q, cb, j_appV]; rfl, l ++ [.tup [.lst (row n fun i => encR true w (hb i)), .lst (rowI n y)]], _, ?_, by rw [List.length_append]; exact Nat.le_refl _, rfl⟩
        intro d hd
        rcases List.mem_append.mp hd with hd | hd
        · exact hl d hd
        · rw [List.mem_singleton.mp hd]; exact good_one okb
      · exact .inl ⟨_, by simp -implicitDefEqProofs (disch := omega) only [b22_3, runF, List.length_cons, List.length_nil, List.map_cons, List.map_nil, List.cons_append, List.nil_append, List.append_nil, List.replicate_succ, List.replicate_zero, Nat.reduceAdd, Nat.reduceSub, Nat.zero_add, Nat.reduceLT, Nat.reduceLeDiff, List.getElem?_cons_zero, List.getElem?_cons_succ, List.set_cons_zero, List.set_cons_succ, rdV, D.isMut, if_true, if_false, ite_true, ite_false, reduceCtorEq, true_or, or_true, and_self, or_false, false_or, Bool.false_eq_true, x_var, x_int, x_str, x_bl, x_non, x_bin, x_and, x_or, x_andN, x_orN, x_andC, x_orC, x_not, x_neg, x_ite, x_lst, x_tup, x_nil, x_cons, x_call, x_bi, x_slc, x_isi, x_oN, x_sNil, x_sCons, x_set, x_sIte, x_ret, x_retN, x_brk, x_cnt, x_pass, x_doc, j_bin, j_un, j_seq, j_seqR, j_seqB, j_seqC, j_iteT, j_iteF, j_iteCT, j_iteCF, j_andT, j_andF, j_orT, j_orF, j_bl, j_cons, j_bi, j_asB, j_stV, j_stO, j_ret, retE, j_sl, o_add, o_sub, o_mulL, o_mulR, o_div, o_mod, o_pow, o_lt, o_le, o_gt, o_ge, o_eq, o_ne, o_isB, b_int, b_intB, b_lenL, b_lenT, b_max, b_min, b_tupL, b_tupT, b_lstL, b_lstT, b_abs, Option.bind_some, Option.map_some, Option.bind_none, Option.map_none, x_lock, x_frz, x_for, x_mth, x_unp, x_setIx, x_comp, x_it, x_rng, x_enm, x_zip, j_lockV, j_lockB, j_lockO, j_frzO, j_frzV, j_frzB, j_own, j_itL, j_itT, j_enmL, j_enmT, safeI, safeS, t_nm, t_tup, t_tupL, t_nil, t_cons, f_nil, f_one, v_val, v_own, argM, j_lst2, j_tup2, vls_nil, vls_val, vls_own, lstO_s, tupO_s, turn_nx, turn_cnt, fin_r, fin_n, rowI_len, row_len, o_iL, o_iT, o_rL, o_t0, o_t1, o_l0, o_l1, o_l2, r_n, s_from, s_fromI, s_to, s_toI, x_oI, x_oB, x_oV, opt_int, o_addI, o_addR, o_in2, Int.toNat_natCast, Int.reduceToNat, Int.reduceEq, Int.reduceLT, Int.reduceLE, Int.reduceAdd, Int.reduceSub, Int.reduceMul, Int.reduceNeg, decide_true, decide_false, eq_self, Bool.true_or, Bool.or_true, Bool.or_false, Bool.false_or, Bool.not_true, Bool.not_false, sq_it, Int.cast_ofNat_Int, q]; rfl, _, rfl⟩) with ⟨e, he, s, rfl⟩ | ⟨e, he, l', s, h1, h2, rfl⟩
  · exact ⟨l, s, hl, by omega, by rw [j_for he, x_sNil]⟩
  · exact ⟨l', s, h1, h2, j_forB he⟩
/-- _law_ask_weights -/
theorem ask22 (hn : Near cf) (hs : Signed cf) (h9 : Sum9 cf) (h15 : Right15 cf) (h16 : Coef16 cf) (h17 : Chg17 cf) (h20 : Wei20 cf) {a : Nat} (hw : w ≤ 40) (hn0 : 0 < n) (hn3 : n ≤ 3000) (h0 : 0 < N) (h1 : N ≤ 120) (hv : 0 ≤ v ∧ v < 100) (hp : 0 < p ∧ p < 100)
    (hf : ∀ i, i < 5 → 0 ≤ f i ∧ f i < 20001) (hf3 : f 3 < 80) (ha : a < n) (hok : ∀ i, i < n → okR w (h i)) :
    runF cf gl fu d22 [(.val, .lst [.lst (row n fun i => encR true w (h i)), .lst (rowI n y0), .int (a : Int)]), (.val, .int N), (.val, .int (w : Int)), (.val, .lst (rowI n y)), (.val, .lst (rowI 5 f)), (.val, .int v), (.val, .int p)] = some (.val, .bl true) := by
  have f0 := hf 0 (by omega)
  have f1 := hf 1 (by omega)
  have f2 := hf 2 (by omega)
  have f3 := hf 3 (by omega)
  have f4 := hf 4 (by omega)
  have k1 := And.intro (Int.emod_nonneg (f 0) (show (n : Int) ≠ 0 by omega)) (Int.emod_lt_of_pos (f 0) (show (0 : Int) < n by omega))
  generalize hk : f 0 % (n : Int) = k at *
  have b1 : 0 ≤ N * (1 + f 3) := Int.mul_nonneg (by omega) (by omega)
  have b2 : N * (1 + f 3) ≤ 120 * 80 := Int.mul_le_mul h1 (by omega) (by omega) (by omega)
  have hvp := And.intro (Int.emod_nonneg v (show p ≠ 0 by omega)) (Int.emod_lt_of_pos v hp.1)
  obtain ⟨hb, okb, cb⟩ := h15 n w h k (N * (1 + f 3)) hw hn3 k1.1 k1.2 (by omega) (by omega) hok
  have cb := j_call (cs := [(.val, .lst (row n fun i => encR true w (h i))), (.val, .int k), (.val, .int (N * (1 + f 3)))]) cb (.inr rfl)
  obtain ⟨x', cx⟩ := h17 n y k (1 + f 2 % 119) k1.1 k1.2
  have cx := j_call (cs := [(.val, .lst (rowI n y)), (.val, .int k), (.val, .int (1 + f 2 % 119))]) cx (.inr rfl)
  have c9 := fun x => h9.jO (n := n) (k := n) (c := fun i => (h i).2) (x := x) (fun i hi => (hok i hi).2) ⟨Nat.le_refl _, by omega⟩
  have gl3 : ∀ d ∈ ([.tup [.lst (row n fun i => encR true w (h i)), .lst (rowI n y)], .tup [.lst (row n fun i => encR true w (h i)), .lst (rowI n x')], .tup [.lst (row n fun i => encR true w (h i)), .lst (rowI n fun i => y i * (2 + f 3) % N)]] : List D), GoodQ n w n d := by
    simp only [List.forall_mem_cons]
    exact ⟨good_one hok, good_one hok, good_one hok, fun d hd => absurd hd (by simp)⟩
  have j0 : ∃ j, f 1 % (if (w : Int) > 1 then (w : Int) else 1) = j ∧ 0 ≤ j ∧ ((0 : Int) < (w : Int) → j < (w : Int)) := by
    refine ⟨_, rfl, Int.emod_nonneg _ (by split <;> omega), fun q => ?_⟩
    have em : (if (w : Int) > 1 then (w : Int) else 1) = (w : Int) := by split <;> omega
    rw [em]
    exact Int.emod_lt_of_pos _ q
  obtain ⟨j, ej, j0, j1⟩ := j0
  have hm : 0 < (if (w : Int) > 1 then (w : Int) else 1) := by split <;> omega
  obtain ⟨l, s, hl, hll, h3⟩ := l22_3 (cf := cf) (gl := gl) (fu := fu) (y := y) (y0 := y0) (s2 := some (.val, .int (w : Int))) (s4 := some (.val, .lst (rowI 5 f))) (s5 := some (.val, .int v)) (s6 := some (.val, .int p)) (s8 := some (.val, .int k)) (s9 := some (.val, .int j)) (s12 := none) (s13 := none) (s14 := none) (t := sm (fun i => (h i).2 * y i) n) h15 hw hn3 h0 h1 ha hok gl3 (by simp only [List.length_cons, List.length_nil]; omega)
  simp only [List.length_cons, List.length_nil] at hll
  by_cases hz : (0 : Int) < (w : Int)
  · have k2 := j1 hz
    have sg := signed_sml f4.1 f4.2
    have sn := near_sml (r := (h k.toNat).1 j.toNat) (d := f 4) h0 (show N ≤ 9000 by omega)
    obtain ⟨hc, okc, cc⟩ := h16 n w h k j (signed (f 4)) hw hn3 k1.1 k1.2 j0 k2 sg hok
    obtain ⟨he, oke, ce⟩ := h16 n w h (a : Int) j (signed (f 4)) hw hn3 (by omega) (by omega) j0 k2 sg hok
    obtain ⟨hd, okd, cd⟩ := h16 n w h k j (near ((h k.toNat).1 j.toNat) N (f 4)) hw hn3 k1.1 k1.2 j0 k2 sn hok
    have cc := j_call (cs := [(.val, .lst (row n fun i => encR true w (h i))), (.val, .int k), (.val, .int j), (.val, .int (signed (f 4)))]) cc (.inr rfl)
    have ce := j_call (cs := [(.val, .lst (row n fun i => encR true w (h i))), (.val, .int (a : Int)), (.val, .int j), (.val, .int (signed (f 4)))]) ce (.inr rfl)
    have cd := j_call (cs := [(.val, .lst (row n fun i => encR true w (h i))), (.val, .int k), (.val, .int j), (.val, .int (near ((h k.toNat).1 j.toNat) N (f 4)))]) cd (.inr rfl)
    have gl6 : ∀ d ∈ l ++ [D.tup [.lst (row n fun i => encR true w (hb i)), .lst (rowI n y)]] ++ [.tup [.lst (row n fun i => encR true w (h i)), .lst (rowI n fun i => near 0 N (f 4 + (i : Int)))]] ++ [.tup [.lst (row n fun i => encR true w (hc i)), .lst (rowI n y)]] ++ [.tup [.lst (row n fun i => encR true w (he i)), .lst (rowI n y)]] ++ [.tup [.lst (row n fun i => encR true w (hd i)), .lst (rowI n y)]], GoodQ n w n d := by
      intro d hd
      simp only [List.mem_append, List.mem_singleton] at hd
      rcases hd with ((((hd | rfl) | rfl) | rfl) | rfl) | rfl
      · exact hl d hd
      · exact good_one okb
      · exact good_one hok
      · exact good_one okc
      · exact good_one oke
      · exact good_one okd
    obtain ⟨s', h5⟩ := l22_5 (cf := cf) (gl := gl) (fu := fu) (s0 := some (.val, .lst [.lst (row n fun i => encR true w (h i)), .lst (rowI n y0), .int (a : Int)])) (s3 := some (.val, .lst (rowI n y))) (s4 := some (.val, .lst (rowI 5 f))) (s6 := some (.val, .int p)) (s7 := some (.val, .lst (row n fun i => encR true w (h i)))) (s8 := some (.val, .int k)) (s9 := some (.val, .int j)) (s10 := some (.val, .int (sm (fun i => (h i).2 * y i) n))) (s12 := s) (s13 := none) (s14 := none) h20 hw hn3 h0 hv.1 gl6 (rng3_mem hvp.1 hp.1)
    simp -implicitDefEqProofs (disch := first | omega | exact hm | (simp only [List.length_append, List.length_cons, List.length_nil]; omega)) only [d22, b22, runF, List.length_cons, List.length_nil, List.map_cons, List.map_nil, List.cons_append, List.nil_append, List.append_nil, List.replicate_succ, List.replicate_zero, Nat.reduceAdd, Nat.reduceSub, Nat.zero_add, Nat.reduceLT, Nat.reduceLeDiff, List.getElem?_cons_zero, List.getElem?_cons_succ, List.set_cons_zero, List.set_cons_succ, rdV, D.isMut, if_true, if_false, ite_true, ite_false, reduceCtorEq, true_or, or_true, and_self, or_false, false_or, Bool.false_eq_true, x_var, x_int, x_str, x_bl, x_non, x_bin, x_and, x_or, x_andN, x_orN, x_andC, x_orC, x_not, x_neg, x_ite, x_lst, x_tup, x_nil, x_cons, x_call, x_bi, x_slc, x_isi, x_oN, x_sNil, x_sCons, x_set, x_sIte, x_ret, x_retN, x_brk, x_cnt, x_pass, x_doc, j_bin, j_un, j_seq, j_seqR, j_seqB, j_seqC, j_iteT, j_iteF, j_iteCT, j_iteCF, j_andT, j_andF, j_orT, j_orF, j_bl, j_cons, j_bi, j_asB, j_stV, j_stO, j_ret, retE, j_sl, o_add, o_sub, o_mulL, o_mulR, o_div, o_mod, o_pow, o_lt, o_le, o_gt, o_ge, o_eq, o_ne, o_isB, b_int, b_intB, b_lenL, b_lenT, b_max, b_min, b_tupL, b_tupT, b_lstL, b_lstT, b_abs, Option.bind_some, Option.map_some, Option.bind_none, Option.map_none, x_lock, x_frz, x_for, x_mth, x_unp, x_setIx, x_comp, x_it, x_rng, x_enm, x_zip, j_lockV, j_lockB, j_lockO, j_frzO, j_frzV, j_frzB, j_own, j_itL, j_itT, j_enmL, j_enmT, safeI, safeS, t_nm, t_tup, t_tupL, t_nil, t_cons, f_nil, f_one, v_val, v_own, argM, j_lst2, j_tup2, vls_nil, vls_val, vls_own, lstO_s, tupO_s, turn_nx, turn_cnt, fin_r, fin_n, rowI_len, row_len, o_iL, o_iT, o_rL, o_t0, o_t1, o_l0, o_l1, o_l2, r_n, s_from, s_fromI, s_to, s_toI, x_oI, x_oB, x_oV, opt_int, o_addI, o_addR, o_in2, Int.toNat_natCast, Int.reduceToNat, Int.reduceEq, Int.reduceLT, Int.reduceLE, Int.reduceAdd, Int.reduceSub, Int.reduceMul, Int.reduceNeg, decide_true, decide_false, eq_self, Bool.true_or, Bool.or_true, Bool.or_false, Bool.false_or, Bool.not_true, Bool.not_false, sq_it, Int.cast_ofNat_Int, hk, ej, hz, cb, cx, cc, cd, ce, c9, c22_1 hn3, c22_2 hn3 h0 f3, c22_4 hn hn3 h0 (show N ≤ 9000 by omega), hs.j, hn.j, o_e0, o_e1, r_2, h3, j_appV, r_3, j_for h5]
  · have gl3 : ∀ d ∈ l ++ [D.tup [.lst (row n fun i => encR true w (hb i)), .lst (rowI n y)]] ++ [.tup [.lst (row n fun i => encR true w (h i)), .lst (rowI n fun i => near 0 N (f 4 + (i : Int)))]], GoodQ n w n d := by
      intro d hd
      simp only [List.mem_append, List.mem_singleton] at hd
      rcases hd with (hd | rfl) | rfl
      · exact hl d hd
      · exact good_one okb
      · exact good_one hok
    obtain ⟨s', h5⟩ := l22_5 (cf := cf) (gl := gl) (fu := fu) (s0 := some (.val, .lst [.lst (row n fun i => encR true w (h i)), .lst (rowI n y0), .int (a : Int)])) (s3 := some (.val, .lst (rowI n y))) (s4 := some (.val, .lst (rowI 5 f))) (s6 := some (.val, .int p)) (s7 := some (.val, .lst (row n fun i => encR true w (h i)))) (s8 := some (.val, .int k)) (s9 := some (.val, .int j)) (s10 := some (.val, .int (sm (fun i => (h i).2 * y i) n))) (s12 := s) (s13 := none) (s14 := none) h20 hw hn3 h0 hv.1 gl3 (rng3_mem hvp.1 hp.1)
    simp -implicitDefEqProofs (disch := first | omega | exact hm | (simp only [List.length_append, List.length_cons, List.length_nil]; omega)) only [d22, b22, runF, List.length_cons, List.length_nil, List.map_cons, List.map_nil, List.cons_append, List.nil_append, List.append_nil, List.replicate_succ, List.replicate_zero, Nat.reduceAdd, Nat.reduceSub, Nat.zero_add, Nat.reduceLT, Nat.reduceLeDiff, List.getElem?_cons_zero, List.getElem?_cons_succ, List.set_cons_zero, List.set_cons_succ, rdV, D.isMut, if_true, if_false, ite_true, ite_false, reduceCtorEq, true_or, or_true, and_self, or_false, false_or, Bool.false_eq_true, x_var, x_int, x_str, x_bl, x_non, x_bin, x_and, x_or, x_andN, x_orN, x_andC, x_orC, x_not, x_neg, x_ite, x_lst, x_tup, x_nil, x_cons, x_call, x_bi, x_slc, x_isi, x_oN, x_sNil, x_sCons, x_set, x_sIte, x_ret, x_retN, x_brk, x_cnt, x_pass, x_doc, j_bin, j_un, j_seq, j_seqR, j_seqB, j_seqC, j_iteT, j_iteF, j_iteCT, j_iteCF, j_andT, j_andF, j_orT, j_orF, j_bl, j_cons, j_bi, j_asB, j_stV, j_stO, j_ret, retE, j_sl, o_add, o_sub, o_mulL, o_mulR, o_div, o_mod, o_pow, o_lt, o_le, o_gt, o_ge, o_eq, o_ne, o_isB, b_int, b_intB, b_lenL, b_lenT, b_max, b_min, b_tupL, b_tupT, b_lstL, b_lstT, b_abs, Option.bind_some, Option.map_some, Option.bind_none, Option.map_none, x_lock, x_frz, x_for, x_mth, x_unp, x_setIx, x_comp, x_it, x_rng, x_enm, x_zip, j_lockV, j_lockB, j_lockO, j_frzO, j_frzV, j_frzB, j_own, j_itL, j_itT, j_enmL, j_enmT, safeI, safeS, t_nm, t_tup, t_tupL, t_nil, t_cons, f_nil, f_one, v_val, v_own, argM, j_lst2, j_tup2, vls_nil, vls_val, vls_own, lstO_s, tupO_s, turn_nx, turn_cnt, fin_r, fin_n, rowI_len, row_len, o_iL, o_iT, o_rL, o_t0, o_t1, o_l0, o_l1, o_l2, r_n, s_from, s_fromI, s_to, s_toI, x_oI, x_oB, x_oV, opt_int, o_addI, o_addR, o_in2, Int.toNat_natCast, Int.reduceToNat, Int.reduceEq, Int.reduceLT, Int.reduceLE, Int.reduceAdd, Int.reduceSub, Int.reduceMul, Int.reduceNeg, decide_true, decide_false, eq_self, Bool.true_or, Bool.or_true, Bool.or_false, Bool.false_or, Bool.not_true, Bool.not_false, sq_it, Int.cast_ofNat_Int, hk, ej, hz, cb, cx, c9, c22_1 hn3, c22_2 hn3 h0 f3, c22_4 hn hn3 h0 (show N ≤ 9000 by omega), hs.j, hn.j, o_e0, o_e1, r_2, h3, j_appV, r_3, j_for h5]
end
end My
end

section
set_option Elab.async false
set_option linter.all false
set_option maxRecDepth 100000
set_option maxHeartbeats 4000000
namespace My
open PySem
def S.takeS : Nat → S → S
  | 0, _ => .nil
  | n + 1, .cons s r => .cons s (S.takeS n r)
  | _, s => s
def S.dropS : Nat → S → S
  | 0, s => s
  | n + 1, .cons _ r => S.dropS n r
  | _, _ => .nil
theorem seqO_nx {o : Option Out} : seqO o (fun e => some (.nx e)) = o := by
  cases o with
  | none => rfl
  | some o => cases o <;> rfl
theorem evS_split {cf : CF} {gl : Nat → Option D} {fu : Nat} : ∀ (n : Nat) (s : S) (env : Sl), evS cf gl fu s env = seqO (evS cf gl fu (S.takeS n s) env) (evS cf gl fu (S.dropS n s))
  | 0, s, env => by rw [S.takeS, S.dropS, x_sNil, j_seq]
  | n + 1, s, env => by
    cases s with
    | cons s r =>
      rw [S.takeS, S.dropS, x_sCons, x_sCons]
      cases evS cf gl fu s env with
      | none => rfl
      | some o =>
        cases o with
        | nx e => exact evS_split n r e
        | ret c => rfl
        | brk e => rfl
        | cnt e => rfl
    | _ =>
      simp only [S.takeS, S.dropS]
      have z : evS cf gl fu .nil = fun e => some (.nx e) := funext fun e => x_sNil
      rw [z, seqO_nx]
def Rows8 (cf : CF) : Prop := ∀ (w n : Nat) (N : Int) (cs cl : Nat → Int), w ≤ 40 → n ≤ 3000 → 0 < N → N ≤ 120 →
  ∃ h : Nat → Rw, (∀ i, i < n → okR w (h i)) ∧ cf 8 [(.val, .lst (rowI n cs)), (.val, .int N), (.val, .int (w : Int)), (.val, .lst (rowI w cl))] = some (.val, .lst (row n fun i => encR true w (h i)))
def Slvd10 (cf : CF) : Prop := ∀ (w n : Nat) (N : Int) (h : Nat → Rw) (x : Nat → Int), w ≤ 40 → n ≤ 3000 → 0 < N → N ≤ 120 → (∀ i, i < n → okR w (h i)) →
  ∃ h' : Nat → Rw, (∀ i, i < n → okR w (h' i)) ∧ cf 10 [(.val, .lst (row n fun i => encR true w (h i))), (.val, .int N), (.val, .lst (rowI w x))] = some (.own, .lst (row n fun i => encR true w (h' i)))
def Shft18 (cf : CF) : Prop := ∀ (n : Nat) (N v : Int) (x : Nat → Int), n ≤ 16777215 → 0 < N → N ≤ 9000 → ∃ x' : Nat → Int, cf 18 [(.val, .lst (rowI n x)), (.val, .int N), (.val, .int v)] = some (.own, .lst (rowI n x'))
def Brd14 (cf : CF) : Prop := ∀ (w n : Nat) (N v : Int) (h : Nat → Rw), w ≤ 40 → 0 < n → n ≤ 3000 → 2 ≤ N → N ≤ 120 → (∀ i, i < n → okR w (h i)) →
  ∃ (h' : Nat → Rw) (y : Nat → Int) (a : Nat), (∀ i, i < n → okR w (h' i)) ∧ a < n ∧ cf 14 [(.val, .lst (row n fun i => encR true w (h i))), (.val, .int N), (.val, .int (w : Int)), (.val, .int v)] =
      some (.own, .lst [.lst (row n fun i => encR true w (h' i)), .lst (rowI n y), .int (a : Int)])
def Ask21 (cf : CF) : Prop := ∀ (w n : Nat) (N v p : Int) (h : Nat → Rw) (x f : Nat → Int), w ≤ 40 → 0 < n → n ≤ 3000 → 0 < N → N ≤ 120 → 0 ≤ v → v < 100 → 0 < p → p < 100 → (∀ i, i < 5 → 0 ≤ f i ∧ f i < 20001) → f 3 < 80 → (∀ i, i < n → okR w (h i)) →
  cf 21 [(.val, .lst (row n fun i => encR true w (h i))), (.val, .int N), (.val, .int (w : Int)), (.val, .lst (rowI w x)), (.val, .lst (rowI 5 f)), (.val, .int v), (.val, .int p)] = some (.val, .bl true)
def Ask22 (cf : CF) : Prop := ∀ (w n a : Nat) (N v p : Int) (h : Nat → Rw) (y0 y f : Nat → Int), w ≤ 40 → 0 < n → n ≤ 3000 → 0 < N → N ≤ 120 → 0 ≤ v → v < 100 → 0 < p → p < 100 → (∀ i, i < 5 → 0 ≤ f i ∧ f i < 20001) → f 3 < 80 → a < n → (∀ i, i < n → okR w (h i)) →
  cf 22 [(.val, .lst [.lst (row n fun i => encR true w (h i)), .lst (rowI n y0), .int (a : Int)]), (.val, .int N), (.val, .int (w : Int)), (.val, .lst (rowI n y)), (.val, .lst (rowI 5 f)), (.val, .int v), (.val, .int p)] = some (.val, .bl true)
def szA : List Int := [3, 120, 20, 64, 61, 41, 6, 4, 4, 2501]
theorem lA : ([.int 3, .int 120, .int 20, .int 64, .int 61, .int 41, .int 6, .int 4, .int 4, .int 2501] : List D) = rowI 10 fun i => szA.getD i 0 := rfl
def szM : List Int := [4, 6, 8, 9, 12, 36, 60, 120, 4, 12, 16, 27, 30, 72, 2, 3, 5, 1, 8, 6]
theorem lM : ([.int 4, .int 6, .int 8, .int 9, .int 12, .int 36, .int 60, .int 120, .int 4, .int 12, .int 16, .int 27, .int 30, .int 72, .int 2, .int 3, .int 5, .int 1, .int 8, .int 6] : List D) = rowI 20 fun i => szM.getD i 0 := rfl
theorem szM_b : ∀ i, i < 20 → 1 ≤ szM.getD i 0 ∧ szM.getD i 0 ≤ 120 := by decide
def szW : List Int := [40, 39, 12, 3]
theorem lW : ([.int 40, .int 39, .int 12, .int 3] : List D) = rowI 4 fun i => szW.getD i 0 := rfl
theorem szW_b : ∀ i, i < 4 → 0 ≤ szW.getD i 0 ∧ szW.getD i 0 ≤ 40 := by decide
def szR : List Int := [3000, 40, 119, 80, 20001, 3000, 40, 119, 80, 20001]
theorem lR : ([.int 3000, .int 40, .int 119, .int 80, .int 20001, .int 3000, .int 40, .int 119, .int 80, .int 20001] : List D) = rowI 10 fun i => szR.getD i 0 := rfl
theorem szR_b : ∀ i, i < 10 → 0 < szR.getD i 0 ∧ szR.getD i 0 ≤ 20001 := by decide
def szK (p : Int) : List Int := [3000, 2999, 500 + p, 500 + p]
theorem lK {p : Int} : ([.int 3000, .int 2999, .int (500 + p), .int (500 + p)] : List D) = rowI 4 fun i => (szK p).getD i 0 := rfl
section
variable {cf : CF} {gl : Nat → Option D} {fu : Nat} {ns : List Int}
/-- the first part: modulus, many, width -/
theorem law_A (hc : Cell cf) (hd : Digits cf) : ∃ (f : Nat → Int) (N : Int) (m w : Nat), (∀ i, i < 10 → 0 ≤ f i ∧ f i < szA.getD i 0) ∧ 0 < N ∧ N ≤ 120 ∧ m ≤ 24 ∧ w ≤ 40 ∧ (f 3 = 0 → 0 < m) ∧
    evS cf gl fu (S.takeS 8 b23) [some (.bor, .lst (ns.map D.int)), none, none, none, none, none, none, none, none, none, none, none, none, none, none, none, none, none, none, none] =
      some (.nx [some (.bor, .lst (ns.map D.int)), some (.own, .lst (rowI 10 f)), some (.own, .lst (rowI 20 fun i => szM.getD i 0)), some (.val, .int N), some (.val, .int (m : Int)), some (.val, .int (w : Int)), none, none, none, none, none, none, none, none, none, none, none, none, none, none]) := by
  obtain ⟨v0, h0⟩ := hc ns 0 (by omega)
  have h0 := j_call (cs := [(.bor, .lst (ns.map D.int)), (.val, .int 0)]) h0 (.inl rfl)
  obtain ⟨f, hf, h4⟩ := hd v0 10 (fun i => szA.getD i 0) .val (.inl rfl) (by decide) (by omega)
  have h4 := j_call (cs := [(.val, .int v0), (.own, .lst (rowI 10 fun i => szA.getD i 0))]) h4 (.inr rfl)
  have f0 : 0 ≤ f 0 ∧ f 0 < 3 := hf 0 (by omega)
  have f1 : 0 ≤ f 1 ∧ f 1 < 120 := hf 1 (by omega)
  have f2 : 0 ≤ f 2 ∧ f 2 < 20 := hf 2 (by omega)
  have f3 : 0 ≤ f 3 ∧ f 3 < 64 := hf 3 (by omega)
  have f4 : 0 ≤ f 4 ∧ f 4 < 61 := hf 4 (by omega)
  have f5 : 0 ≤ f 5 ∧ f 5 < 41 := hf 5 (by omega)
  have f8 : 0 ≤ f 8 ∧ f 8 < 4 := hf 8 (by omega)
  have hm := szM_b (f 2).toNat (by omega)
  have hw := szW_b (f 8).toNat (by omega)
  generalize hM : szM.getD (f 2).toNat 0 = M at *
  generalize hW : szW.getD (f 8).toNat 0 = W at *
  have key : ∃ N : Int, 0 < N ∧ N ≤ 120 ∧ evS cf gl fu (S.takeS 4 b23) [some (.bor, .lst (ns.map D.int)), none, none, none, none, none, none, none, none, none, none, none, none, none, none, none, none, none, none, none] =
      some (.nx [some (.bor, .lst (ns.map D.int)), some (.own, .lst (rowI 10 f)), some (.own, .lst (rowI 20 fun i => szM.getD i 0)), some (.val, .int N), none, none, none, none, none, none, none, none, none, none, none, none, none, none, none, none]) := by
    by_cases q : f 0 = 0
    · exact ⟨1 + f 1, by omega, by omega, by simp -implicitDefEqProofs (disch := omega) only [b23, S.takeS, runF, List.length_cons, List.length_nil, List.map_cons, List.map_nil, List.cons_append, List.nil_append, List.append_nil, List.replicate_succ, List.replicate_zero, Nat.reduceAdd, Nat.reduceSub, Nat.zero_add, Nat.reduceLT, Nat.reduceLeDiff, List.getElem?_cons_zero, List.getElem?_cons_succ, List.set_cons_zero, List.set_cons_succ, rdV, D.isMut, if_true, if_false, ite_true, ite_false, reduceCtorEq, true_or, or_true, and_self, or_false, false_or, Bool.false_eq_true, x_var, x_int, x_str, x_bl, x_non, x_bin, x_and, x_or, x_andN, x_orN, x_andC, x_orC, x_not, x_neg, x_ite, x_lst, x_tup, x_nil, x_cons, x_call, x_bi, x_slc, x_isi, x_oN, x_sNil, x_sCons, x_set, x_sIte, x_ret, x_retN, x_brk, x_cnt, x_pass, x_doc, j_bin, j_un, j_seq, j_seqR, j_seqB, j_seqC, j_iteT, j_iteF, j_iteCT, j_iteCF, j_andT, j_andF, j_orT, j_orF, j_bl, j_cons, j_bi, j_asB, j_stV, j_stO, j_ret, retE, j_sl, o_add, o_sub, o_mulL, o_mulR, o_div, o_mod, o_pow, o_lt, o_le, o_gt, o_ge, o_eq, o_ne, o_isB, b_int, b_intB, b_lenL, b_lenT, b_max, b_min, b_tupL, b_tupT, b_lstL, b_lstT, b_abs, Option.bind_some, Option.map_some, Option.bind_none, Option.map_none, x_lock, x_frz, x_for, x_mth, x_unp, x_setIx, x_comp, x_it, x_rng, x_enm, x_zip, j_lockV, j_lockB, j_lockO, j_frzO, j_frzV, j_frzB, j_own, j_itL, j_itT, j_enmL, j_enmT, safeI, safeS, t_nm, t_tup, t_tupL, t_nil, t_cons, f_nil, f_one, v_val, v_own, argM, j_lst2, j_tup2, vls_nil, vls_val, vls_own, lstO_s, tupO_s, turn_nx, turn_cnt, fin_r, fin_n, rowI_len, row_len, o_iL, o_iT, o_rL, o_t0, o_t1, o_l0, o_l1, o_l2, r_n, s_from, s_fromI, s_to, s_toI, x_oI, x_oB, x_oV, opt_int, o_addI, o_addR, o_in2, Int.toNat_natCast, Int.reduceToNat, Int.reduceEq, Int.reduceLT, Int.reduceLE, Int.reduceAdd, Int.reduceSub, Int.reduceMul, Int.reduceNeg, decide_true, decide_false, eq_self, Bool.true_or, Bool.or_true, Bool.or_false, Bool.false_or, Bool.not_true, Bool.not_false, sq_it, Int.cast_ofNat_Int, h0, h4, lA, lM, q]⟩
    · exact ⟨M, by omega, by omega, by simp -implicitDefEqProofs (disch := omega) only [b23, S.takeS, runF, List.length_cons, List.length_nil, List.map_cons, List.map_nil, List.cons_append, List.nil_append, List.append_nil, List.replicate_succ, List.replicate_zero, Nat.reduceAdd, Nat.reduceSub, Nat.zero_add, Nat.reduceLT, Nat.reduceLeDiff, List.getElem?_cons_zero, List.getElem?_cons_succ, List.set_cons_zero, List.set_cons_succ, rdV, D.isMut, if_true, if_false, ite_true, ite_false, reduceCtorEq, true_or, or_true, and_self, or_false, false_or, Bool.false_eq_true, x_var, x_int, x_str, x_bl, x_non, x_bin, x_and, x_or, x_andN, x_orN, x_andC, x_orC, x_not, x_neg, x_ite, x_lst, x_tup, x_nil, x_cons, x_call, x_bi, x_slc, x_isi, x_oN, x_sNil, x_sCons, x_set, x_sIte, x_ret, x_retN, x_brk, x_cnt, x_pass, x_doc, j_bin, j_un, j_seq, j_seqR, j_seqB, j_seqC, j_iteT, j_iteF, j_iteCT, j_iteCF, j_andT, j_andF, j_orT, j_orF, j_bl, j_cons, j_bi, j_asB, j_stV, j_stO, j_ret, retE, j_sl, o_add, o_sub, o_mulL, o_mulR, o_div, o_mod, o_pow, o_lt, o_le, o_gt, o_ge, o_eq, o_ne, o_isB, b_int, b_intB, b_lenL, b_lenT, b_max, b_min, b_tupL, b_tupT, b_lstL, b_lstT, b_abs, Option.bind_some, Option.map_some, Option.bind_none, Option.map_none, x_lock, x_frz, x_for, x_mth, x_unp, x_setIx, x_comp, x_it, x_rng, x_enm, x_zip, j_lockV, j_lockB, j_lockO, j_frzO, j_frzV, j_frzB, j_own, j_itL, j_itT, j_enmL, j_enmT, safeI, safeS, t_nm, t_tup, t_tupL, t_nil, t_cons, f_nil, f_one, v_val, v_own, argM, j_lst2, j_tup2, vls_nil, vls_val, vls_own, lstO_s, tupO_s, turn_nx, turn_cnt, fin_r, fin_n, rowI_len, row_len, o_iL, o_iT, o_rL, o_t0, o_t1, o_l0, o_l1, o_l2, r_n, s_from, s_fromI, s_to, s_toI, x_oI, x_oB, x_oV, opt_int, o_addI, o_addR, o_in2, Int.toNat_natCast, Int.reduceToNat, Int.reduceEq, Int.reduceLT, Int.reduceLE, Int.reduceAdd, Int.reduceSub, Int.reduceMul, Int.reduceNeg, decide_true, decide_false, eq_self, Bool.true_or, Bool.or_true, Bool.or_false, Bool.false_or, Bool.not_true, Bool.not_false, sq_it, Int.cast_ofNat_Int, h0, h4, lA, lM, q, hM]⟩
  obtain ⟨N, n1, n2, key⟩ := key
  have two : ∀ (m w : Int), 0 ≤ m → m ≤ 24 → 0 ≤ w → w ≤ 40 → (f 3 = 0 → 0 < m) → evS cf gl fu (S.takeS 4 (S.dropS 4 b23)) [some (.bor, .lst (ns.map D.int)), some (.own, .lst (rowI 10 f)), some (.own, .lst (rowI 20 fun i => szM.getD i 0)), some (.val, .int N), none, none, none, none, none, none, none, none, none, none, none, none, none, none, none, none] =
      some (.nx [some (.bor, .lst (ns.map D.int)), some (.own, .lst (rowI 10 f)), some (.own, .lst (rowI 20 fun i => szM.getD i 0)), some (.val, .int N), some (.val, .int m), some (.val, .int w), none, none, none, none, none, none, none, none, none, none, none, none, none, none]) →
      ∃ (f : Nat → Int) (N : Int) (m w : Nat), (∀ i, i < 10 → 0 ≤ f i ∧ f i < szA.getD i 0) ∧ 0 < N ∧ N ≤ 120 ∧ m ≤ 24 ∧ w ≤ 40 ∧ (f 3 = 0 → 0 < m) ∧
    evS cf gl fu (S.takeS 8 b23) [some (.bor, .lst (ns.map D.int)), none, none, none, none, none, none, none, none, none, none, none, none, none, none, none, none, none, none, none] =
      some (.nx [some (.bor, .lst (ns.map D.int)), some (.own, .lst (rowI 10 f)), some (.own, .lst (rowI 20 fun i => szM.getD i 0)), some (.val, .int N), some (.val, .int (m : Int)), some (.val, .int (w : Int)), none, none, none, none, none, none, none, none, none, none, none, none, none, none]) := by
    intro m w m0 m1 w0 w1 hz h
    refine ⟨f, N, m.toNat, w.toNat, hf, n1, n2, by omega, by omega, fun q => by have := hz q; omega, ?_⟩
    have em : ((m.toNat : Nat) : Int) = m := by omega
    have ew : ((w.toNat : Nat) : Int) = w := by omega
    rw [em, ew, evS_split 4]
    show seqO (evS cf gl fu (S.takeS 4 b23) _) (evS cf gl fu (S.takeS 4 (S.dropS 4 b23))) = _
    rw [key, j_seq, h]
  by_cases q : f 3 = 0
  · exact two (1 + f 4 % 20) W (by omega) (by omega) (by omega) (by omega) (fun _ => by omega) (by simp -implicitDefEqProofs (disch := omega) only [b23, S.takeS, S.dropS, runF, List.length_cons, List.length_nil, List.map_cons, List.map_nil, List.cons_append, List.nil_append, List.append_nil, List.replicate_succ, List.replicate_zero, Nat.reduceAdd, Nat.reduceSub, Nat.zero_add, Nat.reduceLT, Nat.reduceLeDiff, List.getElem?_cons_zero, List.getElem?_cons_succ, List.set_cons_zero, List.set_cons_succ, rdV, D.isMut, if_true, if_false, ite_true, ite_false, reduceCtorEq, true_or, or_true, and_self, or_false, false_or, Bool.false_eq_true, x_var, x_int, x_str, x_bl, x_non, x_bin, x_and, x_or, x_andN, x_orN, x_andC, x_orC, x_not, x_neg, x_ite, x_lst, x_tup, x_nil, x_cons, x_call, x_bi, x_slc, x_isi, x_oN, x_sNil, x_sCons, x_set, x_sIte, x_ret, x_retN, x_brk, x_cnt, x_pass, x_doc, j_bin, j_un, j_seq, j_seqR, j_seqB, j_seqC, j_iteT, j_iteF, j_iteCT, j_iteCF, j_andT, j_andF, j_orT, j_orF, j_bl, j_cons, j_bi, j_asB, j_stV, j_stO, j_ret, retE, j_sl, o_add, o_sub, o_mulL, o_mulR, o_div, o_mod, o_pow, o_lt, o_le, o_gt, o_ge, o_eq, o_ne, o_isB, b_int, b_intB, b_lenL, b_lenT, b_max, b_min, b_tupL, b_tupT, b_lstL, b_lstT, b_abs, Option.bind_some, Option.map_some, Option.bind_none, Option.map_none, x_lock, x_frz, x_for, x_mth, x_unp, x_setIx, x_comp, x_it, x_rng, x_enm, x_zip, j_lockV, j_lockB, j_lockO, j_frzO, j_frzV, j_frzB, j_own, j_itL, j_itT, j_enmL, j_enmT, safeI, safeS, t_nm, t_tup, t_tupL, t_nil, t_cons, f_nil, f_one, v_val, v_own, argM, j_lst2, j_tup2, vls_nil, vls_val, vls_own, lstO_s, tupO_s, turn_nx, turn_cnt, fin_r, fin_n, rowI_len, row_len, o_iL, o_iT, o_rL, o_t0, o_t1, o_l0, o_l1, o_l2, r_n, s_from, s_fromI, s_to, s_toI, x_oI, x_oB, x_oV, opt_int, o_addI, o_addR, o_in2, Int.toNat_natCast, Int.reduceToNat, Int.reduceEq, Int.reduceLT, Int.reduceLE, Int.reduceAdd, Int.reduceSub, Int.reduceMul, Int.reduceNeg, decide_true, decide_false, eq_self, Bool.true_or, Bool.or_true, Bool.or_false, Bool.false_or, Bool.not_true, Bool.not_false, sq_it, Int.cast_ofNat_Int, lW, q, hW])
  by_cases q2 : f 3 < 7
  · exact two (f 4 % 25) (f 5 % 13) (by omega) (by omega) (by omega) (by omega) (fun e => absurd e q) (by simp -implicitDefEqProofs (disch := omega) only [b23, S.takeS, S.dropS, runF, List.length_cons, List.length_nil, List.map_cons, List.map_nil, List.cons_append, List.nil_append, List.append_nil, List.replicate_succ, List.replicate_zero, Nat.reduceAdd, Nat.reduceSub, Nat.zero_add, Nat.reduceLT, Nat.reduceLeDiff, List.getElem?_cons_zero, List.getElem?_cons_succ, List.set_cons_zero, List.set_cons_succ, rdV, D.isMut, if_true, if_false, ite_true, ite_false, reduceCtorEq, true_or, or_true, and_self, or_false, false_or, Bool.false_eq_true, x_var, x_int, x_str, x_bl, x_non, x_bin, x_and, x_or, x_andN, x_orN, x_andC, x_orC, x_not, x_neg, x_ite, x_lst, x_tup, x_nil, x_cons, x_call, x_bi, x_slc, x_isi, x_oN, x_sNil, x_sCons, x_set, x_sIte, x_ret, x_retN, x_brk, x_cnt, x_pass, x_doc, j_bin, j_un, j_seq, j_seqR, j_seqB, j_seqC, j_iteT, j_iteF, j_iteCT, j_iteCF, j_andT, j_andF, j_orT, j_orF, j_bl, j_cons, j_bi, j_asB, j_stV, j_stO, j_ret, retE, j_sl, o_add, o_sub, o_mulL, o_mulR, o_div, o_mod, o_pow, o_lt, o_le, o_gt, o_ge, o_eq, o_ne, o_isB, b_int, b_intB, b_lenL, b_lenT, b_max, b_min, b_tupL, b_tupT, b_lstL, b_lstT, b_abs, Option.bind_some, Option.map_some, Option.bind_none, Option.map_none, x_lock, x_frz, x_for, x_mth, x_unp, x_setIx, x_comp, x_it, x_rng, x_enm, x_zip, j_lockV, j_lockB, j_lockO, j_frzO, j_frzV, j_frzB, j_own, j_itL, j_itT, j_enmL, j_enmT, safeI, safeS, t_nm, t_tup, t_tupL, t_nil, t_cons, f_nil, f_one, v_val, v_own, argM, j_lst2, j_tup2, vls_nil, vls_val, vls_own, lstO_s, tupO_s, turn_nx, turn_cnt, fin_r, fin_n, rowI_len, row_len, o_iL, o_iT, o_rL, o_t0, o_t1, o_l0, o_l1, o_l2, r_n, s_from, s_fromI, s_to, s_toI, x_oI, x_oB, x_oV, opt_int, o_addI, o_addR, o_in2, Int.toNat_natCast, Int.reduceToNat, Int.reduceEq, Int.reduceLT, Int.reduceLE, Int.reduceAdd, Int.reduceSub, Int.reduceMul, Int.reduceNeg, decide_true, decide_false, eq_self, Bool.true_or, Bool.or_true, Bool.or_false, Bool.false_or, Bool.not_true, Bool.not_false, sq_it, Int.cast_ofNat_Int, q, q2])
  · exact two (f 4 % 10) (f 5 % 6) (by omega) (by omega) (by omega) (by omega) (fun e => absurd e q) (by simp -implicitDefEqProofs (disch := omega) only [b23, S.takeS, S.dropS, runF, List.length_cons, List.length_nil, List.map_cons, List.map_nil, List.cons_append, List.nil_append, List.append_nil, List.replicate_succ, List.replicate_zero, Nat.reduceAdd, Nat.reduceSub, Nat.zero_add, Nat.reduceLT, Nat.reduceLeDiff, List.getElem?_cons_zero, List.getElem?_cons_succ, List.set_cons_zero, List.set_cons_succ, rdV, D.isMut, if_true, if_false, ite_true, ite_false, reduceCtorEq, true_or, or_true, and_self, or_false, false_or, Bool.false_eq_true, x_var, x_int, x_str, x_bl, x_non, x_bin, x_and, x_or, x_andN, x_orN, x_andC, x_orC, x_not, x_neg, x_ite, x_lst, x_tup, x_nil, x_cons, x_call, x_bi, x_slc, x_isi, x_oN, x_sNil, x_sCons, x_set, x_sIte, x_ret, x_retN, x_brk, x_cnt, x_pass, x_doc, j_bin, j_un, j_seq, j_seqR, j_seqB, j_seqC, j_iteT, j_iteF, j_iteCT, j_iteCF, j_andT, j_andF, j_orT, j_orF, j_bl, j_cons, j_bi, j_asB, j_stV, j_stO, j_ret, retE, j_sl, o_add, o_sub, o_mulL, o_mulR, o_div, o_mod, o_pow, o_lt, o_le, o_gt, o_ge, o_eq, o_ne, o_isB, b_int, b_intB, b_lenL, b_lenT, b_max, b_min, b_tupL, b_tupT, b_lstL, b_lstT, b_abs, Option.bind_some, Option.map_some, Option.bind_none, Option.map_none, x_lock, x_frz, x_for, x_mth, x_unp, x_setIx, x_comp, x_it, x_rng, x_enm, x_zip, j_lockV, j_lockB, j_lockO, j_frzO, j_frzV, j_frzB, j_own, j_itL, j_itT, j_enmL, j_enmT, safeI, safeS, t_nm, t_tup, t_tupL, t_nil, t_cons, f_nil, f_one, v_val, v_own, argM, j_lst2, j_tup2, vls_nil, vls_val, vls_own, lstO_s, tupO_s, turn_nx, turn_cnt, fin_r, fin_n, rowI_len, row_len, o_iL, o_iT, o_rL, o_t0, o_t1, o_l0, o_l1, o_l2, r_n, s_from, s_fromI, s_to, s_toI, x_oI, x_oB, x_oV, opt_int, o_addI, o_addR, o_in2, Int.toNat_natCast, Int.reduceToNat, Int.reduceEq, Int.reduceLT, Int.reduceLE, Int.reduceAdd, Int.reduceSub, Int.reduceMul, Int.reduceNeg, decide_true, decide_false, eq_self, Bool.true_or, Bool.or_true, Bool.or_false, Bool.false_or, Bool.not_true, Bool.not_false, sq_it, Int.cast_ofNat_Int, q, q2])
end
end My
end

section
set_option Elab.async false
set_option linter.all false
set_option maxRecDepth 100000
set_option maxHeartbeats 4000000
namespace My
open PySem
theorem szK_b {p : Int} (h : 0 ≤ p ∧ p ≤ 2500) : ∀ i : Nat, 0 ≤ (szK p).getD i 0 ∧ (szK p).getD i 0 ≤ 3000
  | 0 => ⟨by show (0 : Int) ≤ 3000; omega, by show (3000 : Int) ≤ 3000; omega⟩
  | 1 => ⟨by show (0 : Int) ≤ 2999; omega, by show (2999 : Int) ≤ 3000; omega⟩
  | 2 => ⟨by show (0 : Int) ≤ 500 + p; omega, by show 500 + p ≤ (3000 : Int); omega⟩
  | 3 => ⟨by show (0 : Int) ≤ 500 + p; omega, by show 500 + p ≤ (3000 : Int); omega⟩
  | _ + 4 => ⟨by show (0 : Int) ≤ 0; omega, by show (0 : Int) ≤ 3000; omega⟩
section
variable {cf : CF} {gl : Nat → Option D} {fu : Nat} {ns : List Int} {N : Int} {n m w k : Nat} {f x : Nat → Int} {cs : Nat → Int} {h : Nat → Rw} {l : List D} {s0 s1 s2 s3 s4 s5 s6 s7 s8 s9 s10 s11 s12 s13 s14 s15 s16 s17 s18 s19 : Option My.C}
theorem c23_1 (hw : w ≤ 40) : compO (some (rowI w fun j => (j : Int))) (cmpF cf gl [17] (.nm 17) .nil e23_1 [s0, some (.own, .lst (rowI 10 f)), s2, s3, s4, s5, s6, s7, s8, s9, s10, s11, s12, s13, s14, s15, s16, s17, s18, s19]) = some (.own, .lst (rowI w fun _ => if f 6 < 2 then 6 else 100000)) :=
  compI (fun i hi => by
    by_cases q : f 6 < 2
    · simp -implicitDefEqProofs (disch := omega) only [cmpF, wipeE, e23_1, runF, List.length_cons, List.length_nil, List.map_cons, List.map_nil, List.cons_append, List.nil_append, List.append_nil, List.replicate_succ, List.replicate_zero, Nat.reduceAdd, Nat.reduceSub, Nat.zero_add, Nat.reduceLT, Nat.reduceLeDiff, List.getElem?_cons_zero, List.getElem?_cons_succ, List.set_cons_zero, List.set_cons_succ, rdV, D.isMut, if_true, if_false, ite_true, ite_false, reduceCtorEq, true_or, or_true, and_self, or_false, false_or, Bool.false_eq_true, x_var, x_int, x_str, x_bl, x_non, x_bin, x_and, x_or, x_andN, x_orN, x_andC, x_orC, x_not, x_neg, x_ite, x_lst, x_tup, x_nil, x_cons, x_call, x_bi, x_slc, x_isi, x_oN, x_sNil, x_sCons, x_set, x_sIte, x_ret, x_retN, x_brk, x_cnt, x_pass, x_doc, j_bin, j_un, j_seq, j_seqR, j_seqB, j_seqC, j_iteT, j_iteF, j_iteCT, j_iteCF, j_andT, j_andF, j_orT, j_orF, j_bl, j_cons, j_bi, j_asB, j_stV, j_stO, j_ret, retE, j_sl, o_add, o_sub, o_mulL, o_mulR, o_div, o_mod, o_pow, o_lt, o_le, o_gt, o_ge, o_eq, o_ne, o_isB, b_int, b_intB, b_lenL, b_lenT, b_max, b_min, b_tupL, b_tupT, b_lstL, b_lstT, b_abs, Option.bind_some, Option.map_some, Option.bind_none, Option.map_none, x_lock, x_frz, x_for, x_mth, x_unp, x_setIx, x_comp, x_it, x_rng, x_enm, x_zip, j_lockV, j_lockB, j_lockO, j_frzO, j_frzV, j_frzB, j_own, j_itL, j_itT, j_enmL, j_enmT, safeI, safeS, t_nm, t_tup, t_tupL, t_nil, t_cons, f_nil, f_one, v_val, v_own, argM, j_lst2, j_tup2, vls_nil, vls_val, vls_own, lstO_s, tupO_s, turn_nx, turn_cnt, fin_r, fin_n, rowI_len, row_len, o_iL, o_iT, o_rL, o_t0, o_t1, o_l0, o_l1, o_l2, r_n, s_from, s_fromI, s_to, s_toI, x_oI, x_oB, x_oV, opt_int, o_addI, o_addR, o_in2, Int.toNat_natCast, Int.reduceToNat, Int.reduceEq, Int.reduceLT, Int.reduceLE, Int.reduceAdd, Int.reduceSub, Int.reduceMul, Int.reduceNeg, decide_true, decide_false, eq_self, Bool.true_or, Bool.or_true, Bool.or_false, Bool.false_or, Bool.not_true, Bool.not_false, sq_it, Int.cast_ofNat_Int, q]
    · simp -implicitDefEqProofs (disch := omega) only [cmpF, wipeE, e23_1, runF, List.length_cons, List.length_nil, List.map_cons, List.map_nil, List.cons_append, List.nil_append, List.append_nil, List.replicate_succ, List.replicate_zero, Nat.reduceAdd, Nat.reduceSub, Nat.zero_add, Nat.reduceLT, Nat.reduceLeDiff, List.getElem?_cons_zero, List.getElem?_cons_succ, List.set_cons_zero, List.set_cons_succ, rdV, D.isMut, if_true, if_false, ite_true, ite_false, reduceCtorEq, true_or, or_true, and_self, or_false, false_or, Bool.false_eq_true, x_var, x_int, x_str, x_bl, x_non, x_bin, x_and, x_or, x_andN, x_orN, x_andC, x_orC, x_not, x_neg, x_ite, x_lst, x_tup, x_nil, x_cons, x_call, x_bi, x_slc, x_isi, x_oN, x_sNil, x_sCons, x_set, x_sIte, x_ret, x_retN, x_brk, x_cnt, x_pass, x_doc, j_bin, j_un, j_seq, j_seqR, j_seqB, j_seqC, j_iteT, j_iteF, j_iteCT, j_iteCF, j_andT, j_andF, j_orT, j_orF, j_bl, j_cons, j_bi, j_asB, j_stV, j_stO, j_ret, retE, j_sl, o_add, o_sub, o_mulL, o_mulR, o_div, o_mod, o_pow, o_lt, o_le, o_gt, o_ge, o_eq, o_ne, o_isB, b_int, b_intB, b_lenL, b_lenT, b_max, b_min, b_tupL, b_tupT, b_lstL, b_lstT, b_abs, Option.bind_some, Option.map_some, Option.bind_none, Option.map_none, x_lock, x_frz, x_for, x_mth, x_unp, x_setIx, x_comp, x_it, x_rng, x_enm, x_zip, j_lockV, j_lockB, j_lockO, j_frzO, j_frzV, j_frzB, j_own, j_itL, j_itT, j_enmL, j_enmT, safeI, safeS, t_nm, t_tup, t_tupL, t_nil, t_cons, f_nil, f_one, v_val, v_own, argM, j_lst2, j_tup2, vls_nil, vls_val, vls_own, lstO_s, tupO_s, turn_nx, turn_cnt, fin_r, fin_n, rowI_len, row_len, o_iL, o_iT, o_rL, o_t0, o_t1, o_l0, o_l1, o_l2, r_n, s_from, s_fromI, s_to, s_toI, x_oI, x_oB, x_oV, opt_int, o_addI, o_addR, o_in2, Int.toNat_natCast, Int.reduceToNat, Int.reduceEq, Int.reduceLT, Int.reduceLE, Int.reduceAdd, Int.reduceSub, Int.reduceMul, Int.reduceNeg, decide_true, decide_false, eq_self, Bool.true_or, Bool.or_true, Bool.or_false, Bool.false_or, Bool.not_true, Bool.not_false, sq_it, Int.cast_ofNat_Int, q]) (by omega)
theorem c23_2 (hm : m ≤ 24) (hcs : ∀ i, i < m → callO (cf 3) (some [(.bor, .lst (ns.map D.int)), (.val, .int (5 + (i : Int)))]) = some (.val, .int (cs i))) :
    compO (some (rowI m fun j => (j : Int))) (cmpF cf gl [18] (.nm 18) .nil e23_2 [some (.bor, .lst (ns.map D.int)), s1, s2, s3, s4, s5, s6, s7, s8, s9, s10, s11, s12, s13, s14, s15, s16, s17, s18, s19]) = some (.own, .lst (rowI m cs)) :=
  compI (fun i hi => by simp -implicitDefEqProofs (disch := omega) only [cmpF, wipeE, e23_2, runF, List.length_cons, List.length_nil, List.map_cons, List.map_nil, List.cons_append, List.nil_append, List.append_nil, List.replicate_succ, List.replicate_zero, Nat.reduceAdd, Nat.reduceSub, Nat.zero_add, Nat.reduceLT, Nat.reduceLeDiff, List.getElem?_cons_zero, List.getElem?_cons_succ, List.set_cons_zero, List.set_cons_succ, rdV, D.isMut, if_true, if_false, ite_true, ite_false, reduceCtorEq, true_or, or_true, and_self, or_false, false_or, Bool.false_eq_true, x_var, x_int, x_str, x_bl, x_non, x_bin, x_and, x_or, x_andN, x_orN, x_andC, x_orC, x_not, x_neg, x_ite, x_lst, x_tup, x_nil, x_cons, x_call, x_bi, x_slc, x_isi, x_oN, x_sNil, x_sCons, x_set, x_sIte, x_ret, x_retN, x_brk, x_cnt, x_pass, x_doc, j_bin, j_un, j_seq, j_seqR, j_seqB, j_seqC, j_iteT, j_iteF, j_iteCT, j_iteCF, j_andT, j_andF, j_orT, j_orF, j_bl, j_cons, j_bi, j_asB, j_stV, j_stO, j_ret, retE, j_sl, o_add, o_sub, o_mulL, o_mulR, o_div, o_mod, o_pow, o_lt, o_le, o_gt, o_ge, o_eq, o_ne, o_isB, b_int, b_intB, b_lenL, b_lenT, b_max, b_min, b_tupL, b_tupT, b_lstL, b_lstT, b_abs, Option.bind_some, Option.map_some, Option.bind_none, Option.map_none, x_lock, x_frz, x_for, x_mth, x_unp, x_setIx, x_comp, x_it, x_rng, x_enm, x_zip, j_lockV, j_lockB, j_lockO, j_frzO, j_frzV, j_frzB, j_own, j_itL, j_itT, j_enmL, j_enmT, safeI, safeS, t_nm, t_tup, t_tupL, t_nil, t_cons, f_nil, f_one, v_val, v_own, argM, j_lst2, j_tup2, vls_nil, vls_val, vls_own, lstO_s, tupO_s, turn_nx, turn_cnt, fin_r, fin_n, rowI_len, row_len, o_iL, o_iT, o_rL, o_t0, o_t1, o_l0, o_l1, o_l2, r_n, s_from, s_fromI, s_to, s_toI, x_oI, x_oB, x_oV, opt_int, o_addI, o_addR, o_in2, Int.toNat_natCast, Int.reduceToNat, Int.reduceEq, Int.reduceLT, Int.reduceLE, Int.reduceAdd, Int.reduceSub, Int.reduceMul, Int.reduceNeg, decide_true, decide_false, eq_self, Bool.true_or, Bool.or_true, Bool.or_false, Bool.false_or, Bool.not_true, Bool.not_false, sq_it, Int.cast_ofNat_Int, hcs i hi]) (by omega)
theorem c23_3 (hm : 0 < m) (hk : k ≤ 3000) : compO (some (rowI k fun j => (j : Int))) (cmpF cf gl [18] (.nm 18) .nil e23_3 [s0, s1, s2, s3, some (.val, .int (m : Int)), s5, s6, some (.val, .lst (row m fun i => encR true w (h i))), s8, s9, s10, s11, s12, s13, s14, s15, s16, s17, s18, s19]) = some (.own, .lst (row k fun i => encR true w (h ((i : Int) % (m : Int)).toNat))) :=
  compR (fun i hi => by
    have a := And.intro (Int.emod_nonneg (i : Int) (show (m : Int) ≠ 0 by omega)) (Int.emod_lt_of_pos (i : Int) (show (0 : Int) < m by omega))
    simp -implicitDefEqProofs (disch := first | omega | exact a) only [cmpF, wipeE, e23_3, runF, List.length_cons, List.length_nil, List.map_cons, List.map_nil, List.cons_append, List.nil_append, List.append_nil, List.replicate_succ, List.replicate_zero, Nat.reduceAdd, Nat.reduceSub, Nat.zero_add, Nat.reduceLT, Nat.reduceLeDiff, List.getElem?_cons_zero, List.getElem?_cons_succ, List.set_cons_zero, List.set_cons_succ, rdV, D.isMut, if_true, if_false, ite_true, ite_false, reduceCtorEq, true_or, or_true, and_self, or_false, false_or, Bool.false_eq_true, x_var, x_int, x_str, x_bl, x_non, x_bin, x_and, x_or, x_andN, x_orN, x_andC, x_orC, x_not, x_neg, x_ite, x_lst, x_tup, x_nil, x_cons, x_call, x_bi, x_slc, x_isi, x_oN, x_sNil, x_sCons, x_set, x_sIte, x_ret, x_retN, x_brk, x_cnt, x_pass, x_doc, j_bin, j_un, j_seq, j_seqR, j_seqB, j_seqC, j_iteT, j_iteF, j_iteCT, j_iteCF, j_andT, j_andF, j_orT, j_orF, j_bl, j_cons, j_bi, j_asB, j_stV, j_stO, j_ret, retE, j_sl, o_add, o_sub, o_mulL, o_mulR, o_div, o_mod, o_pow, o_lt, o_le, o_gt, o_ge, o_eq, o_ne, o_isB, b_int, b_intB, b_lenL, b_lenT, b_max, b_min, b_tupL, b_tupT, b_lstL, b_lstT, b_abs, Option.bind_some, Option.map_some, Option.bind_none, Option.map_none, x_lock, x_frz, x_for, x_mth, x_unp, x_setIx, x_comp, x_it, x_rng, x_enm, x_zip, j_lockV, j_lockB, j_lockO, j_frzO, j_frzV, j_frzB, j_own, j_itL, j_itT, j_enmL, j_enmT, safeI, safeS, t_nm, t_tup, t_tupL, t_nil, t_cons, f_nil, f_one, v_val, v_own, argM, j_lst2, j_tup2, vls_nil, vls_val, vls_own, lstO_s, tupO_s, turn_nx, turn_cnt, fin_r, fin_n, rowI_len, row_len, o_iL, o_iT, o_rL, o_t0, o_t1, o_l0, o_l1, o_l2, r_n, s_from, s_fromI, s_to, s_toI, x_oI, x_oB, x_oV, opt_int, o_addI, o_addR, o_in2, Int.toNat_natCast, Int.reduceToNat, Int.reduceEq, Int.reduceLT, Int.reduceLE, Int.reduceAdd, Int.reduceSub, Int.reduceMul, Int.reduceNeg, decide_true, decide_false, eq_self, Bool.true_or, Bool.or_true, Bool.or_false, Bool.false_or, Bool.not_true, Bool.not_false, sq_it, Int.cast_ofNat_Int]) (by omega)
theorem c23_4 (hw : w ≤ 40) : compO (some (rowI w fun j => (j : Int))) (cmpF cf gl [17] (.nm 17) .nil e23_4 [s0, s1, s2, some (.val, .int N), s4, s5, s6, s7, s8, s9, s10, s11, s12, s13, s14, s15, s16, s17, s18, s19]) = some (.own, .lst (rowI w fun _ => N)) :=
  compI (fun i hi => by simp -implicitDefEqProofs (disch := omega) only [cmpF, wipeE, e23_4, runF, List.length_cons, List.length_nil, List.map_cons, List.map_nil, List.cons_append, List.nil_append, List.append_nil, List.replicate_succ, List.replicate_zero, Nat.reduceAdd, Nat.reduceSub, Nat.zero_add, Nat.reduceLT, Nat.reduceLeDiff, List.getElem?_cons_zero, List.getElem?_cons_succ, List.set_cons_zero, List.set_cons_succ, rdV, D.isMut, if_true, if_false, ite_true, ite_false, reduceCtorEq, true_or, or_true, and_self, or_false, false_or, Bool.false_eq_true, x_var, x_int, x_str, x_bl, x_non, x_bin, x_and, x_or, x_andN, x_orN, x_andC, x_orC, x_not, x_neg, x_ite, x_lst, x_tup, x_nil, x_cons, x_call, x_bi, x_slc, x_isi, x_oN, x_sNil, x_sCons, x_set, x_sIte, x_ret, x_retN, x_brk, x_cnt, x_pass, x_doc, j_bin, j_un, j_seq, j_seqR, j_seqB, j_seqC, j_iteT, j_iteF, j_iteCT, j_iteCF, j_andT, j_andF, j_orT, j_orF, j_bl, j_cons, j_bi, j_asB, j_stV, j_stO, j_ret, retE, j_sl, o_add, o_sub, o_mulL, o_mulR, o_div, o_mod, o_pow, o_lt, o_le, o_gt, o_ge, o_eq, o_ne, o_isB, b_int, b_intB, b_lenL, b_lenT, b_max, b_min, b_tupL, b_tupT, b_lstL, b_lstT, b_abs, Option.bind_some, Option.map_some, Option.bind_none, Option.map_none, x_lock, x_frz, x_for, x_mth, x_unp, x_setIx, x_comp, x_it, x_rng, x_enm, x_zip, j_lockV, j_lockB, j_lockO, j_frzO, j_frzV, j_frzB, j_own, j_itL, j_itT, j_enmL, j_enmT, safeI, safeS, t_nm, t_tup, t_tupL, t_nil, t_cons, f_nil, f_one, v_val, v_own, argM, j_lst2, j_tup2, vls_nil, vls_val, vls_own, lstO_s, tupO_s, turn_nx, turn_cnt, fin_r, fin_n, rowI_len, row_len, o_iL, o_iT, o_rL, o_t0, o_t1, o_l0, o_l1, o_l2, r_n, s_from, s_fromI, s_to, s_toI, x_oI, x_oB, x_oV, opt_int, o_addI, o_addR, o_in2, Int.toNat_natCast, Int.reduceToNat, Int.reduceEq, Int.reduceLT, Int.reduceLE, Int.reduceAdd, Int.reduceSub, Int.reduceMul, Int.reduceNeg, decide_true, decide_false, eq_self, Bool.true_or, Bool.or_true, Bool.or_false, Bool.false_or, Bool.not_true, Bool.not_false, sq_it, Int.cast_ofNat_Int]) (by omega)
theorem c23_5 (hn : n ≤ 3000) : compO (some (row n fun i => encR true w (h i))) (cmpF cf gl [19] (.nm 19) .nil e23_5 [s0, s1, s2, some (.val, .int N), s4, s5, s6, s7, s8, s9, s10, s11, s12, s13, s14, s15, s16, s17, s18, s19]) = some (.own, .lst (rowI n fun _ => N)) :=
  compI (fun i hi => by simp -implicitDefEqProofs (disch := omega) only [cmpF, wipeE, e23_5, runF, List.length_cons, List.length_nil, List.map_cons, List.map_nil, List.cons_append, List.nil_append, List.append_nil, List.replicate_succ, List.replicate_zero, Nat.reduceAdd, Nat.reduceSub, Nat.zero_add, Nat.reduceLT, Nat.reduceLeDiff, List.getElem?_cons_zero, List.getElem?_cons_succ, List.set_cons_zero, List.set_cons_succ, rdV, D.isMut, if_true, if_false, ite_true, ite_false, reduceCtorEq, true_or, or_true, and_self, or_false, false_or, Bool.false_eq_true, x_var, x_int, x_str, x_bl, x_non, x_bin, x_and, x_or, x_andN, x_orN, x_andC, x_orC, x_not, x_neg, x_ite, x_lst, x_tup, x_nil, x_cons, x_call, x_bi, x_slc, x_isi, x_oN, x_sNil, x_sCons, x_set, x_sIte, x_ret, x_retN, x_brk, x_cnt, x_pass, x_doc, j_bin, j_un, j_seq, j_seqR, j_seqB, j_seqC, j_iteT, j_iteF, j_iteCT, j_iteCF, j_andT, j_andF, j_orT, j_orF, j_bl, j_cons, j_bi, j_asB, j_stV, j_stO, j_ret, retE, j_sl, o_add, o_sub, o_mulL, o_mulR, o_div, o_mod, o_pow, o_lt, o_le, o_gt, o_ge, o_eq, o_ne, o_isB, b_int, b_intB, b_lenL, b_lenT, b_max, b_min, b_tupL, b_tupT, b_lstL, b_lstT, b_abs, Option.bind_some, Option.map_some, Option.bind_none, Option.map_none, x_lock, x_frz, x_for, x_mth, x_unp, x_setIx, x_comp, x_it, x_rng, x_enm, x_zip, j_lockV, j_lockB, j_lockO, j_frzO, j_frzV, j_frzB, j_own, j_itL, j_itT, j_enmL, j_enmT, safeI, safeS, t_nm, t_tup, t_tupL, t_nil, t_cons, f_nil, f_one, v_val, v_own, argM, j_lst2, j_tup2, vls_nil, vls_val, vls_own, lstO_s, tupO_s, turn_nx, turn_cnt, fin_r, fin_n, rowI_len, row_len, o_iL, o_iT, o_rL, o_t0, o_t1, o_l0, o_l1, o_l2, r_n, s_from, s_fromI, s_to, s_toI, x_oI, x_oB, x_oV, opt_int, o_addI, o_addR, o_in2, Int.toNat_natCast, Int.reduceToNat, Int.reduceEq, Int.reduceLT, Int.reduceLE, Int.reduceAdd, Int.reduceSub, Int.reduceMul, Int.reduceNeg, decide_true, decide_false, eq_self, Bool.true_or, Bool.or_true, Bool.or_false, Bool.false_or, Bool.not_true, Bool.not_false, sq_it, Int.cast_ofNat_Int]) (by omega)
theorem law_B (hc : Cell cf) (hd : Digits cf) (h8 : Rows8 cf) (hf : ∀ i, i < 10 → 0 ≤ f i ∧ f i < szA.getD i 0) (n1 : 0 < N) (n2 : N ≤ 120) (hm : m ≤ 24) (hw : w ≤ 40) (h3 : f 3 = 0 → 0 < m) :
    ∃ (cl : Nat → Int) (n : Nat) (h : Nat → Rw), n ≤ 3000 ∧ (∀ i, i < n → okR w (h i)) ∧ evS cf gl fu (S.takeS 5 (S.dropS 8 b23)) [some (.bor, .lst (ns.map D.int)), some (.own, .lst (rowI 10 f)), some (.own, .lst l), some (.val, .int N), some (.val, .int (m : Int)), some (.val, .int (w : Int)), none, none, none, none, none, none, none, none, none, none, none, none, none, none] =
      some (.nx [some (.bor, .lst (ns.map D.int)), some (.own, .lst (rowI 10 f)), some (.own, .lst l), some (.val, .int N), some (.val, .int (m : Int)), some (.val, .int (w : Int)), some (.val, .lst (rowI w cl)), some (.val, .lst (row n fun i => encR true w (h i))), none, none, none, none, none, none, none, none, none, none, none, none]) := by
  obtain ⟨v2, c2⟩ := hc ns 2 (by omega)
  have c2 := j_call (cs := [(.bor, .lst (ns.map D.int)), (.val, .int 2)]) c2 (.inl rfl)
  obtain ⟨cl, _, d2⟩ := hd v2 w (fun _ => if f 6 < 2 then 6 else 100000) .val (.inl rfl) (fun i hi => by split <;> exact ⟨by omega, by omega⟩) (by omega)
  have d2 := j_call (cs := [(.val, .int v2), (.own, .lst (rowI w fun _ => if f 6 < 2 then 6 else 100000))]) d2 (.inr rfl)
  obtain ⟨cs, hcs⟩ := choose_row (n := m) (P := fun i v => callO (cf 3) (some [(.bor, .lst (ns.map D.int)), (.val, .int (5 + (i : Int)))]) = some (.val, .int v)) fun i _ => by
    obtain ⟨v, hv⟩ := hc ns (5 + (i : Int)) (by omega)
    exact ⟨v, j_call (cs := [(.bor, .lst (ns.map D.int)), (.val, .int (5 + (i : Int)))]) hv (.inl rfl)⟩
  obtain ⟨h, hok, e8⟩ := h8 w m N cs cl hw (by omega) n1 n2
  have e8 := j_call (cs := [(.own, .lst (rowI m cs)), (.val, .int N), (.val, .int (w : Int)), (.val, .lst (rowI w cl))]) e8 (.inl rfl)
  by_cases q : f 3 = 0
  · have f8 : 0 ≤ f 8 ∧ f 8 < 4 := hf 8 (by omega)
    have f9 : 0 ≤ f 9 ∧ f 9 < 2501 := hf 9 (by omega)
    have hK := szK_b (p := f 9) (by omega) (f 8).toNat
    have hm0 := h3 q
    generalize eK : (szK (f 9)).getD (f 8).toNat 0 = K at *
    have rK : ∀ m, rngO (some [(m, .int K)]) = some (rowI K.toNat fun i => (i : Int)) := fun m => r_1 (by omega)
    refine ⟨cl, K.toNat, fun i => h ((i : Int) % (m : Int)).toNat, by omega, fun i hi => hok _ ?_, ?_⟩
    · have a := And.intro (Int.emod_nonneg (i : Int) (show (m : Int) ≠ 0 by omega)) (Int.emod_lt_of_pos (i : Int) (show (0 : Int) < m by omega))
      omega
    · simp -implicitDefEqProofs (disch := omega) only [b23, S.takeS, S.dropS, runF, List.length_cons, List.length_nil, List.map_cons, List.map_nil, List.cons_append, List.nil_append, List.append_nil, List.replicate_succ, List.replicate_zero, Nat.reduceAdd, Nat.reduceSub, Nat.zero_add, Nat.reduceLT, Nat.reduceLeDiff, List.getElem?_cons_zero, List.getElem?_cons_succ, List.set_cons_zero, List.set_cons_succ, rdV, D.isMut, if_true, if_false, ite_true, ite_false, reduceCtorEq, true_or, or_true, and_self, or_false, false_or, Bool.false_eq_true, x_var, x_int, x_str, x_bl, x_non, x_bin, x_and, x_or, x_andN, x_orN, x_andC, x_orC, x_not, x_neg, x_ite, x_lst, x_tup, x_nil, x_cons, x_call, x_bi, x_slc, x_isi, x_oN, x_sNil, x_sCons, x_set, x_sIte, x_ret, x_retN, x_brk, x_cnt, x_pass, x_doc, j_bin, j_un, j_seq, j_seqR, j_seqB, j_seqC, j_iteT, j_iteF, j_iteCT, j_iteCF, j_andT, j_andF, j_orT, j_orF, j_bl, j_cons, j_bi, j_asB, j_stV, j_stO, j_ret, retE, j_sl, o_add, o_sub, o_mulL, o_mulR, o_div, o_mod, o_pow, o_lt, o_le, o_gt, o_ge, o_eq, o_ne, o_isB, b_int, b_intB, b_lenL, b_lenT, b_max, b_min, b_tupL, b_tupT, b_lstL, b_lstT, b_abs, Option.bind_some, Option.map_some, Option.bind_none, Option.map_none, x_lock, x_frz, x_for, x_mth, x_unp, x_setIx, x_comp, x_it, x_rng, x_enm, x_zip, j_lockV, j_lockB, j_lockO, j_frzO, j_frzV, j_frzB, j_own, j_itL, j_itT, j_enmL, j_enmT, safeI, safeS, t_nm, t_tup, t_tupL, t_nil, t_cons, f_nil, f_one, v_val, v_own, argM, j_lst2, j_tup2, vls_nil, vls_val, vls_own, lstO_s, tupO_s, turn_nx, turn_cnt, fin_r, fin_n, rowI_len, row_len, o_iL, o_iT, o_rL, o_t0, o_t1, o_l0, o_l1, o_l2, r_n, s_from, s_fromI, s_to, s_toI, x_oI, x_oB, x_oV, opt_int, o_addI, o_addR, o_in2, Int.toNat_natCast, Int.reduceToNat, Int.reduceEq, Int.reduceLT, Int.reduceLE, Int.reduceAdd, Int.reduceSub, Int.reduceMul, Int.reduceNeg, decide_true, decide_false, eq_self, Bool.true_or, Bool.or_true, Bool.or_false, Bool.false_or, Bool.not_true, Bool.not_false, sq_it, Int.cast_ofNat_Int, q, c2, c23_1 hw, d2, c23_2 hm hcs, e8, lK, eK, rK, c23_3 hm0 (show K.toNat ≤ 3000 by omega)]
  · refine ⟨cl, m, h, by omega, hok, ?_⟩
    simp -implicitDefEqProofs (disch := omega) only [b23, S.takeS, S.dropS, runF, List.length_cons, List.length_nil, List.map_cons, List.map_nil, List.cons_append, List.nil_append, List.append_nil, List.replicate_succ, List.replicate_zero, Nat.reduceAdd, Nat.reduceSub, Nat.zero_add, Nat.reduceLT, Nat.reduceLeDiff, List.getElem?_cons_zero, List.getElem?_cons_succ, List.set_cons_zero, List.set_cons_succ, rdV, D.isMut, if_true, if_false, ite_true, ite_false, reduceCtorEq, true_or, or_true, and_self, or_false, false_or, Bool.false_eq_true, x_var, x_int, x_str, x_bl, x_non, x_bin, x_and, x_or, x_andN, x_orN, x_andC, x_orC, x_not, x_neg, x_ite, x_lst, x_tup, x_nil, x_cons, x_call, x_bi, x_slc, x_isi, x_oN, x_sNil, x_sCons, x_set, x_sIte, x_ret, x_retN, x_brk, x_cnt, x_pass, x_doc, j_bin, j_un, j_seq, j_seqR, j_seqB, j_seqC, j_iteT, j_iteF, j_iteCT, j_iteCF, j_andT, j_andF, j_orT, j_orF, j_bl, j_cons, j_bi, j_asB, j_stV, j_stO, j_ret, retE, j_sl, o_add, o_sub, o_mulL, o_mulR, o_div, o_mod, o_pow, o_lt, o_le, o_gt, o_ge, o_eq, o_ne, o_isB, b_int, b_intB, b_lenL, b_lenT, b_max, b_min, b_tupL, b_tupT, b_lstL, b_lstT, b_abs, Option.bind_some, Option.map_some, Option.bind_none, Option.map_none, x_lock, x_frz, x_for, x_mth, x_unp, x_setIx, x_comp, x_it, x_rng, x_enm, x_zip, j_lockV, j_lockB, j_lockO, j_frzO, j_frzV, j_frzB, j_own, j_itL, j_itT, j_enmL, j_enmT, safeI, safeS, t_nm, t_tup, t_tupL, t_nil, t_cons, f_nil, f_one, v_val, v_own, argM, j_lst2, j_tup2, vls_nil, vls_val, vls_own, lstO_s, tupO_s, turn_nx, turn_cnt, fin_r, fin_n, rowI_len, row_len, o_iL, o_iT, o_rL, o_t0, o_t1, o_l0, o_l1, o_l2, r_n, s_from, s_fromI, s_to, s_toI, x_oI, x_oB, x_oV, opt_int, o_addI, o_addR, o_in2, Int.toNat_natCast, Int.reduceToNat, Int.reduceEq, Int.reduceLT, Int.reduceLE, Int.reduceAdd, Int.reduceSub, Int.reduceMul, Int.reduceNeg, decide_true, decide_false, eq_self, Bool.true_or, Bool.or_true, Bool.or_false, Bool.false_or, Bool.not_true, Bool.not_false, sq_it, Int.cast_ofNat_Int, q, c2, c23_1 hw, d2, c23_2 hm hcs, e8]
theorem law_C (hc : Cell cf) (hd : Digits cf) (h10 : Slvd10 cf) (h18 : Shft18 cf) (hf : ∀ i, i < 10 → 0 ≤ f i ∧ f i < szA.getD i 0) (n1 : 0 < N) (n2 : N ≤ 120) (hn : n ≤ 3000) (hw : w ≤ 40) (hok : ∀ i, i < n → okR w (h i)) {e6 : Option My.C} :
    ∃ (x y g x' : Nat → Int) (v p : Int) (h' : Nat → Rw), (∀ i, i < 10 → 0 ≤ g i ∧ g i < szR.getD i 0) ∧ 0 ≤ v ∧ v < 4 ∧ 0 < p ∧ p < 4 ∧ (∀ i, i < n → okR w (h' i)) ∧
    evS cf gl fu (S.takeS 13 (S.dropS 13 b23)) [some (.bor, .lst (ns.map D.int)), some (.own, .lst (rowI 10 f)), some (.own, .lst l), some (.val, .int N), some (.val, .int (m : Int)), some (.val, .int (w : Int)), e6, some (.val, .lst (row n fun i => encR true w (h i))), none, none, none, none, none, none, none, none, none, none, none, none] =
      some (.nx [some (.bor, .lst (ns.map D.int)), some (.own, .lst (rowI 10 f)), some (.own, .lst l), some (.val, .int N), some (.val, .int (m : Int)), some (.val, .int (w : Int)), e6, some (.val, .lst (row n fun i => encR true w (h i))), some (.val, .lst (rowI w x)), some (.val, .lst (rowI n y)), some (.own, .lst (rowI 10 g)), some (.val, .int v), some (.val, .int p),
        some (.val, .lst (row n fun i => encR true w (h' i))), some (.val, .lst (rowI w x')), none, none, none, none, none]) := by
  obtain ⟨v1, c1⟩ := hc ns 1 (by omega)
  obtain ⟨v3, c3⟩ := hc ns 3 (by omega)
  obtain ⟨v4, c4⟩ := hc ns 4 (by omega)
  have c1 := j_call (cs := [(.bor, .lst (ns.map D.int)), (.val, .int 1)]) c1 (.inl rfl)
  have c3 := j_call (cs := [(.bor, .lst (ns.map D.int)), (.val, .int 3)]) c3 (.inl rfl)
  have c4 := j_call (cs := [(.bor, .lst (ns.map D.int)), (.val, .int 4)]) c4 (.inl rfl)
  obtain ⟨x, _, d1⟩ := hd v1 w (fun _ => N) .val (.inl rfl) (fun i hi => ⟨by omega, by omega⟩) (by omega)
  have d1 := j_call (cs := [(.val, .int v1), (.own, .lst (rowI w fun _ => N))]) d1 (.inr rfl)
  obtain ⟨y, _, d3⟩ := hd v3 n (fun _ => N) .val (.inl rfl) (fun i hi => ⟨by omega, by omega⟩) (by omega)
  have d3 := j_call (cs := [(.val, .int v3), (.own, .lst (rowI n fun _ => N))]) d3 (.inr rfl)
  obtain ⟨g, hg, d4⟩ := hd v4 10 (fun i => szR.getD i 0) .val (.inl rfl) (by decide) (by omega)
  have d4 := j_call (cs := [(.val, .int v4), (.own, .lst (rowI 10 fun i => szR.getD i 0))]) d4 (.inr rfl)
  obtain ⟨h', hok', e10⟩ := h10 w n N h x hw hn n1 n2 hok
  have e10 := j_call (cs := [(.val, .lst (row n fun i => encR true w (h i))), (.val, .int N), (.val, .lst (rowI w x))]) e10 (.inr rfl)
  obtain ⟨x', e18⟩ := h18 w N v1 x (by omega) n1 (by omega)
  have e18 := j_call (cs := [(.val, .lst (rowI w x)), (.val, .int N), (.val, .int v1)]) e18 (.inr rfl)
  have f7 : 0 ≤ f 7 ∧ f 7 < 4 := hf 7 (by omega)
  by_cases q : f 3 = 0
  · exact ⟨x, y, g, x', f 7, 3, h', hg, f7.1, f7.2, by omega, by omega, hok', by
      simp -implicitDefEqProofs (disch := omega) only [b23, S.takeS, S.dropS, runF, List.length_cons, List.length_nil, List.map_cons, List.map_nil, List.cons_append, List.nil_append, List.append_nil, List.replicate_succ, List.replicate_zero, Nat.reduceAdd, Nat.reduceSub, Nat.zero_add, Nat.reduceLT, Nat.reduceLeDiff, List.getElem?_cons_zero, List.getElem?_cons_succ, List.set_cons_zero, List.set_cons_succ, rdV, D.isMut, if_true, if_false, ite_true, ite_false, reduceCtorEq, true_or, or_true, and_self, or_false, false_or, Bool.false_eq_true, x_var, x_int, x_str, x_bl, x_non, x_bin, x_and, x_or, x_andN, x_orN, x_andC, x_orC, x_not, x_neg, x_ite, x_lst, x_tup, x_nil, x_cons, x_call, x_bi, x_slc, x_isi, x_oN, x_sNil, x_sCons, x_set, x_sIte, x_ret, x_retN, x_brk, x_cnt, x_pass, x_doc, j_bin, j_un, j_seq, j_seqR, j_seqB, j_seqC, j_iteT, j_iteF, j_iteCT, j_iteCF, j_andT, j_andF, j_orT, j_orF, j_bl, j_cons, j_bi, j_asB, j_stV, j_stO, j_ret, retE, j_sl, o_add, o_sub, o_mulL, o_mulR, o_div, o_mod, o_pow, o_lt, o_le, o_gt, o_ge, o_eq, o_ne, o_isB, b_int, b_intB, b_lenL, b_lenT, b_max, b_min, b_tupL, b_tupT, b_lstL, b_lstT, b_abs, Option.bind_some, Option.map_some, Option.bind_none, Option.map_none, x_lock, x_frz, x_for, x_mth, x_unp, x_setIx, x_comp, x_it, x_rng, x_enm, x_zip, j_lockV, j_lockB, j_lockO, j_frzO, j_frzV, j_frzB, j_own, j_itL, j_itT, j_enmL, j_enmT, safeI, safeS, t_nm, t_tup, t_tupL, t_nil, t_cons, f_nil, f_one, v_val, v_own, argM, j_lst2, j_tup2, vls_nil, vls_val, vls_own, lstO_s, tupO_s, turn_nx, turn_cnt, fin_r, fin_n, rowI_len, row_len, o_iL, o_iT, o_rL, o_t0, o_t1, o_l0, o_l1, o_l2, r_n, s_from, s_fromI, s_to, s_toI, x_oI, x_oB, x_oV, opt_int, o_addI, o_addR, o_in2, Int.toNat_natCast, Int.reduceToNat, Int.reduceEq, Int.reduceLT, Int.reduceLE, Int.reduceAdd, Int.reduceSub, Int.reduceMul, Int.reduceNeg, decide_true, decide_false, eq_self, Bool.true_or, Bool.or_true, Bool.or_false, Bool.false_or, Bool.not_true, Bool.not_false, sq_it, Int.cast_ofNat_Int, q, c1, c3, c4, d1, d3, d4, e10, e18, c23_4 hw, c23_5 hn, lR]⟩
  · exact ⟨x, y, g, x', f 7, 1, h', hg, f7.1, f7.2, by omega, by omega, hok', by
      simp -implicitDefEqProofs (disch := omega) only [b23, S.takeS, S.dropS, runF, List.length_cons, List.length_nil, List.map_cons, List.map_nil, List.cons_append, List.nil_append, List.append_nil, List.replicate_succ, List.replicate_zero, Nat.reduceAdd, Nat.reduceSub, Nat.zero_add, Nat.reduceLT, Nat.reduceLeDiff, List.getElem?_cons_zero, List.getElem?_cons_succ, List.set_cons_zero, List.set_cons_succ, rdV, D.isMut, if_true, if_false, ite_true, ite_false, reduceCtorEq, true_or, or_true, and_self, or_false, false_or, Bool.false_eq_true, x_var, x_int, x_str, x_bl, x_non, x_bin, x_and, x_or, x_andN, x_orN, x_andC, x_orC, x_not, x_neg, x_ite, x_lst, x_tup, x_nil, x_cons, x_call, x_bi, x_slc, x_isi, x_oN, x_sNil, x_sCons, x_set, x_sIte, x_ret, x_retN, x_brk, x_cnt, x_pass, x_doc, j_bin, j_un, j_seq, j_seqR, j_seqB, j_seqC, j_iteT, j_iteF, j_iteCT, j_iteCF, j_andT, j_andF, j_orT, j_orF, j_bl, j_cons, j_bi, j_asB, j_stV, j_stO, j_ret, retE, j_sl, o_add, o_sub, o_mulL, o_mulR, o_div, o_mod, o_pow, o_lt, o_le, o_gt, o_ge, o_eq, o_ne, o_isB, b_int, b_intB, b_lenL, b_lenT, b_max, b_min, b_tupL, b_tupT, b_lstL, b_lstT, b_abs, Option.bind_some, Option.map_some, Option.bind_none, Option.map_none, x_lock, x_frz, x_for, x_mth, x_unp, x_setIx, x_comp, x_it, x_rng, x_enm, x_zip, j_lockV, j_lockB, j_lockO, j_frzO, j_frzV, j_frzB, j_own, j_itL, j_itT, j_enmL, j_enmT, safeI, safeS, t_nm, t_tup, t_tupL, t_nil, t_cons, f_nil, f_one, v_val, v_own, argM, j_lst2, j_tup2, vls_nil, vls_val, vls_own, lstO_s, tupO_s, turn_nx, turn_cnt, fin_r, fin_n, rowI_len, row_len, o_iL, o_iT, o_rL, o_t0, o_t1, o_l0, o_l1, o_l2, r_n, s_from, s_fromI, s_to, s_toI, x_oI, x_oB, x_oV, opt_int, o_addI, o_addR, o_in2, Int.toNat_natCast, Int.reduceToNat, Int.reduceEq, Int.reduceLT, Int.reduceLE, Int.reduceAdd, Int.reduceSub, Int.reduceMul, Int.reduceNeg, decide_true, decide_false, eq_self, Bool.true_or, Bool.or_true, Bool.or_false, Bool.false_or, Bool.not_true, Bool.not_false, sq_it, Int.cast_ofNat_Int, q, c1, c3, c4, d1, d3, d4, e10, e18, c23_4 hw, c23_5 hn, lR]⟩
end
end My
end

section
set_option Elab.async false
set_option linter.all false
set_option maxRecDepth 100000
set_option maxHeartbeats 4000000
namespace My
open PySem
theorem szR_5 : ∀ i, i < 5 → szR.getD i 0 ≤ 20001 ∧ szR.getD (5 + i) 0 ≤ 20001 := by decide
section
variable {cf : CF} {gl : Nat → Option D} {fu : Nat} {ns : List Int} {N v p : Int} {n m w k : Nat} {f g x y x' : Nat → Int} {h h' : Nat → Rw} {l : List D} {e6 : Option My.C}
theorem law_D (hc : Cell cf) (h1 : Sol1 cf) (h2 : Wei2 cf) (h14 : Brd14 cf) (h18 : Shft18 cf) (h19 : Sol19 cf) (h20 : Wei20 cf) (h21 : Ask21 cf) (h22 : Ask22 cf) (hg : ∀ i, i < 10 → 0 ≤ g i ∧ g i < szR.getD i 0) (n1 : 0 < N) (n2 : N ≤ 120) (hn : n ≤ 3000) (hw : w ≤ 40)
    (v0 : 0 ≤ v) (v1 : v < 4) (p0 : 0 < p) (p1 : p < 4) (hok : ∀ i, i < n → okR w (h i)) (hok' : ∀ i, i < n → okR w (h' i)) :
    evS cf gl fu (S.dropS 26 b23) [some (.bor, .lst (ns.map D.int)), some (.own, .lst (rowI 10 f)), some (.own, .lst l), some (.val, .int N), some (.val, .int (m : Int)), some (.val, .int (w : Int)), e6, some (.val, .lst (row n fun i => encR true w (h i))), some (.val, .lst (rowI w x)), some (.val, .lst (rowI n y)), some (.own, .lst (rowI 10 g)), some (.val, .int v), some (.val, .int p),
        some (.val, .lst (row n fun i => encR true w (h' i))), some (.val, .lst (rowI w x')), none, none, none, none, none] = some (.ret (.val, .bl true)) := by
  have a1 : callO (cf 1) (some [(.own, .lst []), (.val, .int N), (.own, .lst (rowI w x))]) = some (.val, .bl true) := by
    have z := h1 false true false 0 w (fun _ => (fun _ => 0, 0)) x N n1 (by omega) hw fun i hi => absurd hi (Nat.not_lt_zero i)
    have e : solB 0 w (fun _ => (fun _ => 0, 0)) x N = true := decide_eq_true fun i hi => absurd hi (Nat.not_lt_zero i)
    rw [e] at z
    exact j_call (cs := [(.own, .lst []), (.val, .int N), (.own, .lst (rowI w x))]) z (.inl rfl)
  have a2 : callO (cf 2) (some [(.own, .lst []), (.val, .int N), (.own, .lst [])]) = some (.val, .bl false) := by
    have z := h2 false true false 0 0 (fun _ => (fun _ => 0, 0)) x N n1 (by omega) (by omega) fun i hi => absurd hi (Nat.not_lt_zero i)
    have e : barsB 0 0 (fun i j => (0 : Int)) (fun i => (0 : Int)) x N = false := by
      unfold barsB
      rw [sm, Int.zero_emod]
      simp
    have z2 : cf 2 [(.val, .lst []), (.val, .int N), (.val, .lst [])] = some (.val, .bl (barsB 0 0 (fun i j => (0 : Int)) (fun i => (0 : Int)) x N)) := z
    rw [e] at z2
    exact j_call (cs := [(.own, .lst []), (.val, .int N), (.own, .lst [])]) z2 (.inl rfl)
  have b1 := j_call (cs := [(.val, .lst (row n fun i => encR true w (h i))), (.val, .int N), (.val, .lst (rowI w x)), (.val, .int v)]) (h19 n w h x N v hw hn n1 v0 hok) (.inl rfl)
  have b2 := j_call (cs := [(.val, .lst (row n fun i => encR true w (h i))), (.val, .int N), (.val, .int (w : Int)), (.val, .lst (rowI n y)), (.val, .int v)]) (h20 n w h y N v hw hn n1 v0 hok) (.inl rfl)
  have b3 := j_call (cs := [(.val, .lst (row n fun i => encR true w (h' i))), (.val, .int N), (.val, .int (w : Int)), (.val, .lst (rowI n y)), (.val, .int v)]) (h20 n w h' y N v hw hn n1 v0 hok') (.inl rfl)
  have b4 := j_call (cs := [(.val, .lst (row n fun i => encR true w (h' i))), (.val, .int N), (.val, .lst (rowI w x')), (.val, .int (3 - v))]) (h19 n w h' x' N (3 - v) hw hn n1 (by omega) hok') (.inl rfl)
  by_cases hz : (0 : Int) < (n : Int)
  · have g5 : ∀ i, i < 5 → 0 ≤ g i ∧ g i < 20001 := fun i hi => by
      have a := hg i (by omega)
      have b := szR_5 i hi
      exact ⟨by omega, by omega⟩
    have g6 : ∀ i, i < 5 → 0 ≤ g (5 + i) ∧ g (5 + i) < 20001 := fun i hi => by
      have a := hg (5 + i) (by omega)
      have b := szR_5 i hi
      exact ⟨by omega, by omega⟩
    have g3 : 0 ≤ g 3 ∧ g 3 < 80 := hg 3 (by omega)
    have g8 : 0 ≤ g 8 ∧ g 8 < 80 := hg 8 (by omega)
    have b5 := j_call (cs := [(.val, .lst (row n fun i => encR true w (h' i))), (.val, .int N), (.val, .int (w : Int)), (.val, .lst (rowI w x')), (.own, .lst (rowI 5 g)), (.val, .int v), (.val, .int p)]) (h21 w n N v p h' x' g hw (by omega) hn n1 n2 v0 (by omega) p0 (by omega) g5 g3.2 hok') (.inl rfl)
    by_cases hN : 1 < N
    · obtain ⟨v3, c3⟩ := hc ns 3 (by omega)
      have c3 := j_call (cs := [(.bor, .lst (ns.map D.int)), (.val, .int 3)]) c3 (.inl rfl)
      obtain ⟨v4, c4⟩ := hc ns 4 (by omega)
      have c4 := j_call (cs := [(.bor, .lst (ns.map D.int)), (.val, .int 4)]) c4 (.inl rfl)
      have go : ∀ hh : Nat → Rw, (∀ i, i < n → okR w (hh i)) → ((2 < f 6 ∧ hh = h') ∨ (¬ 2 < f 6 ∧ hh = h)) → evS cf gl fu (S.dropS 26 b23) [some (.bor, .lst (ns.map D.int)), some (.own, .lst (rowI 10 f)), some (.own, .lst l), some (.val, .int N), some (.val, .int (m : Int)), some (.val, .int (w : Int)), e6, some (.val, .lst (row n fun i => encR true w (h i))), some (.val, .lst (rowI w x)), some (.val, .lst (rowI n y)), some (.own, .lst (rowI 10 g)), some (.val, .int v), some (.val, .int p),
        some (.val, .lst (row n fun i => encR true w (h' i))), some (.val, .lst (rowI w x')), none, none, none, none, none] = some (.ret (.val, .bl true)) := by
        intro hh okh hq
        obtain ⟨hb, yb, a, okb, han, e14⟩ := h14 w n N v3 hh hw (by omega) hn (by omega) n2 okh
        have e14 := j_call (cs := [(.val, .lst (row n fun i => encR true w (hh i))), (.val, .int N), (.val, .int (w : Int)), (.val, .int v3)]) e14 (.inr rfl)
        obtain ⟨yw, e18⟩ := h18 n N v4 yb (by omega) n1 (by omega)
        have e18 := j_call (cs := [(.val, .lst (rowI n yb)), (.val, .int N), (.val, .int v4)]) e18 (.inr rfl)
        have b6 := j_call (cs := [(.val, .lst (row n fun i => encR true w (hb i))), (.val, .int N), (.val, .lst (rowI w x)), (.val, .int (3 - v))]) (h19 n w hb x N (3 - v) hw hn n1 (by omega) okb) (.inl rfl)
        have b7 := j_call (cs := [(.val, .lst (row n fun i => encR true w (hb i))), (.val, .int N), (.val, .int (w : Int)), (.val, .lst (rowI n yb)), (.val, .int v)]) (h20 n w hb yb N v hw hn n1 v0 okb) (.inl rfl)
        have b8 := j_call (cs := [(.val, .lst [.lst (row n fun i => encR true w (hb i)), .lst (rowI n yb), .int (a : Int)]), (.val, .int N), (.val, .int (w : Int)), (.val, .lst (rowI n yw)), (.own, .lst (rowI 5 fun i => g (5 + i))), (.val, .int v), (.val, .int p)])
          (h22 w n a N v p hb yb yw (fun i => g (5 + i)) hw (by omega) hn n1 n2 v0 (by omega) p0 (by omega) g6 g8.2 han okb) (.inl rfl)
        rcases hq with ⟨q, rfl⟩ | ⟨q, rfl⟩
        · simp -implicitDefEqProofs (disch := omega) only [b23, S.dropS, runF, List.length_cons, List.length_nil, List.map_cons, List.map_nil, List.cons_append, List.nil_append, List.append_nil, List.replicate_succ, List.replicate_zero, Nat.reduceAdd, Nat.reduceSub, Nat.zero_add, Nat.reduceLT, Nat.reduceLeDiff, List.getElem?_cons_zero, List.getElem?_cons_succ, List.set_cons_zero, List.set_cons_succ, rdV, D.isMut, if_true, if_false, ite_true, ite_false, reduceCtorEq, true_or, or_true, and_self, or_false, false_or, Bool.false_eq_true, x_var, x_int, x_str, x_bl, x_non, x_bin, x_and, x_or, x_andN, x_orN, x_andC, x_orC, x_not, x_neg, x_ite, x_lst, x_tup, x_nil, x_cons, x_call, x_bi, x_slc, x_isi, x_oN, x_sNil, x_sCons, x_set, x_sIte, x_ret, x_retN, x_brk, x_cnt, x_pass, x_doc, j_bin, j_un, j_seq, j_seqR, j_seqB, j_seqC, j_iteT, j_iteF, j_iteCT, j_iteCF, j_andT, j_andF, j_orT, j_orF, j_bl, j_cons, j_bi, j_asB, j_stV, j_stO, j_ret, retE, j_sl, o_add, o_sub, o_mulL, o_mulR, o_div, o_mod, o_pow, o_lt, o_le, o_gt, o_ge, o_eq, o_ne, o_isB, b_int, b_intB, b_lenL, b_lenT, b_max, b_min, b_tupL, b_tupT, b_lstL, b_lstT, b_abs, Option.bind_some, Option.map_some, Option.bind_none, Option.map_none, x_lock, x_frz, x_for, x_mth, x_unp, x_setIx, x_comp, x_it, x_rng, x_enm, x_zip, j_lockV, j_lockB, j_lockO, j_frzO, j_frzV, j_frzB, j_own, j_itL, j_itT, j_enmL, j_enmT, safeI, safeS, t_nm, t_tup, t_tupL, t_nil, t_cons, f_nil, f_one, v_val, v_own, argM, j_lst2, j_tup2, vls_nil, vls_val, vls_own, lstO_s, tupO_s, turn_nx, turn_cnt, fin_r, fin_n, rowI_len, row_len, o_iL, o_iT, o_rL, o_t0, o_t1, o_l0, o_l1, o_l2, r_n, s_from, s_fromI, s_to, s_toI, x_oI, x_oB, x_oV, opt_int, o_addI, o_addR, o_in2, Int.toNat_natCast, Int.reduceToNat, Int.reduceEq, Int.reduceLT, Int.reduceLE, Int.reduceAdd, Int.reduceSub, Int.reduceMul, Int.reduceNeg, decide_true, decide_false, eq_self, Bool.true_or, Bool.or_true, Bool.or_false, Bool.false_or, Bool.not_true, Bool.not_false, sq_it, Int.cast_ofNat_Int, hz, hN, q, a1, a2, b1, b2, b3, b4, b5, b6, b7, b8, c3, c4, e14, e18, beq_self_eq_true]
        · simp -implicitDefEqProofs (disch := omega) only [b23, S.dropS, runF, List.length_cons, List.length_nil, List.map_cons, List.map_nil, List.cons_append, List.nil_append, List.append_nil, List.replicate_succ, List.replicate_zero, Nat.reduceAdd, Nat.reduceSub, Nat.zero_add, Nat.reduceLT, Nat.reduceLeDiff, List.getElem?_cons_zero, List.getElem?_cons_succ, List.set_cons_zero, List.set_cons_succ, rdV, D.isMut, if_true, if_false, ite_true, ite_false, reduceCtorEq, true_or, or_true, and_self, or_false, false_or, Bool.false_eq_true, x_var, x_int, x_str, x_bl, x_non, x_bin, x_and, x_or, x_andN, x_orN, x_andC, x_orC, x_not, x_neg, x_ite, x_lst, x_tup, x_nil, x_cons, x_call, x_bi, x_slc, x_isi, x_oN, x_sNil, x_sCons, x_set, x_sIte, x_ret, x_retN, x_brk, x_cnt, x_pass, x_doc, j_bin, j_un, j_seq, j_seqR, j_seqB, j_seqC, j_iteT, j_iteF, j_iteCT, j_iteCF, j_andT, j_andF, j_orT, j_orF, j_bl, j_cons, j_bi, j_asB, j_stV, j_stO, j_ret, retE, j_sl, o_add, o_sub, o_mulL, o_mulR, o_div, o_mod, o_pow, o_lt, o_le, o_gt, o_ge, o_eq, o_ne, o_isB, b_int, b_intB, b_lenL, b_lenT, b_max, b_min, b_tupL, b_tupT, b_lstL, b_lstT, b_abs, Option.bind_some, Option.map_some, Option.bind_none, Option.map_none, x_lock, x_frz, x_for, x_mth, x_unp, x_setIx, x_comp, x_it, x_rng, x_enm, x_zip, j_lockV, j_lockB, j_lockO, j_frzO, j_frzV, j_frzB, j_own, j_itL, j_itT, j_enmL, j_enmT, safeI, safeS, t_nm, t_tup, t_tupL, t_nil, t_cons, f_nil, f_one, v_val, v_own, argM, j_lst2, j_tup2, vls_nil, vls_val, vls_own, lstO_s, tupO_s, turn_nx, turn_cnt, fin_r, fin_n, rowI_len, row_len, o_iL, o_iT, o_rL, o_t0, o_t1, o_l0, o_l1, o_l2, r_n, s_from, s_fromI, s_to, s_toI, x_oI, x_oB, x_oV, opt_int, o_addI, o_addR, o_in2, Int.toNat_natCast, Int.reduceToNat, Int.reduceEq, Int.reduceLT, Int.reduceLE, Int.reduceAdd, Int.reduceSub, Int.reduceMul, Int.reduceNeg, decide_true, decide_false, eq_self, Bool.true_or, Bool.or_true, Bool.or_false, Bool.false_or, Bool.not_true, Bool.not_false, sq_it, Int.cast_ofNat_Int, hz, hN, q, a1, a2, b1, b2, b3, b4, b5, b6, b7, b8, c3, c4, e14, e18, beq_self_eq_true]
      by_cases q : 2 < f 6
      · exact go h' hok' (.inl ⟨q, rfl⟩)
      · exact go h hok (.inr ⟨q, rfl⟩)
    · simp -implicitDefEqProofs (disch := omega) only [b23, S.dropS, runF, List.length_cons, List.length_nil, List.map_cons, List.map_nil, List.cons_append, List.nil_append, List.append_nil, List.replicate_succ, List.replicate_zero, Nat.reduceAdd, Nat.reduceSub, Nat.zero_add, Nat.reduceLT, Nat.reduceLeDiff, List.getElem?_cons_zero, List.getElem?_cons_succ, List.set_cons_zero, List.set_cons_succ, rdV, D.isMut, if_true, if_false, ite_true, ite_false, reduceCtorEq, true_or, or_true, and_self, or_false, false_or, Bool.false_eq_true, x_var, x_int, x_str, x_bl, x_non, x_bin, x_and, x_or, x_andN, x_orN, x_andC, x_orC, x_not, x_neg, x_ite, x_lst, x_tup, x_nil, x_cons, x_call, x_bi, x_slc, x_isi, x_oN, x_sNil, x_sCons, x_set, x_sIte, x_ret, x_retN, x_brk, x_cnt, x_pass, x_doc, j_bin, j_un, j_seq, j_seqR, j_seqB, j_seqC, j_iteT, j_iteF, j_iteCT, j_iteCF, j_andT, j_andF, j_orT, j_orF, j_bl, j_cons, j_bi, j_asB, j_stV, j_stO, j_ret, retE, j_sl, o_add, o_sub, o_mulL, o_mulR, o_div, o_mod, o_pow, o_lt, o_le, o_gt, o_ge, o_eq, o_ne, o_isB, b_int, b_intB, b_lenL, b_lenT, b_max, b_min, b_tupL, b_tupT, b_lstL, b_lstT, b_abs, Option.bind_some, Option.map_some, Option.bind_none, Option.map_none, x_lock, x_frz, x_for, x_mth, x_unp, x_setIx, x_comp, x_it, x_rng, x_enm, x_zip, j_lockV, j_lockB, j_lockO, j_frzO, j_frzV, j_frzB, j_own, j_itL, j_itT, j_enmL, j_enmT, safeI, safeS, t_nm, t_tup, t_tupL, t_nil, t_cons, f_nil, f_one, v_val, v_own, argM, j_lst2, j_tup2, vls_nil, vls_val, vls_own, lstO_s, tupO_s, turn_nx, turn_cnt, fin_r, fin_n, rowI_len, row_len, o_iL, o_iT, o_rL, o_t0, o_t1, o_l0, o_l1, o_l2, r_n, s_from, s_fromI, s_to, s_toI, x_oI, x_oB, x_oV, opt_int, o_addI, o_addR, o_in2, Int.toNat_natCast, Int.reduceToNat, Int.reduceEq, Int.reduceLT, Int.reduceLE, Int.reduceAdd, Int.reduceSub, Int.reduceMul, Int.reduceNeg, decide_true, decide_false, eq_self, Bool.true_or, Bool.or_true, Bool.or_false, Bool.false_or, Bool.not_true, Bool.not_false, sq_it, Int.cast_ofNat_Int, hz, hN, a1, a2, b1, b2, b3, b4, b5, beq_self_eq_true]
  · simp -implicitDefEqProofs (disch := omega) only [b23, S.dropS, runF, List.length_cons, List.length_nil, List.map_cons, List.map_nil, List.cons_append, List.nil_append, List.append_nil, List.replicate_succ, List.replicate_zero, Nat.reduceAdd, Nat.reduceSub, Nat.zero_add, Nat.reduceLT, Nat.reduceLeDiff, List.getElem?_cons_zero, List.getElem?_cons_succ, List.set_cons_zero, List.set_cons_succ, rdV, D.isMut, if_true, if_false, ite_true, ite_false, reduceCtorEq, true_or, or_true, and_self, or_false, false_or, Bool.false_eq_true, x_var, x_int, x_str, x_bl, x_non, x_bin, x_and, x_or, x_andN, x_orN, x_andC, x_orC, x_not, x_neg, x_ite, x_lst, x_tup, x_nil, x_cons, x_call, x_bi, x_slc, x_isi, x_oN, x_sNil, x_sCons, x_set, x_sIte, x_ret, x_retN, x_brk, x_cnt, x_pass, x_doc, j_bin, j_un, j_seq, j_seqR, j_seqB, j_seqC, j_iteT, j_iteF, j_iteCT, j_iteCF, j_andT, j_andF, j_orT, j_orF, j_bl, j_cons, j_bi, j_asB, j_stV, j_stO, j_ret, retE, j_sl, o_add, o_sub, o_mulL, o_mulR, o_div, o_mod, o_pow, o_lt, o_le, o_gt, o_ge, o_eq, o_ne, o_isB, b_int, b_intB, b_lenL, b_lenT, b_max, b_min, b_tupL, b_tupT, b_lstL, b_lstT, b_abs, Option.bind_some, Option.map_some, Option.bind_none, Option.map_none, x_lock, x_frz, x_for, x_mth, x_unp, x_setIx, x_comp, x_it, x_rng, x_enm, x_zip, j_lockV, j_lockB, j_lockO, j_frzO, j_frzV, j_frzB, j_own, j_itL, j_itT, j_enmL, j_enmT, safeI, safeS, t_nm, t_tup, t_tupL, t_nil, t_cons, f_nil, f_one, v_val, v_own, argM, j_lst2, j_tup2, vls_nil, vls_val, vls_own, lstO_s, tupO_s, turn_nx, turn_cnt, fin_r, fin_n, rowI_len, row_len, o_iL, o_iT, o_rL, o_t0, o_t1, o_l0, o_l1, o_l2, r_n, s_from, s_fromI, s_to, s_toI, x_oI, x_oB, x_oV, opt_int, o_addI, o_addR, o_in2, Int.toNat_natCast, Int.reduceToNat, Int.reduceEq, Int.reduceLT, Int.reduceLE, Int.reduceAdd, Int.reduceSub, Int.reduceMul, Int.reduceNeg, decide_true, decide_false, eq_self, Bool.true_or, Bool.or_true, Bool.or_false, Bool.false_or, Bool.not_true, Bool.not_false, sq_it, Int.cast_ofNat_Int, hz, a1, a2, b1, b2, b3, b4, beq_self_eq_true]
end
end My
end

section
set_option Elab.async false
set_option linter.all false
set_option maxRecDepth 100000
set_option maxHeartbeats 4000000
namespace My
open PySem
theorem callF_succ {T : Nat → Option Df} {gl : Nat → Option D} {fu k f : Nat} {d : Df} {cs : List My.C} (h : T f = some d) : callF T gl fu (k + 1) f cs = runF (callF T gl fu k) gl fu d cs := by
  show (T f).bind _ = _
  rw [h]
  rfl
section
variable {gl : Nat → Option D} {fu k : Nat}
theorem k_near : Near (callF tab gl fu (k + 1)) := fun r s d h1 h2 => near_ok (callF tab gl fu k) gl fu r s d h1 h2
theorem k_signed : Signed (callF tab gl fu (k + 1)) := fun d => signed_ok (callF tab gl fu k) gl fu d
theorem k_cell : Cell (callF tab gl fu (k + 1)) := fun ns j h => cell_ok (callF tab gl fu k) gl fu ns j h
theorem k_digits : Digits (callF tab gl fu (k + 1)) := fun c n s m h1 h2 h3 => digits_c (cf := callF tab gl fu k) (gl := gl) (fu := fu) h1 h2 h3
theorem k_sum : Sum9 (callF tab gl fu (k + 1)) := fun t u q n c x h1 h2 h3 => sum_c (cf := callF tab gl fu k) (gl := gl) (fu := fu) t u q n c x h1 h2 h3
theorem k_row : Row7 (callF tab gl fu (k + 2)) := fun w n f N h h1 h2 h3 h4 h5 h6 => row_ok (cf := callF tab gl fu (k + 1)) (gl := gl) (fu := fu) k_near k_signed h1 h2 h3 h4 h5 h6
theorem k_rows : Rows8 (callF tab gl fu (k + 3)) := fun w n N cs cl h1 h2 h3 h4 => rows_ok (cf := callF tab gl fu (k + 2)) (gl := gl) (fu := fu) k_near k_digits k_row h1 h2 h3 h4
theorem k_solved : Slvd10 (callF tab gl fu (k + 2)) := fun w n N h x h1 h2 h3 h4 h5 => solved_ok (cf := callF tab gl fu (k + 1)) (gl := gl) (fu := fu) k_near k_sum h1 h2 h3 h4 h5
theorem k_solves : Sol11 (callF tab gl fu (k + 2)) := fun n w h x N h1 h2 h3 h4 => solves_ok (cf := callF tab gl fu (k + 1)) (gl := gl) (fu := fu) k_sum h1 h2 h3 h4
theorem k_bars : Bar12 (callF tab gl fu (k + 2)) := fun n w h y N h1 h2 h3 h4 => (callF_succ (T := tab) (d := d12) rfl).trans <| bars_ok (cf := callF tab gl fu (k + 1)) (gl := gl) (fu := fu) k_sum h1 h2 h3 h4
theorem k_passed : Pas13 (callF tab gl fu (k + 1)) := fun n w h v h1 h2 h3 => passed_ok (cf := callF tab gl fu k) (gl := gl) (fu := fu) h1 h2 h3
theorem k_sol1 : Sol1 (callF tab gl fu (k + 1)) := fun o t u n w h x N h1 h2 h3 h4 => sol1_c (cf := callF tab gl fu k) (gl := gl) (fu := fu) h1 h2 h3 h4
theorem k_wei2 : Wei2 (callF tab gl fu (k + 5)) := fun o t u n w h x N h1 h2 h3 h4 => wei2_c (cf := callF tab gl fu (k + 4)) (gl := gl) (fu := fu) frz_c h1 h2 h3 h4
theorem k_sol19 : Sol19 (callF tab gl fu (k + 3)) := fun n w h x N v h1 h2 h3 h4 h5 => sol19_c (cf := callF tab gl fu (k + 2)) (gl := gl) (fu := fu) k_sol1 k_solves k_passed h1 h2 h3 h4 h5
theorem k_wei20 : Wei20 (callF tab gl fu (k + 6)) := fun n w h x N v h1 h2 h3 h4 h5 => (callF_succ (T := tab) (d := d20) rfl).trans <| wei20_c (cf := callF tab gl fu (k + 5)) (gl := gl) (fu := fu) k_wei2 k_bars k_passed h1 h2 h3 h4 h5
theorem k_barred : Brd14 (callF tab gl fu (k + 2)) := fun w n N v h h1 h2 h3 h4 h5 h6 => by
  obtain ⟨h', y, a, q1, q2, q3⟩ := barred_ok (cf := callF tab gl fu (k + 1)) (gl := gl) (fu := fu) (v := v) k_near k_digits h1 h2 h3 h4 h5 h6
  exact ⟨h', y, a, q1, q2, (callF_succ (T := tab) (d := d14) rfl).trans q3⟩
theorem k_right : Right15 (callF tab gl fu (k + 1)) := fun n w h a v h1 h2 h3 h4 h5 h6 h7 => right_ok (cf := callF tab gl fu k) (gl := gl) (fu := fu) h1 h2 ⟨h3, h4⟩ ⟨h5, h6⟩ h7
theorem k_coef : Coef16 (callF tab gl fu (k + 1)) := fun n w h a j v h1 h2 h3 h4 h5 h6 h7 h8 => coef_ok (cf := callF tab gl fu k) (gl := gl) (fu := fu) h1 h2 ⟨h3, h4⟩ ⟨h5, h6⟩ h7 h8
theorem k_changed : Chg17 (callF tab gl fu (k + 1)) := fun n x a v h1 h2 => changed_ok (cf := callF tab gl fu k) (gl := gl) (fu := fu) ⟨h1, h2⟩
theorem k_shifted : Shft18 (callF tab gl fu (k + 2)) := fun n N v x h1 h2 h3 => shifted_ok (cf := callF tab gl fu (k + 1)) (gl := gl) (fu := fu) k_near k_digits h1 h2 h3
theorem k_ask21 : Ask21 (callF tab gl fu (k + 4)) := fun w n N v p h x f h1 h2 h3 h4 h5 h6 h7 h8 h9 h10 h11 h12 => ask21 (cf := callF tab gl fu (k + 3)) (gl := gl) (fu := fu) k_near k_signed k_right k_coef k_changed k_sol19 h1 h2 h3 h4 h5 ⟨h6, h7⟩ ⟨h8, h9⟩ h10 h11 h12
theorem k_ask22 : Ask22 (callF tab gl fu (k + 7)) := fun w n a N v p h y0 y f h1 h2 h3 h4 h5 h6 h7 h8 h9 h10 h11 h12 h13 => ask22 (cf := callF tab gl fu (k + 6)) (gl := gl) (fu := fu) k_near k_signed k_sum k_right k_coef k_changed k_wei20 h1 h2 h3 h4 h5 ⟨h6, h7⟩ ⟨h8, h9⟩ h10 h11 h12 h13
theorem k_law {ns : List Int} : callF tab gl fu (k + 8) 23 [(.bor, .lst (ns.map D.int))] = some (.val, .bl true) := by
  show runF (callF tab gl fu (k + 7)) gl fu d23 [(.bor, .lst (ns.map D.int))] = some (.val, .bl true)
  have go : evS (callF tab gl fu (k + 7)) gl fu b23 [some (.bor, .lst (ns.map D.int)), none, none, none, none, none, none, none, none, none, none, none, none, none, none, none, none, none, none, none] = some (.ret (.val, .bl true)) := by
    obtain ⟨f, N, m, w, hf, n1, n2, hm, hw, h3, eA⟩ := law_A (cf := callF tab gl fu (k + 7)) (gl := gl) (fu := fu) (ns := ns) k_cell k_digits
    obtain ⟨cl, n, h, hn, hok, eB⟩ := law_B (cf := callF tab gl fu (k + 7)) (gl := gl) (fu := fu) (ns := ns) (l := rowI 20 fun i => szM.getD i 0) k_cell k_digits k_rows hf n1 n2 hm hw h3
    obtain ⟨x, y, g, x', v, p, h', hg, v0, v1, p0, p1, hok', eC⟩ := law_C (cf := callF tab gl fu (k + 7)) (gl := gl) (fu := fu) (ns := ns) (l := rowI 20 fun i => szM.getD i 0) (m := m) (e6 := some (.val, .lst (rowI w cl))) k_cell k_digits k_solved k_shifted hf n1 n2 hn hw hok
    have eD := law_D (cf := callF tab gl fu (k + 7)) (gl := gl) (fu := fu) (ns := ns) (l := rowI 20 fun i => szM.getD i 0) (m := m) (f := f) (x := x) (y := y) (x' := x') (e6 := some (.val, .lst (rowI w cl))) k_cell k_sol1 k_wei2 k_barred k_shifted k_sol19 k_wei20 k_ask21 k_ask22 hg n1 n2 hn hw v0 v1 p0 p1 hok hok'
    rw [evS_split 8 b23, eA, j_seq, evS_split 5, eB, j_seq, evS_split 13]
    show seqO (evS (callF tab gl fu (k + 7)) gl fu (S.takeS 13 (S.dropS 13 b23)) _) (evS (callF tab gl fu (k + 7)) gl fu (S.dropS 26 b23)) = _
    rw [eC, j_seq, eD]
  show finO (evS (callF tab gl fu (k + 7)) gl fu b23 [some (.bor, .lst (ns.map D.int)), none, none, none, none, none, none, none, none, none, none, none, none, none, none, none, none, none, none, none]) = _
  rw [go, fin_r]
end
abbrev lawK : Nat := 100
theorem law_true (ns : List Int) (h : ns.length ≤ 63) : callF tab glD 1 lawK 23 [(.bor, .lst (ns.map D.int))] = some (.val, .bl true) := k_law (k := 92)
end My
end

open PySem PySem.W PyProof.Rows
set_option maxRecDepth 100000 in
set_option maxHeartbeats 0 in
theorem PySem.Challenge.cw_likemakeslike_k24_system_judges_holds : PySem.Challenge.rw_likemakeslike_k24_system_judges.Holds := by
  w_on; o_law; k_head; (case hw => w_witness2)
  k_fill
  refine My.walk_my (l := PySem.Challenge.rw_likemakeslike_k24_system_judges) (k := My.lawK) rfl rfl ⟨rfl, by decide, by decide⟩ (fun w h Y => PySem.W.kIn_of Y) ?F
  case F =>
    intro w mg fa h KX G hmg
    refine' My.mk KX G hmg ?a0 ?l0 ?c0 ?k0 ?a1 ?l1 ?c1 ?k1 ?a2 ?l2 ?c2 ?k2 ?a3 ?l3 ?c3 ?k3 ?a4 ?l4 ?c4 ?k4 ?a5 ?l5 ?c5 ?k5 ?a6 ?l6 ?c6 ?k6 ?a7 ?l7 ?c7 ?k7 ?a8 ?l8 ?c8 ?k8 ?a9 ?l9 ?c9 ?k9 ?a10 ?l10 ?c10 ?k10 ?a11 ?l11 ?c11 ?k11 ?a12 ?l12 ?c12 ?k12 ?a13 ?l13 ?c13 ?k13 ?a14 ?l14 ?c14 ?k14 ?a15 ?l15 ?c15 ?k15 ?a16 ?l16 ?c16 ?k16 ?a17 ?l17 ?c17 ?k17 ?a18 ?l18 ?c18 ?k18 ?a19 ?l19 ?c19 ?k19 ?a20 ?l20 ?c20 ?k20 ?a21 ?l21 ?c21 ?k21 ?a22 ?l22 ?c22 ?k22 ?a23 ?l23 ?c23 ?k23 ?z0 ?z1 ?z2 ?z3 ?z4 ?z5 ?z6 ?z7 ?z8 ?z9 My.law_true
    (case a0 => k_is)
    (case l0 => k_is)
    (case c0 => k_is)
    (case k0 => k_is)
    (case a1 => k_is)
    (case l1 => k_is)
    (case c1 => k_is)
    (case k1 => k_is)
    (case a2 => k_is)
    (case l2 => k_is)
    (case c2 => k_is)
    (case k2 => k_is)
    (case a3 => k_is)
    (case l3 => k_is)
    (case c3 => k_is)
    (case k3 => k_is)
    (case a4 => k_is)
    (case l4 => k_is)
    (case c4 => k_is)
    (case k4 => k_is)
    (case a5 => k_is)
    (case l5 => k_is)
    (case c5 => k_is)
    (case k5 => k_is)
    (case a6 => k_is)
    (case l6 => k_is)
    (case c6 => k_is)
    (case k6 => k_is)
    (case a7 => k_is)
    (case l7 => k_is)
    (case c7 => k_is)
    (case k7 => k_is)
    (case a8 => k_is)
    (case l8 => k_is)
    (case c8 => k_is)
    (case k8 => k_is)
    (case a9 => k_is)
    (case l9 => k_is)
    (case c9 => k_is)
    (case k9 => k_is)
    (case a10 => k_is)
    (case l10 => k_is)
    (case c10 => k_is)
    (case k10 => k_is)
    (case a11 => k_is)
    (case l11 => k_is)
    (case c11 => k_is)
    (case k11 => k_is)
    (case a12 => k_is)
    (case l12 => k_is)
    (case c12 => k_is)
    (case k12 => k_is)
    (case a13 => k_is)
    (case l13 => k_is)
    (case c13 => k_is)
    (case k13 => k_is)
    (case a14 => k_is)
    (case l14 => k_is)
    (case c14 => k_is)
    (case k14 => k_is)
    (case a15 => k_is)
    (case l15 => k_is)
    (case c15 => k_is)
    (case k15 => k_is)
    (case a16 => k_is)
    (case l16 => k_is)
    (case c16 => k_is)
    (case k16 => k_is)
    (case a17 => k_is)
    (case l17 => k_is)
    (case c17 => k_is)
    (case k17 => k_is)
    (case a18 => k_is)
    (case l18 => k_is)
    (case c18 => k_is)
    (case k18 => k_is)
    (case a19 => k_is)
    (case l19 => k_is)
    (case c19 => k_is)
    (case k19 => k_is)
    (case a20 => k_is)
    (case l20 => k_is)
    (case c20 => k_is)
    (case k20 => k_is)
    (case a21 => k_is)
    (case l21 => k_is)
    (case c21 => k_is)
    (case k21 => k_is)
    (case a22 => k_is)
    (case l22 => k_is)
    (case c22 => k_is)
    (case k22 => k_is)
    (case a23 => k_is)
    (case l23 => k_is)
    (case c23 => k_is)
    (case k23 => k_is)
    (case z0 => k_is)
    (case z1 => k_is)
    (case z2 => k_is)
    (case z3 => k_is)
    (case z4 => k_is)
    (case z5 => k_is)
    (case z6 => k_is)
    (case z7 => k_is)
    (case z8 => k_is)
    (case z9 => k_is)
