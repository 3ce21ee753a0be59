import PyProof.Rows.All
import Wide.All
import OpenK.AllK
import Wide.FinOn
import HandS.ForMost
import KE.DataCmp
import KE.DataEq
import KE.SortData
import PyProof.ReprReads
import PyProof.ReprRoads
import HandS.TupAny
import HandS.IsInst
import HandS.Style
import HandS.Wide
import HandS.Conv
import HandS.Comp
import HandS.Zip
import HandS.Iter
import HandS.OwnEq
import HandS.Lambda
import HandS.Exc
import HandS.ExcInit
import HandS.ForSpec
import HandS.Deep
import KE.GoesMore
import HandS.WordsDict
import HandS.TupLen
import HandS.SetFor
import HandS.More
import HandS.HeadHook4
import HandS.HeadEnd
import HandS.Head2
import PySem.Challenge.RW_sortwires_k17_whole_what_nets_do
set_option Elab.async false
set_option linter.all false
set_option autoImplicit false
namespace Rx
open PySem
/-- a dict's key: a number or a text -/
abbrev DKey := Int ⊕ Str
/-- plain data -/
inductive D where
  | non | bl (b : Bool) | int (i : Int) | str (x : Str)
  | tup (l : List D) | lst (l : List D) | dk (l : List (DKey × D)) | dt (l : List (List DKey × D)) | ins (c : Str) (fs : List (Str × D)) | scr (l : List Int)
/-- a value on its way: done with for good (fz), or a list, dict, instance that only its place holds -/
inductive Val where
  | fz (d : D) | own (l : List D) | odk (l : List (DKey × D)) | odt (l : List (List DKey × D)) | oi (c : Str) (fs : List (Str × D))
/-- a name's place; pin: it is not to be stored to -/
inductive Slot where
  | emp | lck | val (pin : Bool) (w : Val)
abbrev Env := List Slot
inductive Res (α : Type) where
  | ok (a : α) | exc (c : Str) (fs : List (Str × D)) | bad
def Res.bind {α β : Type} : Res α → (α → Res β) → Res β
  | .ok a, f => f a
  | .exc c fs, _ => .exc c fs
  | .bad, _ => .bad
@[simp] theorem Res.bind_ok {α β : Type} (a : α) (f : α → Res β) : (Res.ok a).bind f = f a := rfl
@[simp] theorem Res.bind_exc {α β : Type} (c : Str) (fs : List (Str × D)) (f : α → Res β) : (Res.exc c fs).bind f = .exc c fs := rfl
@[simp] theorem Res.bind_bad {α β : Type} (f : α → Res β) : (Res.bad : Res α).bind f = .bad := rfl
/-- an exception is not wanted here -/
def Res.nox {α : Type} : Res α → Res α
  | .ok a => .ok a
  | _ => .bad
@[simp] theorem Res.nox_ok {α : Type} (a : α) : (Res.ok a).nox = .ok a := rfl
def Val.frz : Val → D
  | .fz d => d
  | .own l => .lst l
  | .odk l => .dk l
  | .odt l => .dt l
  | .oi c fs => .ins c fs
@[simp] theorem Val.frz_fz (d : D) : (Val.fz d).frz = d := rfl
@[simp] theorem Val.frz_own (l : List D) : (Val.own l).frz = .lst l := rfl
@[simp] theorem Val.frz_oi (c : Str) (fs : List (Str × D)) : (Val.oi c fs).frz = .ins c fs := rfl
def Val.isFz : Val → Bool
  | .fz _ => true
  | _ => false
inductive Arg where
  | val (w : Val) | ref (i : Nat)

def SL : Nat := 16777216

inductive Op where
  | add | sub | mul | fdiv | mod | pow | neg
  | eq | ne | lt | le | gt | ge | isN | notN | isB (b : Bool) | notB (b : Bool) | inn | nin
  | idx | slice (lo hi : Bool) | rev
  | len | tuple | list | listR (n : Nat) | tupleR (n : Nat) | int | abs | min | max | sum | sumL | sorted | sortedSet | lenSet | any | all | repr
  | isa (ts : List Str)
  | count | index | get
  | dnewK | dnewT | dget | din | dnin
  | fld (f : Str)
inductive IK where
  | plain | range (n : Nat) | enum | zip
inductive Mt where
  | append | extend | pop | popAt | insert

mutual
inductive CE where
  | var (i : Nat) | con (d : D) | glob (x : Str)
  | prim (op : Op) (es : List CE)
  | and (a b : CE) | or (a b : CE) | not (a : CE) | ite (t a b : CE)
  | chain (o p : Op) (a b c : CE)
  | eqc (es : List CE)
  | tup (es : List CE) | lst (es : List CE)
  | call (f : Str) (es : List CE) | make (c : Str) (es : List CE)
  | mut (m : Mt) (i : Nat) (es : List CE)
  | comp (e : CE) (t : Tg) (k : IK) (ss : List CE) (c : List CE) (wp : List Nat)
  | comp2 (e : CE) (t : Tg) (k : IK) (ss : List CE) (c : List CE) (t1 : Tg) (k1 : IK) (ss1 : List CE) (c1 : List CE) (wp wp1 : List Nat)
inductive Tg where
  | nm (i : Nat) | tp (l : List Tg) | sub (k : Nat) (e : CE)
end
inductive CS where
  | asg (t : Tg) (e : CE)
  | par (l : List Nat) (es : List CE)
  | aug (i : Nat) (op : Op) (e : CE)
  | fset (k : Nat) (f : Str) (e : CE)
  | expr (e : CE) | ret (e : CE) | retN | brk | cnt | pass
  | raise (c : Str) (es : List CE)
  | ite (t : CE) (a b : List CS) | whl (t : CE) (b : List CS)
  | for (t : Tg) (k : IK) (ss : List CE) (b : List CS)
  | dput (i : Nat) (es : List CE)
inductive Fl where
  | nx | rt (w : Val) | bk | ct
structure Fn where
  np : Nat
  ns : Nat
  pins : List Nat
  body : List CS
structure Tbl where
  fn : Str → Option Fn
  cst : Str → Option D
  ini : Str → Option Str
  exn : Str → Option (List Str)
  eqm : Str → Option Str
abbrev Call := Str → List Val → Res (Val × List Slot)

/-! ### places -/
def rdVar (i : Nat) (env : Env) : Res (Val × Env) :=
  match env[i]? with
  | some (.val p w) => match w with
    | .fz d => .ok (.fz d, env)
    | w => .ok (.fz w.frz, env.set i (.val p (.fz w.frz)))
  | _ => .bad
def mvVar (i : Nat) (env : Env) : Res (Val × Env) :=
  match env[i]? with
  | some (.val p w) => match w with
    | .fz d => .ok (.fz d, env)
    | w => if p then .ok (.fz w.frz, env.set i (.val p (.fz w.frz))) else .ok (w, env.set i .emp)
  | _ => .bad
def argVar (i : Nat) (env : Env) : Res (Arg × Env) :=
  match env[i]? with
  | some (.val _ w) => match w with
    | .fz d => .ok (.val (.fz d), env)
    | _ => .ok (.ref i, env)
  | _ => .bad
def pkSlot (i : Nat) (env : Env) : Res D :=
  match env[i]? with
  | some (.val _ w) => .ok w.frz
  | _ => .bad
def pkArg (env : Env) : Arg → Res D
  | .val w => .ok w.frz
  | .ref i => pkSlot i env
def pkArgs (env : Env) : List Arg → Res (List D)
  | [] => .ok []
  | a :: r => (pkArg env a).bind fun d => (pkArgs env r).bind fun ds => .ok (d :: ds)
def setSlot (i : Nat) (w : Val) (env : Env) : Res Env :=
  match env[i]? with
  | some .emp => .ok (env.set i (.val false w))
  | some (.val false _) => .ok (env.set i (.val false w))
  | _ => .bad
/-- a method changes what place i holds -/
def mutSlot {α : Type} (i : Nat) (env : Env) (f : Val → Res (α × Val)) : Res (α × Env) :=
  match env[i]? with
  | some (.val p w) => (f w).bind fun (a, w') => .ok (a, env.set i (.val p w'))
  | _ => .bad
def lockArgs : List Arg → Env → Res (List (Nat × Slot) × Env)
  | [], env => .ok ([], env)
  | .val _ :: r, env => lockArgs r env
  | .ref i :: r, env => match env[i]? with
    | some (.val p w) => (lockArgs r (env.set i .lck)).bind fun (sv, env') => .ok ((i, .val p w) :: sv, env')
    | _ => .bad
def unlock : List (Nat × Slot) → Env → Env
  | [], env => env
  | (i, s) :: r, env => (unlock r env).set i s
def wipeE (env : Env) : List Nat → Env
  | [] => env
  | v :: vs => (wipeE env vs).set v .emp
def restE (old : Env) (env : Env) : List Nat → Env
  | [] => env
  | v :: vs => (restE old env vs).set v (old.getD v .emp)
/-- the arguments of a call: what a pinned parameter gets stays the caller's -/
def bindCall (pins : List Nat) : Nat → List Arg → Env → Res (List Val × Env)
  | _, [], env => .ok ([], env)
  | j, .val w :: r, env => (bindCall pins (j + 1) r env).bind fun (ws, env') => .ok (w :: ws, env')
  | j, .ref i :: r, env => match env[i]? with
    | some (.val p w) =>
      if pins.contains j then (bindCall pins (j + 1) r (env.set i .lck)).bind fun (ws, env') => .ok (w :: ws, env')
      else (bindCall pins (j + 1) r (env.set i (.val p (.fz w.frz)))).bind fun (ws, env') => .ok (.fz w.frz :: ws, env')
    | _ => .bad
def backCall (pins : List Nat) (old : Env) : Nat → List Arg → List Val → List Slot → Env → Res Env
  | _, [], _, _, env => .ok env
  | j, .val _ :: r, _ :: ws, outs, env => backCall pins old (j + 1) r ws outs env
  | j, .ref i :: r, w0 :: ws, outs, env =>
    if pins.contains j then match outs[j]?, old[i]? with
      | some (.val _ w), some (.val p _) => backCall pins old (j + 1) r ws outs (env.set i (.val p (match w0 with
        | .fz d => .fz d
        | _ => w)))
      | _, _ => .bad
    else backCall pins old (j + 1) r ws outs env
  | _, _, _, _, _ => .bad

/-! ### operations on data -/
mutual
def D.py : D → PyData
  | .non => .none
  | .bl b => .bool b
  | .int i => .int i
  | .str x => .str x
  | .tup l => .tuple (D.pys l)
  | .lst l => .list (D.pys l)
  | .dk _ => .dict []
  | .dt _ => .dict []
  | .ins _ _ => .dict []
  | .scr _ => .dict []
def D.pys : List D → List PyData
  | [] => []
  | d :: r => D.py d :: D.pys r
end
mutual
/-- no dict, no instance, no deeper than told -/
def D.fit : Nat → D → Bool
  | _, .non => true
  | _, .bl _ => true
  | _, .int _ => true
  | _, .str _ => true
  | n + 1, .tup l => D.fits n l
  | n + 1, .lst l => D.fits n l
  | _, _ => false
def D.fits : Nat → List D → Bool
  | _, [] => true
  | n, d :: r => D.fit n d && D.fits n r
end
def D.eqD (a b : D) : Bool := PyData.eqv a.py b.py
def D.ltD (a b : D) : Bool := PySem.W.dataLt a.py b.py
def D.alk (a b : D) : Bool := PySem.W.alike a.py b.py
def D.items : D → Option (List D)
  | .tup l => some l
  | .lst l => some l
  | _ => none
def ints? : List D → Option (List Int)
  | [] => some []
  | .int i :: r => (ints? r).map (i :: ·)
  | _ :: _ => none
def bls? : List D → Option (List Bool)
  | [] => some []
  | .bl i :: r => (bls? r).map (i :: ·)
  | _ :: _ => none
def cut {α : Type} (l : List α) (lo hi : Option Int) : List α :=
  (l.drop (HT.sIx l.length 0 lo)).take (HT.sIx l.length l.length hi - HT.sIx l.length 0 lo)
def rB (b : Bool) : Res Val := .ok (.fz (.bl b))
def rI (i : Int) : Res Val := .ok (.fz (.int i))
def B64 (i : Int) : Bool := decide (i.natAbs < 2 ^ 64)
def B62 (i : Int) : Bool := decide (i.natAbs < 2 ^ 62) || decide (i = -(2 ^ 62))
def rng (lo hi : Int) : List D := (List.range (hi - lo).toNat).map fun k => .int (lo + (k : Nat))
/-- lo, lo + c, .. -/
def rngN (lo c : Int) (n : Nat) : List D := (List.range n).map fun k => .int (lo + (k : Nat) * c)
def rangeOf : List D → Res (List D)
  | [.int j] => if B62 j then .ok (rng 0 j) else .bad
  | [.int i, .int j] => if B62 i && B62 j then .ok (rng i j) else .bad
  | [.int i, .int j, .int c] => if B62 i && B62 j && decide (c ≠ 0) && decide (c.natAbs < 1073741824) && Builtin.Range.small i j c && decide (0 ≤ Builtin.Range.rangeSize i j c) then .ok (rngN i c (Builtin.Range.rangeSize i j c).toNat) else .bad
  | _ => .bad
def own? (l : List D) : Res Val := if l.length ≤ SL then .ok (.own l) else .bad
def tup? (l : List D) : Res Val := if l.length ≤ SL then .ok (.fz (.tup l)) else .bad
def minI : Int → List Int → Int
  | m, [] => m
  | m, x :: r => minI (if x < m then x else m) r
def maxI : Int → List Int → Int
  | m, [] => m
  | m, x :: r => maxI (if m < x then x else m) r
def D.isNonTup : D → Bool
  | .tup _ => false
  | .non => false
  | _ => true
def D.isTup1 : D → Bool
  | .tup (_ :: _) => true
  | _ => false
def sortable (l : List D) : Bool :=
  D.fits 40 l && (l.all fun a => l.all fun b => a.alk b) && (l.all D.isTup1 || l.all D.isNonTup) && decide (l.length ≤ SL)
def sortD (l : List D) : List D := l.mergeSort fun a b => !b.ltD a
def D.tyName : D → Option String
  | .non => some "NoneType"
  | .bl _ => some "bool"
  | .int _ => some "int"
  | .str _ => some "str"
  | .tup _ => some "tuple"
  | .lst _ => some "list"
  | .dk _ => some "dict"
  | .dt _ => some "dict"
  | .ins _ _ => none
  | .scr _ => none
def isaOne (d : D) (t : Str) : Bool :=
  match d with
  | .bl _ => t == ("bool" : Str) || t == ("int" : Str)
  | .int _ => t == ("int" : Str)
  | .str _ => t == ("str" : Str)
  | .tup _ => t == ("tuple" : Str)
  | .lst _ => t == ("list" : Str)
  | .dk _ => t == ("dict" : Str)
  | .dt _ => t == ("dict" : Str)
  | .ins c _ => t == c
  | .non => false
  | .scr _ => false
def D.typed : D → Bool
  | .dk _ => false
  | .dt _ => false
  | .scr _ => false
  | _ => true
def getD : List (D × D) → D → Option D
  | [], _ => none
  | (k, v) :: r, x => if k.eqD x then some v else getD r x

/-! dicts -/
def keyK? : D → Option DKey
  | .int i => some (.inl i)
  | .str x => some (.inr x)
  | _ => none
def keysK? : List D → Option (List DKey)
  | [] => some []
  | d :: r => (keyK? d).bind fun k => (keysK? r).map (k :: ·)
def keyD : DKey → D
  | .inl i => .int i
  | .inr x => .str x
def dLook {κ : Type} [DecidableEq κ] (l : List (κ × D)) (k : κ) : Option D := (l.find? fun kv => decide (kv.1 = k)).map (·.2)
def dPut {κ : Type} [DecidableEq κ] (l : List (κ × D)) (k : κ) (v : D) : List (κ × D) :=
  if (l.any fun kv => decide (kv.1 = k)) = true then l.map (fun kv => if kv.1 = k then (kv.1, v) else kv) else l ++ [(k, v)]
/-- what a dict holds at a key; none: no such key can be asked -/
def dLookD : D → D → Option (Option D)
  | .dk l, k => (keyK? k).map (dLook l)
  | .dt l, .tup ks => (keysK? ks).map (dLook l)
  | _, _ => none
def dPutV : Val → D → D → Res Val
  | .odk l, k, v => match keyK? k with
    | some kk => if l.length < SL then .ok (.odk (dPut l kk v)) else .bad
    | none => .bad
  | .odt l, .tup ks, v => match keysK? ks with
    | some kk => if l.length < SL then .ok (.odt (dPut l kk v)) else .bad
    | none => .bad
  | _, _, _ => .bad
def keysD (l : List (DKey × D)) : List D := l.map fun kv => keyD kv.1
def keysT (l : List (List DKey × D)) : List D := l.map fun kv => .tup (kv.1.map keyD)
/-- each once, ascending -/
def setOfI (l : List Int) : List Int := l.eraseDups.mergeSort fun a b => decide (a ≤ b)
def eqF : List (Str × D) → List (Str × D) → Bool
  | (_, a) :: r, (_, b) :: q => a.eqD b && eqF r q
  | [], [] => true
  | _, _ => false

/-- dicts, sets -/
def primB : Op → List D → Res Val
  | .len, [.dk l] => rI l.length
  | .len, [.dt l] => rI l.length
  | .sorted, [.dk l] => if sortable (keysD l) then .ok (.own (sortD (keysD l))) else .bad
  | .sorted, [.dt l] => if sortable (keysT l) then .ok (.own (sortD (keysT l))) else .bad
  | .list, [.dk l] => .ok (.own (keysD l))
  | .list, [.dt l] => .ok (.own (keysT l))
  | .dnewK, [] => .ok (.odk [])
  | .dnewT, [] => .ok (.odt [])
  | .dget, [c, k] => match dLookD c k with | some (some d) => .ok (.fz d) | _ => .bad
  | .din, [k, c] => match dLookD c k with | some o => rB o.isSome | _ => .bad
  | .dnin, [k, c] => match dLookD c k with | some o => rB (!o.isSome) | _ => .bad
  | .lenSet, [.lst l] => match ints? l with | some ns => if l.length ≤ 1000 then rI (setOfI ns).length else .bad | none => .bad
  | .sortedSet, [.lst l] => match ints? l with | some ns => if l.length ≤ 1000 && decide ((setOfI ns).length < 64) then .ok (.own ((setOfI ns).map D.int)) else .bad | none => .bad
  | _, _ => .bad
def prim : Op → List D → Res Val
  | .add, [.int i, .int j] => rI (i + j)
  | .add, [.tup l, .tup m] => tup? (l ++ m)
  | .add, [.lst l, .lst m] => own? (l ++ m)
  | .sub, [.int i, .int j] => rI (i - j)
  | .mul, [.int i, .int j] => if B64 i || B64 j then rI (i * j) else .bad
  | .mul, [.lst l, .int k] => if B62 k then own? (List.replicate k.toNat l).flatten else .bad
  | .fdiv, [.int i, .int j] => if decide (0 < j) && B62 j then rI (i / j) else .bad
  | .mod, [.int i, .int j] => if decide (0 < j) then rI (i % j) else .bad
  | .pow, [.int i, .int j] => if decide (0 ≤ j) && decide (j.toNat ≤ 1000000) && B62 i then rI (i ^ j.toNat) else .bad
  | .neg, [.int i] => rI (-i)
  | .eq, [a, b] => if a.fit 40 && b.fit 40 then rB (a.eqD b) else .bad
  | .ne, [a, b] => if a.fit 40 && b.fit 40 then rB (!a.eqD b) else .bad
  | .lt, [.int i, .int j] => rB (decide (i < j))
  | .le, [.int i, .int j] => rB (decide (i ≤ j))
  | .gt, [.int i, .int j] => rB (decide (j < i))
  | .ge, [.int i, .int j] => rB (decide (j ≤ i))
  | .lt, [.tup l, .tup m] => if D.fits 40 l && D.fits 40 m && (D.tup l).alk (.tup m) then rB ((D.tup l).ltD (.tup m)) else .bad
  | .gt, [.tup l, .tup m] => if D.fits 40 l && D.fits 40 m && (D.tup l).alk (.tup m) then rB ((D.tup m).ltD (.tup l)) else .bad
  | .isN, [.non] => rB true
  | .isN, [_] => rB false
  | .notN, [.non] => rB false
  | .notN, [_] => rB true
  | .isB b, [.bl c] => rB (b == c)
  | .notB b, [.bl c] => rB (!(b == c))
  | .inn, [a, .tup l] => if a.fit 40 && D.fits 40 l then rB (l.any fun b => b.eqD a) else .bad
  | .inn, [a, .lst l] => if a.fit 40 && D.fits 40 l then rB (l.any fun b => b.eqD a) else .bad
  | .nin, [a, .tup l] => if a.fit 40 && D.fits 40 l then rB (!l.any fun b => b.eqD a) else .bad
  | .nin, [a, .lst l] => if a.fit 40 && D.fits 40 l then rB (!l.any fun b => b.eqD a) else .bad
  | .idx, [.tup l, .int i] => match L2.atI l i with | some d => .ok (.fz d) | none => .bad
  | .idx, [.lst l, .int i] => match L2.atI l i with | some d => .ok (.fz d) | none => .bad
  | .slice false false, [.tup l] => .ok (.fz (.tup (cut l none none)))
  | .slice true false, [.tup l, .int i] => .ok (.fz (.tup (cut l (some i) none)))
  | .slice false true, [.tup l, .int j] => .ok (.fz (.tup (cut l none (some j))))
  | .slice true true, [.tup l, .int i, .int j] => .ok (.fz (.tup (cut l (some i) (some j))))
  | .slice false false, [.lst l] => .ok (.own (cut l none none))
  | .slice true false, [.lst l, .int i] => .ok (.own (cut l (some i) none))
  | .slice false true, [.lst l, .int j] => .ok (.own (cut l none (some j)))
  | .slice true true, [.lst l, .int i, .int j] => .ok (.own (cut l (some i) (some j)))
  | .slice false true, [.scr l, .int j] => .ok (.own ((cut l none (some j)).map D.int))
  | .len, [.tup l] => rI l.length
  | .len, [.lst l] => rI l.length
  | .tuple, [.tup l] => .ok (.fz (.tup l))
  | .tuple, [.lst l] => .ok (.fz (.tup l))
  | .list, [.tup l] => .ok (.own l)
  | .list, [.lst l] => .ok (.own l)
  | .listR _, ds => (rangeOf ds).bind own?
  | .tupleR _, ds => (rangeOf ds).bind tup?
  | .int, [.int i] => rI i
  | .int, [.bl b] => rI (if b then 1 else 0)
  | .abs, [.int i] => rI (if i < 0 then -i else i)
  | .max, [.int i, .int j] => rI (if j > i then j else i)
  | .min, [.int i, .int j] => rI (if j < i then j else i)
  | .max, [.lst l] => match ints? l with | some (x :: r) => rI (maxI x r) | _ => .bad
  | .min, [.lst l] => match ints? l with | some (x :: r) => rI (minI x r) | _ => .bad
  | .sum, [.lst l] => match ints? l with | some r => rI r.sum | _ => .bad
  | .sorted, [.tup l] => if sortable l then .ok (.own (sortD l)) else .bad
  | .sorted, [.lst l] => if sortable l then .ok (.own (sortD l)) else .bad
  | .all, [.lst l] => match bls? l with | some r => rB (r.all id) | _ => .bad
  | .any, [.lst l] => match bls? l with | some r => rB (r.any id) | _ => .bad
  | .isa ts, [d] => if d.typed then rB (ts.any fun t => isaOne d t) else .bad
  | .repr, [.tup l] => if D.fits 40 l && (D.tup l).py.showable && decide ((D.tup l).py.shown.length ≤ 100000) then .ok (.fz (.str (D.tup l).py.shown)) else .bad
  | .repr, [.lst l] => if D.fits 40 l && (D.lst l).py.showable && decide ((D.lst l).py.shown.length ≤ 100000) then .ok (.fz (.str (D.lst l).py.shown)) else .bad
  | .count, [.lst l, a] => if a.fit 40 && D.fits 40 l then rI ((l.countP fun b => b.eqD a : Nat) : Int) else .bad
  | .fld f, [.ins _ fs] => match fs.lookup f with | some d => .ok (.fz d) | none => .bad
  | op, ds => primB op ds

def itPlain : List D → Res (List D)
  | [d] => match d.items with
    | some l => .ok l
    | none => .bad
  | _ => .bad
def itEnum : List D → Res (List D)
  | [.lst l] => .ok (l.mapIdx fun i d => .tup [.int (i : Nat), d])
  | [.tup l] => .ok (l.mapIdx fun i d => .tup [.int (i : Nat), d])
  | _ => .bad
def itZip : List D → Res (List D)
  | [.lst l, .lst m] => .ok (List.zipWith (fun x y => .tup [x, y]) l m)
  | [.tup l, .tup m] => .ok (List.zipWith (fun x y => .tup [x, y]) l m)
  | _ => .bad
def iterOf (k : IK) (ds : List D) : Res (List D) :=
  match k with
  | .plain => itPlain ds
  | .range _ => rangeOf ds
  | .enum => itEnum ds
  | .zip => itZip ds
def mtd : Mt → Val → List D → Res (D × Val)
  | .append, .own l, [d] => if l.length < SL then .ok (.non, .own (l ++ [d])) else .bad
  | .extend, .own l, [.lst m] => if l.length + m.length ≤ SL then .ok (.non, .own (l ++ m)) else .bad
  | .pop, .own l, [] => match l[l.length - 1]? with | some d => .ok (d, .own l.dropLast) | none => .bad
  | .popAt, .own l, [.int i] => if decide (0 ≤ i) && B62 i then match l[i.toNat]? with | some d => .ok (d, .own (l.eraseIdx i.toNat)) | none => .bad else .bad
  | .insert, .own l, [.int i, d] => if decide (0 ≤ i) && B62 i && decide (l.length < SL) then .ok (.non, .own (l.take i.toNat ++ d :: l.drop i.toNat)) else .bad
  | _, _, _ => .bad
def setI (w : Val) (i d : D) : Res Val :=
  match w, i with
  | .own l, .int k => match L2.ixN l.length k with
    | some j => .ok (.own (l.set j d))
    | none => .bad
  | _, _ => .bad

/-! ### the evaluator -/
def forL (step : D → Env → Res (Fl × Env)) : List D → Env → Res (Fl × Env)
  | [], env => .ok (.nx, env)
  | d :: r, env => (step d env).bind fun (f, env1) => match f with
    | .nx => forL step r env1
    | .ct => forL step r env1
    | .bk => .ok (.nx, env1)
    | .rt w => .ok (.rt w, env1)
def whlL (step : Env → Res (Option Fl × Env)) : Nat → Env → Res (Fl × Env)
  | 0, _ => .bad
  | n + 1, env => (step env).bind fun (f, env1) => match f with
    | none => .ok (.nx, env1)
    | some .nx => whlL step n env1
    | some .ct => whlL step n env1
    | some .bk => .ok (.nx, env1)
    | some (.rt w) => .ok (.rt w, env1)
def compL (step : D → Env → Res (Option D × Env)) : List D → List D → Env → Res (List D × Env)
  | [], acc, env => .ok (acc, env)
  | d :: r, acc, env => (step d env).bind fun (o, env1) => match o with
    | none => compL step r acc env1
    | some x => if acc.length < SL then compL step r (acc ++ [x]) env1 else .bad
def forA (step : D → List D → Env → Res (List D × Env)) : List D → List D → Env → Res (List D × Env)
  | [], acc, env => .ok (acc, env)
  | d :: r, acc, env => (step d acc env).bind fun (acc1, env1) => forA step r acc1 env1
def WF : Nat := 1000000
/-- the attributes of a new instance, behind its class's start -/
def madeOf (c : Str) : Val → List Slot → Option (List (Str × D))
  | .fz .non, .val _ (.oi c' fs) :: _ => if c' = c then some fs else none
  | _, _ => none
mutual
def evE (Γ : Tbl) (cl : Call) : CE → Env → Res (Val × Env)
  | .var i, env => rdVar i env
  | .con d, env => .ok (.fz d, env)
  | .glob x, env => match Γ.cst x with
    | some d => .ok (.fz d, env)
    | none => .bad
  | .prim op es, env => (evAs Γ cl es env).bind fun (as, env1) => (pkArgs env1 as).bind fun ds => (prim op ds).bind fun w => .ok (w, env1)
  | .and a b, env => (evE Γ cl a env).bind fun (w, env1) => match w with
    | .fz (.bl true) => evE Γ cl b env1
    | .fz (.bl false) => .ok (.fz (.bl false), env1)
    | _ => .bad
  | .or a b, env => (evE Γ cl a env).bind fun (w, env1) => match w with
    | .fz (.bl true) => .ok (.fz (.bl true), env1)
    | .fz (.bl false) => evE Γ cl b env1
    | _ => .bad
  | .not a, env => (evE Γ cl a env).bind fun (w, env1) => match w with
    | .fz (.bl c) => .ok (.fz (.bl (!c)), env1)
    | _ => .bad
  | .ite t a b, env => (evE Γ cl t env).bind fun (w, env1) => match w with
    | .fz (.bl true) => evE Γ cl a env1
    | .fz (.bl false) => evE Γ cl b env1
    | _ => .bad
  | .chain o p a b c, env => (evE Γ cl a env).bind fun (x, env1) => (evE Γ cl b env1).bind fun (y, env2) => (prim o [x.frz, y.frz]).bind fun w => match w with
    | .fz (.bl true) => (evE Γ cl c env2).bind fun (z, env3) => (prim p [y.frz, z.frz]).bind fun w => .ok (w, env3)
    | .fz (.bl false) => .ok (.fz (.bl false), env2)
    | _ => .bad
  | .eqc es, env => (evAs Γ cl es env).bind fun (as, env1) => match as with
    | [.val (.fz (.ins c fs)), .val (.fz (.ins e gs))] => (match Γ.eqm c with
      | some f => if c = e then (cl f [.fz (.ins c fs), .fz (.ins e gs)]).bind fun (w, _) => match w with
        | .fz (.bl r) => .ok (.fz (.bl r), env1)
        | _ => .bad else .bad
      | none => .bad)
    | as => (pkArgs env1 as).bind fun ds => (prim .eq ds).bind fun w => .ok (w, env1)
  | .tup es, env => (evVs Γ cl es env).bind fun (ws, env1) => (tup? (ws.map Val.frz)).bind fun w => .ok (w, env1)
  | .lst es, env => (evVs Γ cl es env).bind fun (ws, env1) => (own? (ws.map Val.frz)).bind fun w => .ok (w, env1)
  | .call f es, env => match Γ.fn f with
    | none => .bad
    | some fn => (evAs Γ cl es env).bind fun (as, env1) => (bindCall fn.pins 0 as env1).bind fun (ws, env2) =>
      (cl f ws).bind fun (w, outs) => (backCall fn.pins env1 0 as ws outs env2).bind fun env3 => .ok (w, env3)
  | .make c es, env => match Γ.ini c with
    | none => .bad
    | some f => (evVs Γ cl es env).bind fun (ws, env1) => (cl f (.oi c [] :: ws.map fun w => .fz w.frz)).bind fun (r, outs) => match madeOf c r outs with
      | some fs => .ok (.fz (.ins c fs), env1)
      | none => .bad
  | .mut m i es, env => match env[i]? with
    | some (.val _ (.own _)) => (evVs Γ cl es env).bind fun (ws, env1) => (mutSlot i env1 fun w => mtd m w (ws.map Val.frz)).bind fun (d, env2) => .ok (.fz d, env2)
    | _ => .bad
  | .comp e t k ss c wp, env => (evAs Γ cl ss env).bind fun (as, env1) => (pkArgs env1 as).bind fun ds => (iterOf k ds).bind fun its => (lockArgs as env1).bind fun (sv, env2) =>
    (compL (fun d env => (bindT Γ cl t d (wipeE env wp)).bind fun env3 => (evTs Γ cl c env3).bind fun (b, env4) => match b with
        | true => (evE Γ cl e env4).bind fun (w, env5) => .ok (some w.frz, env5)
        | false => .ok (none, env4)) its [] (wipeE env2 wp)).nox.bind fun (l, env6) =>
      .ok (.own l, unlock sv (restE env2 env6 wp))
  | .comp2 e t k ss c t1 k1 ss1 c1 wp wp1, env => (evAs Γ cl ss env).bind fun (as, env1) => (pkArgs env1 as).bind fun ds => (iterOf k ds).bind fun its => (lockArgs as env1).bind fun (sv, env2) =>
    (forA (fun d acc env => (bindT Γ cl t d (wipeE env wp)).bind fun env3 => (evTs Γ cl c env3).bind fun (b, env4) => match b with
        | true => (evAs Γ cl ss1 env4).bind fun (as1, env5) => (pkArgs env5 as1).bind fun ds1 => (iterOf k1 ds1).bind fun its1 => (lockArgs as1 env5).bind fun (sv1, env6) =>
          (compL (fun d1 env => (bindT Γ cl t1 d1 (wipeE env wp1)).bind fun env7 => (evTs Γ cl c1 env7).bind fun (b1, env8) => match b1 with
            | true => (evE Γ cl e env8).bind fun (w, env9) => .ok (some w.frz, env9)
            | false => .ok (none, env8)) its1 acc (wipeE env6 wp1)).bind fun (l, env10) => .ok (l, unlock sv1 env10)
        | false => .ok (acc, env4)) its [] (wipeE env2 wp)).nox.bind fun (l, env6) =>
      .ok (.own l, unlock sv (restE env2 env6 wp))
/-- arguments: a name that holds a list of its own is told by its place -/
def evAs (Γ : Tbl) (cl : Call) : List CE → Env → Res (List Arg × Env)
  | [], env => .ok ([], env)
  | .var i :: r, env => (argVar i env).bind fun (a, env1) => (evAs Γ cl r env1).bind fun (as, env2) => .ok (a :: as, env2)
  | e :: r, env => (evE Γ cl e env).bind fun (w, env1) => (evAs Γ cl r env1).bind fun (as, env2) => .ok (.val w :: as, env2)
def evVs (Γ : Tbl) (cl : Call) : List CE → Env → Res (List Val × Env)
  | [], env => .ok ([], env)
  | e :: r, env => (evE Γ cl e env).bind fun (w, env1) => (evVs Γ cl r env1).bind fun (ws, env2) => .ok (w :: ws, env2)
/-- the tests of a clause: none or one -/
def evTs (Γ : Tbl) (cl : Call) : List CE → Env → Res (Bool × Env)
  | [], env => .ok (true, env)
  | e :: _, env => (evE Γ cl e env).bind fun (w, env1) => match w with
    | .fz (.bl b) => .ok (b, env1)
    | _ => .bad
def bindT (Γ : Tbl) (cl : Call) : Tg → D → Env → Res Env
  | .nm i, d, env => setSlot i (.fz d) env
  | .tp ts, d, env => match d with
    | .tup l => if l.length = ts.length then bindTs Γ cl ts l env else .bad
    | _ => .bad
  | .sub k e, d, env => match env[k]? with
    | some (.val _ (.own _)) => (evE Γ cl e env).bind fun (i, env1) => (mutSlot k env1 fun w => (setI w i.frz d).bind fun w' => .ok ((), w')).bind fun (_, env2) => .ok env2
    | _ => .bad
def bindTs (Γ : Tbl) (cl : Call) : List Tg → List D → Env → Res Env
  | [], [], env => .ok env
  | t :: ts, d :: ds, env => (bindT Γ cl t d env).bind fun env1 => bindTs Γ cl ts ds env1
  | _, _, _ => .bad
end
def parSet : List Nat → List Val → Env → Res Env
  | [], [], env => .ok env
  | i :: is, w :: ws, env => (setSlot i w env).bind fun env1 => parSet is ws env1
  | _, _, _ => .bad
mutual
def evS (Γ : Tbl) (cl : Call) : CS → Env → Res (Fl × Env)
  | .asg t e, env => match t with
    | .nm i => (evE Γ cl e env).bind fun (w, env1) => (setSlot i w env1).bind fun env2 => .ok (.nx, env2)
    | t => (evE Γ cl e env).bind fun (w, env1) => (bindT Γ cl t w.frz env1).bind fun env2 => .ok (.nx, env2)
  | .par l es, env => (evVs Γ cl es env).bind fun (ws, env1) => (parSet l ws env1).bind fun env2 => .ok (.nx, env2)
  | .aug i op e, env => match env[i]? with
    | some (.val false (.fz (.int x))) => (evE Γ cl e env).bind fun (w, env1) => match w with
      | .fz (.int y) => (match op with
        | .add => Res.ok (x + y)
        | .sub => .ok (x - y)
        | _ => .bad).bind fun z => (setSlot i (.fz (.int z)) env1).bind fun env2 => .ok (.nx, env2)
      | _ => .bad
    | _ => .bad
  | .fset k f e, env => (evE Γ cl e env).bind fun (w, env1) => (mutSlot k env1 fun o => match o with
      | .oi c fs => if (fs.lookup f).isNone && decide (fs.length < 1000) then .ok ((), .oi c (fs ++ [(f, w.frz)])) else .bad
      | _ => .bad).bind fun (_, env2) => .ok (.nx, env2)
  | .expr e, env => (evE Γ cl e env).bind fun (_, env1) => .ok (.nx, env1)
  | .ret e, env => match e with
    | .var i => (mvVar i env).bind fun (w, env1) => .ok (.rt w, env1)
    | e => (evE Γ cl e env).bind fun (w, env1) => .ok (.rt w, env1)
  | .retN, env => .ok (.rt (.fz .non), env)
  | .brk, env => .ok (.bk, env)
  | .cnt, env => .ok (.ct, env)
  | .pass, env => .ok (.nx, env)
  | .raise c es, env => match Γ.exn c with
    | none => .bad
    | some fs => (evVs Γ cl es env).bind fun (ws, _) => if ws.length = fs.length then .exc c (fs.zip (ws.map Val.frz)) else .bad
  | .dput i es, env => match env[i]? with
    | some (.val _ (.odk _)) => (evVs Γ cl es env).bind fun (ws, env1) => (mutSlot i env1 fun u => match ws with
      | [w, k] => (dPutV u k.frz w.frz).bind fun u' => .ok ((), u')
      | _ => .bad).bind fun (_, env2) => .ok (.nx, env2)
    | some (.val _ (.odt _)) => (evVs Γ cl es env).bind fun (ws, env1) => (mutSlot i env1 fun u => match ws with
      | [w, k] => (dPutV u k.frz w.frz).bind fun u' => .ok ((), u')
      | _ => .bad).bind fun (_, env2) => .ok (.nx, env2)
    | _ => .bad
  | .ite t a b, env => (evE Γ cl t env).bind fun (w, env1) => match w with
    | .fz (.bl true) => evSs Γ cl a env1
    | .fz (.bl false) => evSs Γ cl b env1
    | _ => .bad
  | .whl t b, env => whlL (fun env => (evE Γ cl t env).bind fun (w, env1) => match w with
    | .fz (.bl true) => (evSs Γ cl b env1).bind fun (f, env2) => .ok (some f, env2)
    | .fz (.bl false) => .ok (none, env1)
    | _ => .bad) WF env
  | .for t k ss b, env => (evAs Γ cl ss env).bind fun (as, env1) => (pkArgs env1 as).bind fun ds => (iterOf k ds).bind fun its => (lockArgs as env1).bind fun (sv, env2) =>
    (forL (fun d env => (bindT Γ cl t d env).bind fun env3 => evSs Γ cl b env3) its env2).bind fun (f, env4) => .ok (f, unlock sv env4)
def evSs (Γ : Tbl) (cl : Call) : List CS → Env → Res (Fl × Env)
  | [], env => .ok (.nx, env)
  | s :: r, env => (evS Γ cl s env).bind fun (f, env1) => match f with
    | .nx => evSs Γ cl r env1
    | f => .ok (f, env1)
end
def startE (pins : List Nat) : Nat → List Val → Env
  | _, [] => []
  | j, w :: ws => .val (pins.contains j) w :: startE pins (j + 1) ws
def callF (Γ : Tbl) : Nat → Call
  | 0 => fun _ _ => .bad
  | n + 1 => fun f ws => match Γ.fn f with
    | none => .bad
    | some fn => if ws.length = fn.np then
        match evSs Γ (callF Γ n) fn.body (startE fn.pins 0 ws ++ List.replicate (fn.ns - fn.np) .emp) with
        | .ok (.nx, env) => .ok (.fz .non, env.take fn.np)
        | .ok (.rt w, env) => .ok (w, env.take fn.np)
        | .exc c fs => .exc c fs
        | _ => .bad
      else .bad
end Rx

set_option Elab.async false
set_option linter.all false
set_option autoImplicit false
set_option maxRecDepth 100000
namespace Rx
open PySem L2
/-- what the proofs know of the text behind its top -/
structure TX where
  P : Program
  w : World
  K : PySem.W.Frag
  mg : Str → Option Value
  base : Heap
  ca : Str → Option Addr
  xa : Str → Option Addr
abbrev St := L2.St
def Sub (F H : Hp) : Prop := ∀ a o, F a = some o → H a = some o
theorem Sub.refl (F : Hp) : Sub F F := fun _ _ h => h
theorem Sub.trans {F G H : Hp} (a : Sub F G) (b : Sub G H) : Sub F H := fun x o h => b x o (a x o h)
theorem SqT.sub {K : PySem.W.Frag} {F H : Hp} {a : Addr} {xs : List V} (s : Sub F H) (h : SqT K F a xs) : SqT K H a xs := by
  rcases h with (h | ⟨o, h⟩) | h
  · exact .inl (.inl (s _ _ h))
  · exact .inl (.inr ⟨o, s _ _ h⟩)
  · exact .inr h
theorem SqL.sub {K : PySem.W.Frag} {F H : Hp} {a : Addr} {xs : List V} (s : Sub F H) (h : SqL K F a xs) : SqL K H a xs := by
  rcases h with (h | ⟨o, h⟩) | h
  · exact .inl (.inl (s _ _ h))
  · exact .inl (.inr ⟨o, s _ _ h⟩)
  · exact .inr h
section
variable (T : TX) (F : Hp)
mutual
/-- the value v is the plain datum d, all within the part F of the heap that is done with -/
def Rz : D → V → Prop
  | .non, v => v = .non
  | .bl b, v => v = .bl b
  | .int i, v => v = .int i
  | .str x, v => v = .str x
  | .tup l, v => ∃ a xs, v = .ref a ∧ F a = some (.tup xs) ∧ Rzs l xs
  | .lst l, v => ∃ a xs, v = .ref a ∧ F a = some (.lst xs) ∧ Rzs l xs
  | .scr l, v => ∃ a, v = .ref a ∧ SqL T.K F a (l.map V.int)
  | .dk l, v => ∃ a xs, v = .ref a ∧ F a = some (.dK xs) ∧ Rzk l xs
  | .dt l, v => ∃ a xs, v = .ref a ∧ F a = some (.dT xs) ∧ Rzt l xs
  | .ins c fs, v => ∃ a C dx xs, v = .ref a ∧ T.ca c = some C ∧ F a = some (.ins C dx xs) ∧ Rzf fs xs
def Rzs : List D → List V → Prop
  | [], xs => xs = []
  | d :: l, xs => ∃ x r, xs = x :: r ∧ Rz d x ∧ Rzs l r
def Rzf : List (Str × D) → List (Str × V) → Prop
  | [], xs => xs = []
  | (f, d) :: l, xs => ∃ x r, xs = (f, x) :: r ∧ Rz d x ∧ Rzf l r
def Rzk : List (DKey × D) → List (Key × V) → Prop
  | [], xs => xs = []
  | (f, d) :: l, xs => ∃ x r, xs = (f, x) :: r ∧ Rz d x ∧ Rzk l r
def Rzt : List (List DKey × D) → List (List Key × V) → Prop
  | [], xs => xs = []
  | (f, d) :: l, xs => ∃ x r, xs = (f, x) :: r ∧ Rz d x ∧ Rzt l r
end
end
section
variable {T : TX} {F F' H : Hp}
mutual
theorem Rz.sub (s : Sub F F') : ∀ (d : D) (v : V), Rz T F d v → Rz T F' d v
  | .non, _, h => h
  | .bl _, _, h => h
  | .int _, _, h => h
  | .str _, _, h => h
  | .tup l, _, h => by
    obtain ⟨a, xs, e, q, r⟩ := h
    exact ⟨a, xs, e, s _ _ q, Rzs.sub s l xs r⟩
  | .lst l, _, h => by
    obtain ⟨a, xs, e, q, r⟩ := h
    exact ⟨a, xs, e, s _ _ q, Rzs.sub s l xs r⟩
  | .scr l, _, h => by
    obtain ⟨a, e, q⟩ := h
    exact ⟨a, e, SqL.sub s q⟩
  | .dk l, _, h => by
    obtain ⟨a, xs, e, q, r⟩ := h
    exact ⟨a, xs, e, s _ _ q, Rzk.sub s l xs r⟩
  | .dt l, _, h => by
    obtain ⟨a, xs, e, q, r⟩ := h
    exact ⟨a, xs, e, s _ _ q, Rzt.sub s l xs r⟩
  | .ins c fs, _, h => by
    obtain ⟨a, C, dx, xs, e, c1, q, r⟩ := h
    exact ⟨a, C, dx, xs, e, c1, s _ _ q, Rzf.sub s fs xs r⟩
theorem Rzs.sub (s : Sub F F') : ∀ (l : List D) (xs : List V), Rzs T F l xs → Rzs T F' l xs
  | [], _, h => h
  | d :: l, _, h => by
    obtain ⟨x, r, e, q, t⟩ := h
    exact ⟨x, r, e, Rz.sub s d x q, Rzs.sub s l r t⟩
theorem Rzf.sub (s : Sub F F') : ∀ (l : List (Str × D)) (xs : List (Str × V)), Rzf T F l xs → Rzf T F' l xs
  | [], _, h => h
  | (f, d) :: l, _, h => by
    obtain ⟨x, r, e, q, t⟩ := h
    exact ⟨x, r, e, Rz.sub s d x q, Rzf.sub s l r t⟩
theorem Rzk.sub (s : Sub F F') : ∀ (l : List (DKey × D)) (xs : List (Key × V)), Rzk T F l xs → Rzk T F' l xs
  | [], _, h => h
  | (f, d) :: l, _, h => by
    obtain ⟨x, r, e, q, t⟩ := h
    exact ⟨x, r, e, Rz.sub s d x q, Rzk.sub s l r t⟩
theorem Rzt.sub (s : Sub F F') : ∀ (l : List (List DKey × D)) (xs : List (List Key × V)), Rzt T F l xs → Rzt T F' l xs
  | [], _, h => h
  | (f, d) :: l, _, h => by
    obtain ⟨x, r, e, q, t⟩ := h
    exact ⟨x, r, e, Rz.sub s d x q, Rzt.sub s l r t⟩
end
/-- a dict's pairs, whatever its keys are -/
def Rzg (T : TX) (F : Hp) {κ : Type} : List (κ × D) → List (κ × V) → Prop
  | [], xs => xs = []
  | (f, d) :: l, xs => ∃ x r, xs = (f, x) :: r ∧ Rz T F d x ∧ Rzg T F l r
theorem Rzk.g : ∀ {l : List (DKey × D)} {xs : List (Key × V)}, Rzk T F l xs ↔ Rzg T F l xs
  | [], _ => Iff.rfl
  | (f, d) :: l, _ => by
    constructor
    · rintro ⟨x, r, e, q, t⟩
      exact ⟨x, r, e, q, Rzk.g.mp t⟩
    · rintro ⟨x, r, e, q, t⟩
      exact ⟨x, r, e, q, Rzk.g.mpr t⟩
theorem Rzt.g : ∀ {l : List (List DKey × D)} {xs : List (List Key × V)}, Rzt T F l xs ↔ Rzg T F l xs
  | [], _ => Iff.rfl
  | (f, d) :: l, _ => by
    constructor
    · rintro ⟨x, r, e, q, t⟩
      exact ⟨x, r, e, q, Rzt.g.mp t⟩
    · rintro ⟨x, r, e, q, t⟩
      exact ⟨x, r, e, q, Rzt.g.mpr t⟩
theorem Rzs.nil : Rzs T F [] [] := rfl
theorem Rzs.cons {d : D} {l : List D} {x : V} {xs : List V} (h : Rz T F d x) (t : Rzs T F l xs) : Rzs T F (d :: l) (x :: xs) := ⟨x, xs, rfl, h, t⟩
theorem Rzs.cons_inv {d : D} {l : List D} {xs : List V} (h : Rzs T F (d :: l) xs) : ∃ x r, xs = x :: r ∧ Rz T F d x ∧ Rzs T F l r := h
theorem Rzs.len : ∀ {l : List D} {xs : List V}, Rzs T F l xs → l.length = xs.length
  | [], _, h => by
    rw [show _ = ([] : List V) from h]
    rfl
  | d :: l, _, h => by
    obtain ⟨x, r, rfl, _, t⟩ := h
    simp only [List.length_cons, Rzs.len t]
theorem Rzs.get : ∀ {l : List D} {xs : List V} {i : Nat} {d : D}, Rzs T F l xs → l[i]? = some d → ∃ x, xs[i]? = some x ∧ Rz T F d x
  | [], _, _, _, _, e => by simp at e
  | d :: l, _, 0, _, h, e => by
    obtain ⟨x, r, rfl, q, t⟩ := h
    simp only [List.getElem?_cons_zero, Option.some.injEq] at e
    subst e
    exact ⟨x, rfl, q⟩
  | d :: l, _, i + 1, _, h, e => by
    obtain ⟨x, r, rfl, q, t⟩ := h
    simp only [List.getElem?_cons_succ] at e
    obtain ⟨y, e1, q1⟩ := Rzs.get t e
    exact ⟨y, by simpa using e1, q1⟩
theorem Rzs.get' : ∀ {l : List D} {xs : List V} {i : Nat} {x : V}, Rzs T F l xs → xs[i]? = some x → ∃ d, l[i]? = some d ∧ Rz T F d x
  | [], _, _, _, h, e => by
    rw [show _ = ([] : List V) from h] at e
    simp at e
  | d :: l, _, 0, _, h, e => by
    obtain ⟨x, r, rfl, q, t⟩ := h
    simp only [List.getElem?_cons_zero, Option.some.injEq] at e
    subst e
    exact ⟨d, rfl, q⟩
  | d :: l, _, i + 1, _, h, e => by
    obtain ⟨x, r, rfl, q, t⟩ := h
    simp only [List.getElem?_cons_succ] at e
    obtain ⟨y, e1, q1⟩ := Rzs.get' t e
    exact ⟨y, by simpa using e1, q1⟩
theorem Rzs.app : ∀ {l m : List D} {xs ys : List V}, Rzs T F l xs → Rzs T F m ys → Rzs T F (l ++ m) (xs ++ ys)
  | [], _, _, _, h, k => by
    rw [show _ = ([] : List V) from h]
    exact k
  | d :: l, _, _, _, h, k => by
    obtain ⟨x, r, rfl, q, t⟩ := h
    exact ⟨x, _, rfl, q, Rzs.app t k⟩
theorem Rzs.take : ∀ {l : List D} {xs : List V} (n : Nat), Rzs T F l xs → Rzs T F (l.take n) (xs.take n)
  | _, _, 0, _ => rfl
  | [], _, n + 1, h => by
    rw [show _ = ([] : List V) from h]
    rfl
  | d :: l, _, n + 1, h => by
    obtain ⟨x, r, rfl, q, t⟩ := h
    exact ⟨x, _, rfl, q, Rzs.take n t⟩
theorem Rzs.drop : ∀ {l : List D} {xs : List V} (n : Nat), Rzs T F l xs → Rzs T F (l.drop n) (xs.drop n)
  | _, _, 0, h => h
  | [], _, n + 1, h => by
    rw [show _ = ([] : List V) from h]
    rfl
  | d :: l, _, n + 1, h => by
    obtain ⟨x, r, rfl, q, t⟩ := h
    exact Rzs.drop n t
theorem Rzs.set : ∀ {l : List D} {xs : List V} {d : D} {x : V} (i : Nat), Rzs T F l xs → Rz T F d x → Rzs T F (l.set i d) (xs.set i x)
  | [], _, _, _, i, h, k => by
    rw [show _ = ([] : List V) from h]
    rfl
  | e :: l, _, _, _, 0, h, k => by
    obtain ⟨x, r, rfl, q, t⟩ := h
    exact ⟨_, _, rfl, k, t⟩
  | e :: l, _, _, _, i + 1, h, k => by
    obtain ⟨x, r, rfl, q, t⟩ := h
    exact ⟨_, _, rfl, q, Rzs.set i t k⟩
theorem Rzs.erase : ∀ {l : List D} {xs : List V} (i : Nat), Rzs T F l xs → Rzs T F (l.eraseIdx i) (xs.eraseIdx i)
  | [], _, i, h => by
    rw [show _ = ([] : List V) from h]
    rfl
  | e :: l, _, 0, h => by
    obtain ⟨x, r, rfl, q, t⟩ := h
    exact t
  | e :: l, _, i + 1, h => by
    obtain ⟨x, r, rfl, q, t⟩ := h
    exact ⟨_, _, rfl, q, Rzs.erase i t⟩
theorem Rzs.dropLast {l : List D} {xs : List V} (h : Rzs T F l xs) : Rzs T F l.dropLast xs.dropLast := by
  rw [List.dropLast_eq_take, List.dropLast_eq_take, h.len]
  exact h.take _
theorem Rzs.rep {l : List D} {xs : List V} (h : Rzs T F l xs) : ∀ k : Nat, Rzs T F (List.replicate k l).flatten (List.replicate k xs).flatten
  | 0 => rfl
  | k + 1 => by
    rw [List.replicate_succ, List.replicate_succ, List.flatten_cons, List.flatten_cons]
    exact h.app (Rzs.rep h k)
theorem Rzs.cut {l : List D} {xs : List V} (h : Rzs T F l xs) (lo hi : Option Int) : Rzs T F (cut l lo hi) (cutV xs lo hi) := by
  unfold Rx.cut cutV
  rw [← h.len]
  exact (h.drop _).take _
theorem Rzs.ints : ∀ {ns : List Int} {xs : List V}, Rzs T F (ns.map D.int) xs → xs = ns.map V.int
  | [], _, h => h
  | n :: ns, _, h => by
    obtain ⟨x, r, rfl, q, t⟩ := h
    rw [show x = V.int n from q, Rzs.ints t]
    rfl
theorem Rzs.ofInts : ∀ (ns : List Int), Rzs T F (ns.map D.int) (ns.map V.int)
  | [] => rfl
  | n :: ns => ⟨_, _, rfl, rfl, Rzs.ofInts ns⟩
theorem Rzf.lookup : ∀ {l : List (Str × D)} {xs : List (Str × V)} {f : Str} {d : D}, Rzf T F l xs → l.lookup f = some d → ∃ x, xs.lookup f = some x ∧ Rz T F d x
  | [], _, _, _, _, e => by simp at e
  | (g, d) :: l, _, f, _, h, e => by
    obtain ⟨x, r, rfl, q, t⟩ := h
    rw [List.lookup_cons] at e ⊢
    cases hg : f == g with
    | true =>
      rw [hg] at e
      simp only [Option.some.injEq] at e
      subst e
      exact ⟨x, rfl, q⟩
    | false =>
      rw [hg] at e
      exact Rzf.lookup t e
theorem Rzf.lookup_none : ∀ {l : List (Str × D)} {xs : List (Str × V)} {f : Str}, Rzf T F l xs → l.lookup f = none → xs.lookup f = none
  | [], _, _, h, _ => by
    rw [show _ = ([] : List (Str × V)) from h]
    rfl
  | (g, d) :: l, _, f, h, e => by
    obtain ⟨x, r, rfl, q, t⟩ := h
    rw [List.lookup_cons] at e ⊢
    cases hg : f == g with
    | true =>
      rw [hg] at e
      cases e
    | false =>
      rw [hg] at e
      exact Rzf.lookup_none t e
theorem Rzf.len : ∀ {l : List (Str × D)} {xs : List (Str × V)}, Rzf T F l xs → l.length = xs.length
  | [], _, h => by rw [show _ = ([] : List (Str × V)) from h]; rfl
  | (f, d) :: l, _, h => by
    obtain ⟨x, r, rfl, _, t⟩ := h
    simp only [List.length_cons, Rzf.len t]
theorem Rzf.app : ∀ {l m : List (Str × D)} {xs ys : List (Str × V)}, Rzf T F l xs → Rzf T F m ys → Rzf T F (l ++ m) (xs ++ ys)
  | [], _, _, _, h, k => by
    rw [show _ = ([] : List (Str × V)) from h]
    exact k
  | (f, d) :: l, _, _, _, h, k => by
    obtain ⟨x, r, rfl, q, t⟩ := h
    exact ⟨x, _, rfl, q, Rzf.app t k⟩
end

/-! ### the places of a def and what they own -/
/-- what a place holds, by its slot -/
def Sl (T : TX) (F H : Hp) : Val → V → Prop
  | .fz d, v => Rz T F d v
  | .own l, v => ∃ a xs, v = .ref a ∧ H a = some (.lst xs) ∧ Rzs T F l xs ∧ F a = none
  | .odk l, v => ∃ a xs, v = .ref a ∧ H a = some (.dK xs) ∧ Rzk T F l xs ∧ F a = none
  | .odt l, v => ∃ a xs, v = .ref a ∧ H a = some (.dT xs) ∧ Rzt T F l xs ∧ F a = none
  | .oi c fs, v => ∃ a C dx xs, v = .ref a ∧ T.ca c = some C ∧ H a = some (.ins C dx xs) ∧ Rzf T F fs xs ∧ F a = none
def SlO (T : TX) (F H : Hp) : Slot → Option V → Prop
  | .val _ w, o => ∃ v, o = some v ∧ Sl T F H w v
  | _, _ => True
def OwnK (env : Env) (k : Nat) : Prop := ∃ (p : Bool) (w : Val), env[k]? = some (Slot.val p w) ∧ w.isFz = false
def Owns (σ : St) (env : Env) (a : Addr) : Prop := ∃ k : Nat, OwnK env k ∧ σ[k]? = some (some (.ref a))
/-- how a place is bound: 0 free, 1 pinned, 2 locked -/
def pst : Option Slot → Nat
  | some Slot.lck => 2
  | some (Slot.val true _) => 1
  | _ => 0
structure Stk (T : TX) (F H : Hp) (σ : St) (env : Env) : Prop where
  sub : Sub F H
  len : env.length = σ.length
  sl : ∀ (k : Nat) (p : Bool) (w : Val), env[k]? = some (Slot.val p w) → ∃ v, σ[k]? = some (some v) ∧ Sl T F H w v
  inj : ∀ (k j : Nat) (a : Addr), OwnK env k → OwnK env j → σ[k]? = some (some (.ref a)) → σ[j]? = some (some (.ref a)) → k = j
/-- at a there stands nothing, or a tuple (which nobody changes) -/
def NT (H : Hp) (a : Addr) : Prop := ∀ o, H a = some o → ∃ xs, o = HO.tup xs
theorem NT.none {H : Hp} {a : Addr} (h : H a = none) : NT H a := fun o e => by rw [h] at e; cases e
structure Pt (T : TX) (σ : St) (F H : Hp) (env : Env) (F' H' : Hp) (env' : Env) : Prop where
  st : Stk T F' H' σ env'
  mono : Sub F F'
  grow : ∀ a, F a = none → F' a ≠ none → Owns σ env a ∨ NT H a
  keep : ∀ a o, H a = some o → ¬ Owns σ env a → H' a = some o
  there : ∀ a, H a ≠ none → H' a ≠ none
  ownk : ∀ k, OwnK env' k → OwnK env k
  pin : ∀ (k : Nat), pst env'[k]? = pst env[k]?
/-- a value on its way -/
structure Tm (T : TX) (σ : St) (F H : Hp) (env : Env) (w : Val) (v : V) : Prop where
  sl : Sl T F H w v
  no : w.isFz = false → ∀ a, v = .ref a → ¬ Owns σ env a
/-- .. which comes from what was owned, or is new -/
def Fresh (σ : St) (H0 : Hp) (env0 : Env) (w : Val) (v : V) : Prop := w.isFz = false → ∀ a, v = .ref a → H0 a = none ∨ Owns σ env0 a

section
variable {T : TX} {σ : St} {F H F' H' F'' H'' : Hp} {env env' env'' : Env}
theorem Pt.own (p : Pt T σ F H env F' H' env') (a : Addr) (h : Owns σ env' a) : Owns σ env a := by
  obtain ⟨k, hk, e⟩ := h
  exact ⟨k, p.ownk k hk, e⟩
theorem Pt.refl (s : Stk T F H σ env) : Pt T σ F H env F H env :=
  ⟨s, Sub.refl _, fun a e n => absurd e n, fun a o e _ => e, fun _ h => h, fun _ h => h, fun _ => rfl⟩
theorem Pt.trans (a : Pt T σ F H env F' H' env') (b : Pt T σ F' H' env' F'' H'' env'') : Pt T σ F H env F'' H'' env'' where
  st := b.st
  mono := a.mono.trans b.mono
  grow := fun x e n => by
    by_cases q : F' x = none
    · rcases b.grow x q n with h | h
      · exact .inl (a.own x h)
      · by_cases r : Owns σ env x
        · exact .inl r
        · exact .inr fun o ho => h o (a.keep x o ho r)
    · exact a.grow x e q
  keep := fun x o e n => b.keep x o (a.keep x o e n) fun h => n (a.own x h)
  there := fun x h => b.there x (a.there x h)
  ownk := fun x h => a.ownk x (b.ownk x h)
  pin := fun k => (b.pin k).trans (a.pin k)
/-- a tracked object that the places do not own stays -/
theorem Pt.stays (p : Pt T σ F H env F' H' env') {a : Addr} {o : HO} (e : H a = some o) (n : ¬ Owns σ env a) (f : F a = none) (nt : ∀ xs, o ≠ HO.tup xs) : H' a = some o ∧ F' a = none := by
  refine ⟨p.keep a o e n, ?_⟩
  by_cases q : F' a = none
  · exact q
  · rcases p.grow a f q with h | h
    · exact absurd h n
    · obtain ⟨xs, z⟩ := h o e
      exact absurd z (nt xs)
theorem Sl.moves {w : Val} {v : V} (s : Sl T F H w v) (m : Sub F F') (k : w.isFz = false → ∀ a o, v = .ref a → H a = some o → F a = none → (∀ xs, o ≠ HO.tup xs) → H' a = some o ∧ F' a = none) : Sl T F' H' w v := by
  cases w with
  | fz d => exact Rz.sub m d v s
  | own l =>
    obtain ⟨a, xs, e, h, r, f⟩ := s
    obtain ⟨h', f'⟩ := k rfl a _ e h f (fun xs z => by cases z)
    exact ⟨a, xs, e, h', Rzs.sub m l xs r, f'⟩
  | odk l =>
    obtain ⟨a, xs, e, h, r, f⟩ := s
    obtain ⟨h', f'⟩ := k rfl a _ e h f (fun xs z => by cases z)
    exact ⟨a, xs, e, h', Rzk.sub m l xs r, f'⟩
  | odt l =>
    obtain ⟨a, xs, e, h, r, f⟩ := s
    obtain ⟨h', f'⟩ := k rfl a _ e h f (fun xs z => by cases z)
    exact ⟨a, xs, e, h', Rzt.sub m l xs r, f'⟩
  | oi c fs =>
    obtain ⟨a, C, dx, xs, e, c1, h, r, f⟩ := s
    obtain ⟨h', f'⟩ := k rfl a _ e h f (fun xs z => by cases z)
    exact ⟨a, C, dx, xs, e, c1, h', Rzf.sub m fs xs r, f'⟩
theorem Tm.stays {w : Val} {v : V} (t : Tm T σ F H env w v) (p : Pt T σ F H env F' H' env') : Tm T σ F' H' env' w v where
  sl := t.sl.moves p.mono fun h a o e q f nt => p.stays q (t.no h a e) f nt
  no := fun h a e q => t.no h a e (p.own a q)
theorem Sl.ref {w : Val} {v : V} (s : Sl T F H w v) (h : w.isFz = false) : ∃ a, v = .ref a ∧ H a ≠ none ∧ F a = none := by
  cases w with
  | fz d => cases h
  | own l =>
    obtain ⟨a, xs, e, q, r, f⟩ := s
    exact ⟨a, e, by rw [q]; simp, f⟩
  | odk l =>
    obtain ⟨a, xs, e, q, r, f⟩ := s
    exact ⟨a, e, by rw [q]; simp, f⟩
  | odt l =>
    obtain ⟨a, xs, e, q, r, f⟩ := s
    exact ⟨a, e, by rw [q]; simp, f⟩
  | oi c fs =>
    obtain ⟨a, C, dx, xs, e, c1, q, r, f⟩ := s
    exact ⟨a, e, by rw [q]; simp, f⟩
theorem Fresh.fz (d : D) (v : V) : Fresh σ H env (.fz d) v := fun h => by cases h
theorem Tm.fz {d : D} {v : V} (h : Rz T F d v) : Tm T σ F H env (.fz d) v := ⟨h, fun q => by cases q⟩
theorem Fresh.pre {w : Val} {v : V} (p : Pt T σ F H env F' H' env') (h : Fresh σ H' env' w v) : Fresh σ H env w v := fun q a e => by
  rcases h q a e with r | r
  · by_cases x : H a = none
    · exact .inl x
    · exact absurd r (p.there a x)
  · exact .inr (p.own a r)
/-- F with one more object that is done with -/
def addF (F : Hp) (a : Addr) (o : HO) : Hp := upd F a o
theorem sub_add {F : Hp} {a : Addr} {o : HO} (f : F a = none) : Sub F (upd F a o) := fun b u e => by
  by_cases h : b = a
  · subst h
    rw [f] at e
    cases e
  · rw [upd_ne h]
    exact e
theorem sub_upd {F H : Hp} {a : Addr} {o : HO} (s : Sub F H) (e : H a = some o) : Sub (upd F a o) H := fun b u q => by
  by_cases h : b = a
  · subst h
    rw [upd_same] at q
    cases q
    exact e
  · rw [upd_ne h] at q
    exact s b u q
/-- what a value is when nobody changes it any more -/
theorem Sl.freeze {w : Val} {v : V} (s : Sl T F H w v) (hs : Sub F H) : ∃ F', Sub F F' ∧ Sub F' H ∧ Rz T F' w.frz v ∧ ∀ a, F' a ≠ none → F a ≠ none ∨ (w.isFz = false ∧ v = .ref a) := by
  cases w with
  | fz d => exact ⟨F, Sub.refl _, hs, s, fun a h => .inl h⟩
  | own l =>
    obtain ⟨a, xs, e, h, r, f⟩ := s
    refine ⟨upd F a (.lst xs), sub_add f, sub_upd hs h, ⟨a, xs, e, upd_same, Rzs.sub (sub_add f) l xs r⟩, fun b q => ?_⟩
    by_cases hb : b = a
    · exact .inr ⟨rfl, by rw [hb]; exact e⟩
    · rw [upd_ne hb] at q
      exact .inl q
  | odk l =>
    obtain ⟨a, xs, e, h, r, f⟩ := s
    refine ⟨upd F a (.dK xs), sub_add f, sub_upd hs h, ⟨a, xs, e, upd_same, Rzk.sub (sub_add f) l xs r⟩, fun b q => ?_⟩
    by_cases hb : b = a
    · exact .inr ⟨rfl, by rw [hb]; exact e⟩
    · rw [upd_ne hb] at q
      exact .inl q
  | odt l =>
    obtain ⟨a, xs, e, h, r, f⟩ := s
    refine ⟨upd F a (.dT xs), sub_add f, sub_upd hs h, ⟨a, xs, e, upd_same, Rzt.sub (sub_add f) l xs r⟩, fun b q => ?_⟩
    by_cases hb : b = a
    · exact .inr ⟨rfl, by rw [hb]; exact e⟩
    · rw [upd_ne hb] at q
      exact .inl q
  | oi c fs =>
    obtain ⟨a, C, dx, xs, e, c1, h, r, f⟩ := s
    refine ⟨upd F a (.ins C dx xs), sub_add f, sub_upd hs h, ⟨a, C, dx, xs, e, c1, upd_same, Rzf.sub (sub_add f) fs xs r⟩, fun b q => ?_⟩
    by_cases hb : b = a
    · exact .inr ⟨rfl, by rw [hb]; exact e⟩
    · rw [upd_ne hb] at q
      exact .inl q

theorem OwnK.set {i k : Nat} {s : Slot} (h : OwnK (env.set i s) k) : (k = i ∧ ∃ p w, s = Slot.val p w ∧ w.isFz = false) ∨ (k ≠ i ∧ OwnK env k) := by
  obtain ⟨p, w, e, f⟩ := h
  by_cases hk : i = k
  · subst hk
    rw [List.getElem?_set] at e
    simp only [if_true] at e
    by_cases hl : i < env.length
    · rw [if_pos hl] at e
      exact .inl ⟨rfl, p, w, Option.some.inj e, f⟩
    · rw [if_neg hl] at e
      cases e
  · rw [List.getElem?_set_ne hk] at e
    exact .inr ⟨fun z => hk z.symm, p, w, e, f⟩
theorem Owns.set {i : Nat} {s : Slot} {a : Addr} (h : Owns σ (env.set i s) a) : (σ[i]? = some (some (.ref a)) ∧ ∃ p w, s = Slot.val p w ∧ w.isFz = false) ∨ Owns σ env a := by
  obtain ⟨k, hk, e⟩ := h
  rcases hk.set with ⟨rfl, q⟩ | ⟨hn, q⟩
  · exact .inl ⟨e, q⟩
  · exact .inr ⟨k, q, e⟩
theorem OwnK.drop {i k : Nat} {s : Slot} (h : ∀ p w, s = Slot.val p w → w.isFz = true) (q : OwnK (env.set i s) k) : OwnK env k := by
  rcases q.set with ⟨_, p, w, e, f⟩ | ⟨_, q⟩
  · rw [h p w e] at f
    cases f
  · exact q
/-- a place gives up what it owns: it is empty, locked, or holds plain data -/
theorem Stk.drop {i : Nat} {s : Slot} (st : Stk T F H σ env) (h : ∀ p w, s = Slot.val p w → w.isFz = true ∧ ∃ v, σ[i]? = some (some v) ∧ Sl T F H w v) : Stk T F H σ (env.set i s) where
  sub := st.sub
  len := by rw [List.length_set]; exact st.len
  sl := fun k p w e => by
    by_cases hk : i = k
    · subst hk
      rw [List.getElem?_set] at e
      simp only [if_true] at e
      by_cases hl : i < env.length
      · rw [if_pos hl] at e
        exact (h p w (Option.some.inj e)).2
      · rw [if_neg hl] at e
        cases e
    · rw [List.getElem?_set_ne hk] at e
      exact st.sl k p w e
  inj := fun k j a hk hj e1 e2 => by
    have no : ∀ {k}, OwnK (env.set i s) k → OwnK env k := fun {k} q => by
      rcases q.set with ⟨_, p, w, e, f⟩ | ⟨_, q⟩
      · rw [(h p w e).1] at f
        cases f
      · exact q
    exact st.inj k j a (no hk) (no hj) e1 e2
theorem Owns.drop {i : Nat} {s : Slot} {a : Addr} (h : ∀ p w, s = Slot.val p w → w.isFz = true) (q : Owns σ (env.set i s) a) : Owns σ env a := by
  rcases q.set with ⟨_, p, w, e, f⟩ | q
  · rw [h p w e] at f
    cases f
  · exact q
/-- more is done with: nothing that a place owns -/
theorem Stk.more (st : Stk T F H σ env) (m : Sub F F') (s : Sub F' H) (n : ∀ a, Owns σ env a → F' a = none) : Stk T F' H σ env where
  sub := s
  len := st.len
  sl := fun k p w e => by
    obtain ⟨v, q, r⟩ := st.sl k p w e
    refine ⟨v, q, r.moves m fun hf a o ea ho hF _ => ⟨ho, n a ⟨k, ⟨p, w, e, hf⟩, by rw [q, ea]⟩⟩⟩
  inj := st.inj
end
end Rx

set_option Elab.async false
set_option linter.all false
set_option autoImplicit false
set_option maxRecDepth 100000
namespace Rx
open PySem L2
/-- what is known of an outcome -/
def Res.Post {α : Type} (r : Res α) (K : α → Prop) (X : Str → List (Str × D) → Prop) : Prop :=
  match r with
  | .ok a => K a
  | .exc c fs => X c fs
  | .bad => False
theorem Res.Post.bind {α β : Type} {x : Res α} {f : α → Res β} {K : β → Prop} {X : Str → List (Str × D) → Prop} (h : (x.bind f).Post K X) : x.Post (fun a => (f a).Post K X) X := by
  cases x <;> exact h
theorem Res.Post.mono {α : Type} {x : Res α} {K K' : α → Prop} {X X' : Str → List (Str × D) → Prop} (h : x.Post K X) (k : ∀ a, K a → K' a) (e : ∀ c fs, X c fs → X' c fs) : x.Post K' X' := by
  cases x with
  | ok a => exact k a h
  | exc c fs => exact e c fs h
  | bad => exact h
theorem Res.Post.nox {α : Type} {x : Res α} {K : α → Prop} {X : Str → List (Str × D) → Prop} (h : x.nox.Post K X) (X' : Str → List (Str × D) → Prop) : x.Post K X' := by
  cases x with
  | ok a => exact h
  | exc c fs => exact h.elim
  | bad => exact h
/-- an error's own dict -/
def XD (T : TX) (fs : List (Str × D)) (d : Option Addr) (H : Hp) : Prop :=
  fs = [] ∨ ∃ dd xs, d = some dd ∧ H dd = some (exd dd xs) ∧ Rzf T (fun _ => none) fs xs
structure Xt (T : TX) (σ : St) (H : Hp) (env : Env) (c : Str) (fs : List (Str × D)) (cls : Value) (d : Option Addr) (H' : Hp) : Prop where
  cls : ∃ C, T.xa c = some C ∧ cls = .ref C
  keep : ∀ a o, H a = some o → ¬ Owns σ env a → H' a = some o
  there : ∀ a, H a ≠ none → H' a ≠ none
  dat : XD T fs d H'
/-- what is wished of an exception that comes from (H, env) -/
def XW (T : TX) (E : XK) (σ : St) (H : Hp) (env : Env) (c : Str) (fs : List (Str × D)) : Prop := ∀ cls d H', Xt T σ H env c fs cls d H' → E cls d H'
section
variable {T : TX} {E : XK} {σ : St} {F H F' H' : Hp} {env env' : Env}
theorem XW.pt (p : Pt T σ F H env F' H' env') {c : Str} {fs : List (Str × D)} (h : XW T E σ H env c fs) : XW T E σ H' env' c fs := fun cls d H2 x =>
  h cls d H2 ⟨x.cls, fun a o e n => x.keep a o (p.keep a o e n) fun q => n (p.own a q), fun a q => x.there a (p.there a q), x.dat⟩
/-- what an argument is -/
def AA (T : TX) (σ : St) (F H : Hp) (env : Env) : Arg → V → Prop
  | .val w, v => Tm T σ F H env w v
  | .ref i, v => σ[i]? = some (some v)
/-- the addresses of the arguments that nobody else holds -/
def TmpA : List Arg → List V → Addr → Prop
  | .val w :: as, v :: vs, x => (w.isFz = false ∧ v = .ref x) ∨ TmpA as vs x
  | .ref _ :: as, _ :: vs, x => TmpA as vs x
  | _, _, _ => False
def Args (T : TX) (σ : St) (F H : Hp) (env : Env) : List Arg → List V → Prop
  | [], vs => vs = []
  | a :: as, vs => ∃ v r, vs = v :: r ∧ AA T σ F H env a v ∧ Args T σ F H env as r ∧ ∀ w x, a = .val w → w.isFz = false → v = .ref x → ¬ TmpA as r x
theorem AA.stays {a : Arg} {v : V} (t : AA T σ F H env a v) (p : Pt T σ F H env F' H' env') : AA T σ F' H' env' a v := by
  cases a with
  | val w => exact Tm.stays t p
  | ref i => exact t
theorem Args.stays (p : Pt T σ F H env F' H' env') : ∀ {as : List Arg} {vs : List V}, Args T σ F H env as vs → Args T σ F' H' env' as vs
  | [], _, h => h
  | a :: as, _, h => by
    obtain ⟨v, r, e, q, t, d⟩ := h
    exact ⟨v, r, e, q.stays p, Args.stays p t, d⟩
theorem Args.tmp : ∀ {as : List Arg} {vs : List V} {x : Addr}, Args T σ F H env as vs → TmpA as vs x → H x ≠ none ∧ F x = none ∧ ¬ Owns σ env x
  | [], _, _, h, q => by
    rw [show _ = ([] : List V) from h] at q
    exact q.elim
  | .val w :: as, _, x, h, q => by
    obtain ⟨v, r, rfl, k, t, d⟩ := h
    rcases q with ⟨hw, e⟩ | q
    · obtain ⟨a, e1, h1, f1⟩ := Sl.ref k.sl hw
      rw [e] at e1
      cases e1
      exact ⟨h1, f1, k.no hw x e⟩
    · exact Args.tmp t q
  | .ref i :: as, _, x, h, q => by
    obtain ⟨v, r, rfl, k, t, d⟩ := h
    exact Args.tmp t q

/-! ### readings -/
variable (T) (E)
/-- an expression's reading t says what the evaluator's f does -/
def RdE (f : Env → Res (Val × Env)) (t : TE) : Prop := ∀ (σ : St) (F H : Hp) (env : Env) (Q : VK), Stk T F H σ env →
  (f env).Post (fun r => ∀ v F' H', Pt T σ F H env F' H' r.2 → Tm T σ F' H' r.2 r.1 v → Fresh σ H env r.1 v → Q v H') (XW T E σ H env) → t σ H Q
def RdG (f : Env → Res (Arg × Env)) (t : TE) : Prop := ∀ (σ : St) (F H : Hp) (env : Env) (Q : VK), Stk T F H σ env →
  (f env).Post (fun r => ∀ v F' H', Pt T σ F H env F' H' r.2 → AA T σ F' H' r.2 r.1 v → (∀ w, r.1 = .val w → Fresh σ H env w v) → Q v H') (XW T E σ H env) → t σ H Q
def RdA (f : Env → Res (List Arg × Env)) (t : TA) : Prop := ∀ (σ : St) (F H : Hp) (env : Env) (Q : List V → Hp → Prop), Stk T F H σ env →
  (f env).Post (fun r => ∀ vs F' H', Pt T σ F H env F' H' r.2 → Args T σ F' H' r.2 r.1 vs → (∀ x, TmpA r.1 vs x → H x = none ∨ Owns σ env x) → Q vs H') (XW T E σ H env) → t σ H Q
/-- a test's reading -/
def RdT (f : Env → Res (Val × Env)) (t : TT) : Prop := ∀ (σ : St) (F H : Hp) (env : Env) (Q : Bool → Hp → Prop), Stk T F H σ env →
  (f env).Post (fun r => ∃ b, r.1 = .fz (.bl b) ∧ ∀ F' H', Pt T σ F H env F' H' r.2 → Q b H') (XW T E σ H env) → t σ H Q
variable {T} {E}
theorem RdT.of {f : Env → Res (Val × Env)} {t : TE} (h : RdE T E f t) : RdT T E f (tB t) := fun σ F H env Q st q =>
  h σ F H env _ st (q.mono (fun r ⟨b, e, k⟩ v F' H' p m fr => by
    rw [e] at m
    exact ⟨b, m.sl, k F' H' p⟩) fun _ _ x => x)
theorem rd_nil : RdA T E (fun env => .ok ([], env)) tNil := fun σ F H env Q st q =>
  q [] F H (Pt.refl st) rfl fun x z => z.elim
theorem TmpA.here {w : Val} {as : List Arg} {v : V} {vs : List V} {x : Addr} (hw : w.isFz = false) (e : v = .ref x) : TmpA (.val w :: as) (v :: vs) x := .inl ⟨hw, e⟩
theorem rd_cons {fa : Env → Res (Arg × Env)} {fr : Env → Res (List Arg × Env)} {ta : TE} {tr : TA} (ha : RdG T E fa ta) (hr : RdA T E fr tr) :
    RdA T E (fun env => (fa env).bind fun (a, env1) => (fr env1).bind fun (as, env2) => .ok (a :: as, env2)) (tCons ta tr) := fun σ F H env Q st q =>
  ha σ F H env _ st (q.bind.mono (fun (a, env1) k v F1 H1 p1 m1 f1 => hr σ F1 H1 env1 _ p1.st (k.bind.mono (fun (as, env2) k vs F2 H2 p2 m2 f2 => by
      refine k (v :: vs) F2 H2 (p1.trans p2) ⟨v, vs, rfl, m1.stays p2, m2, fun w x e hw ev z => ?_⟩ fun x z => ?_
      · have e1 : a = .val w := e
        subst e1
        have m1' : Tm T σ F1 H1 env1 w v := m1
        obtain ⟨y, ey, h1, h2⟩ := Sl.ref m1'.sl hw
        rw [ev] at ey
        cases ey
        rcases f2 x z with r | r
        · exact h1 r
        · exact m1'.no hw x ev r
      · have z' : TmpA (a :: as) (v :: vs) x := z
        have tl : TmpA as vs x → H x = none ∨ Owns σ env x := fun z => by
          rcases f2 x z with r | r
          · by_cases y : H x = none
            · exact .inl y
            · exact absurd r (p1.there x y)
          · exact .inr (p1.own x r)
        cases a with
        | val w =>
          rcases z' with ⟨hw, ev⟩ | z'
          · exact f1 w rfl hw x ev
          · exact tl z'
        | ref i => exact tl z') fun c fs x => x.pt p1)) fun _ _ x => x)
/-- an expression that is no name, as an argument -/
theorem RdG.val {f : Env → Res (Val × Env)} {t : TE} (h : RdE T E f t) : RdG T E (fun env => (f env).bind fun (w, env1) => .ok (.val w, env1)) t := fun σ F H env Q st q =>
  h σ F H env _ st (q.bind.mono (fun (w, env1) k v F' H' p m fr => k v F' H' p m fun w' e => by
    cases e
    exact fr) fun _ _ x => x)
theorem RdG.var {i : Nat} : RdG T E (argVar i) (tVar i) := fun σ F H env Q st q => by
  unfold argVar at q
  cases e : env[i]? with
  | none =>
    rw [e] at q
    exact q.elim
  | some s =>
    rw [e] at q
    cases s with
    | emp => exact q.elim
    | lck => exact q.elim
    | val p w =>
      obtain ⟨v, ev, sl⟩ := st.sl i p w e
      refine ⟨v, ev, ?_⟩
      cases w with
      | fz d => exact q v F H (Pt.refl st) (Tm.fz sl) fun w e => (by cases e; exact Fresh.fz d v)
      | own l => exact q v F H (Pt.refl st) ev fun w e => by cases e
      | odk l => exact q v F H (Pt.refl st) ev fun w e => by cases e
      | odt l => exact q v F H (Pt.refl st) ev fun w e => by cases e
      | oi c fs => exact q v F H (Pt.refl st) ev fun w e => by cases e
/-- a place's own list is done with -/
theorem Stk.frz2 {i : Nat} {p : Bool} {w : Val} {v : V} (st : Stk T F H σ env) (e : env[i]? = some (Slot.val p w)) (ev : σ[i]? = some (some v)) (sl : Sl T F H w v) :
    ∃ F', Rz T F' w.frz v ∧ Pt T σ F H env F' H (env.set i (.val p (.fz w.frz))) ∧ ∀ a, F' a ≠ none → F a ≠ none ∨ Owns σ env a := by
  obtain ⟨F', m, s, r, g⟩ := sl.freeze st.sub
  refine ⟨F', r, ?_, fun a n => (g a n).imp_right fun ⟨hw, h⟩ => ⟨i, ⟨p, w, e, hw⟩, by rw [ev, h]⟩⟩
  have own : ∀ k, OwnK (env.set i (.val p (.fz w.frz))) k → OwnK env k := fun k q => q.drop fun p' w' e => by
    cases e
    rfl
  have st' : Stk T F' H σ (env.set i (.val p (.fz w.frz))) := by
    have st1 : Stk T F' H σ (env.set i .emp) := by
      refine (st.drop (s := .emp) fun p w e => by cases e).more m s fun a q => ?_
      by_cases hf : F' a = none
      · exact hf
      · rcases g a hf with h | ⟨hw, h⟩
        · exfalso
          obtain ⟨k, ⟨p', w', e', f'⟩, eσ⟩ := q.drop fun p w e => by cases e
          obtain ⟨v', ev', sl'⟩ := st.sl k p' w' e'
          obtain ⟨b, eb, _, hF⟩ := sl'.ref f'
          rw [eσ] at ev'
          cases ev'
          cases eb
          exact h hF
        · exfalso
          obtain ⟨k, hk, eσ⟩ := q
          rcases hk.set with ⟨_, p', w', e', f'⟩ | ⟨hn, hk⟩
          · cases e'
          · exact hn (st.inj k i a hk ⟨p, w, e, hw⟩ eσ (by rw [ev, h]))
    have := st1.drop (i := i) (s := .val p (.fz w.frz)) fun p' w' e' => by
      cases e'
      exact ⟨rfl, v, ev, r⟩
    rw [List.set_set] at this
    exact this
  refine ⟨st', m, fun a f n => ?_, fun a o h _ => h, fun _ h => h, own, fun k => ?_⟩
  · rcases g a n with h | ⟨hw, h⟩
    · exact absurd f h
    · exact .inl ⟨i, ⟨p, w, e, hw⟩, by rw [ev, h]⟩
  · by_cases hk : i = k
    · subst hk
      rw [List.getElem?_set_self (List.getElem?_eq_some_iff.mp e).1, e]
      cases p <;> rfl
    · rw [List.getElem?_set_ne hk]
theorem Stk.frz {i : Nat} {p : Bool} {w : Val} {v : V} (st : Stk T F H σ env) (e : env[i]? = some (Slot.val p w)) (ev : σ[i]? = some (some v)) (sl : Sl T F H w v) :
    ∃ F', Rz T F' w.frz v ∧ Pt T σ F H env F' H (env.set i (.val p (.fz w.frz))) := by
  obtain ⟨F', a, b, _⟩ := st.frz2 e ev sl
  exact ⟨F', a, b⟩
theorem rd_var {i : Nat} : RdE T E (rdVar i) (tVar i) := fun σ F H env Q st q => by
  unfold rdVar at q
  cases e : env[i]? with
  | none =>
    rw [e] at q
    exact q.elim
  | some s =>
    rw [e] at q
    cases s with
    | emp => exact q.elim
    | lck => exact q.elim
    | val p w =>
      obtain ⟨v, ev, sl⟩ := st.sl i p w e
      refine ⟨v, ev, ?_⟩
      cases w with
      | fz d => exact q v F H (Pt.refl st) (Tm.fz sl) (Fresh.fz d v)
      | own l =>
        obtain ⟨F', r, pt⟩ := st.frz e ev sl
        exact q v F' H pt (Tm.fz r) (Fresh.fz _ v)
      | odk l =>
        obtain ⟨F', r, pt⟩ := st.frz e ev sl
        exact q v F' H pt (Tm.fz r) (Fresh.fz _ v)
      | odt l =>
        obtain ⟨F', r, pt⟩ := st.frz e ev sl
        exact q v F' H pt (Tm.fz r) (Fresh.fz _ v)
      | oi c fs =>
        obtain ⟨F', r, pt⟩ := st.frz e ev sl
        exact q v F' H pt (Tm.fz r) (Fresh.fz _ v)
theorem rd_con {d : D} {v : V} (h : ∀ F, Rz T F d v) : RdE T E (fun env => .ok (.fz d, env)) (tC v) := fun σ F H env Q st q =>
  q v F H (Pt.refl st) (Tm.fz (h F)) (Fresh.fz d v)
/-! ### operations by values -/
/-- a datum that can be looked at now -/
def Pk (T : TX) (F H : Hp) (d : D) (v : V) : Prop := ∃ w, w.frz = d ∧ Sl T F H w v
def Pks (T : TX) (F H : Hp) : List D → List V → Prop
  | [], vs => vs = []
  | d :: ds, vs => ∃ v r, vs = v :: r ∧ Pk T F H d v ∧ Pks T F H ds r
theorem pk_args (st : Stk T F H σ env) : ∀ {as : List Arg} {vs : List V} {ds : List D}, Args T σ F H env as vs → pkArgs env as = .ok ds → Pks T F H ds vs
  | [], _, _, h, e => by
    cases e
    exact h
  | a :: as, _, ds, h, e => by
    obtain ⟨v, r, rfl, q, t, _⟩ := h
    unfold pkArgs at e
    cases e1 : pkArg env a with
    | ok d =>
      rw [e1] at e
      cases e2 : pkArgs env as with
      | ok ds' =>
        rw [show (Res.ok d).bind _ = (pkArgs env as).bind fun ds => .ok (d :: ds) from rfl, e2] at e
        cases e
        refine ⟨v, r, rfl, ?_, pk_args st t e2⟩
        cases a with
        | val w =>
          cases e1
          exact ⟨w, rfl, q.sl⟩
        | ref i =>
          have e1 : pkSlot i env = .ok d := e1
          unfold pkSlot at e1
          cases e3 : env[i]? with
          | none =>
            rw [e3] at e1
            cases e1
          | some s =>
            rw [e3] at e1
            cases s with
            | emp => cases e1
            | lck => cases e1
            | val p w =>
              cases e1
              obtain ⟨v', ev, sl⟩ := st.sl i p w e3
              have q : σ[i]? = some (some v) := q
              rw [q] at ev
              cases ev
              exact ⟨w, rfl, sl⟩
      | exc c fs =>
        rw [show (Res.ok d).bind _ = (pkArgs env as).bind fun ds => .ok (d :: ds) from rfl, e2] at e
        cases e
      | bad =>
        rw [show (Res.ok d).bind _ = (pkArgs env as).bind fun ds => .ok (d :: ds) from rfl, e2] at e
        cases e
    | exc c fs =>
      rw [e1] at e
      cases e
    | bad =>
      rw [e1] at e
      cases e
theorem pkArgs_noexc {env : Env} : ∀ {as : List Arg} {c : Str} {fs : List (Str × D)}, pkArgs env as ≠ .exc c fs
  | [], _, _, h => by cases h
  | a :: as, c, fs, h => by
    unfold pkArgs at h
    cases e1 : pkArg env a with
    | ok d =>
      rw [e1] at h
      cases e2 : pkArgs env as with
      | ok ds =>
        rw [show (Res.ok d).bind _ = (pkArgs env as).bind fun ds => .ok (d :: ds) from rfl, e2] at h
        cases h
      | exc c fs => exact pkArgs_noexc e2
      | bad =>
        rw [show (Res.ok d).bind _ = (pkArgs env as).bind fun ds => .ok (d :: ds) from rfl, e2] at h
        cases h
    | exc c fs =>
      cases a with
      | val w => cases e1
      | ref i =>
        have e1 : pkSlot i env = .exc c fs := e1
        unfold pkSlot at e1
        split at e1 <;> cases e1
    | bad =>
      rw [e1] at h
      cases h
/-- what an operation leaves: nothing that stood is changed; what comes is done with, or new -/
structure Nw (T : TX) (F H : Hp) (w : Val) (v : V) (F' H' : Hp) : Prop where
  mono : Sub F F'
  sub : Sub F' H'
  keep : ∀ a o, H a = some o → H' a = some o
  grow : ∀ a, F a = none → F' a ≠ none → NT H a
  sl : Sl T F' H' w v
  new : w.isFz = false → ∀ a, v = .ref a → H a = none
theorem Stk.grown (st : Stk T F H σ env) (mono : Sub F F') (sub : Sub F' H') (keep : ∀ a o, H a = some o → H' a = some o) (grow : ∀ a, F a = none → F' a ≠ none → NT H a) : Pt T σ F H env F' H' env := by
  refine ⟨⟨sub, st.len, fun k p w e => ?_, st.inj⟩, mono, fun a e n => .inr (grow a e n), fun a o e _ => keep a o e, fun a h => ?_, fun _ h => h, fun _ => rfl⟩
  · obtain ⟨v, ev, sl⟩ := st.sl k p w e
    refine ⟨v, ev, sl.moves mono fun hw a o ea ho hF nt => ⟨keep a o ho, ?_⟩⟩
    by_cases q : F' a = none
    · exact q
    · obtain ⟨xs, z⟩ := grow a hF q o ho
      exact absurd z (nt xs)
  · cases e : H a with
    | none => exact absurd e h
    | some o =>
      rw [keep a o e]
      simp
theorem Nw.pt {w : Val} {v : V} (n : Nw T F H w v F' H') (st : Stk T F H σ env) : Pt T σ F H env F' H' env ∧ Tm T σ F' H' env w v ∧ Fresh σ H env w v := by
  refine ⟨st.grown n.mono n.sub n.keep n.grow, ⟨n.sl, fun hw a e q => ?_⟩, fun hw a e => .inl (n.new hw a e)⟩
  obtain ⟨k, ⟨p, w', ek, f⟩, eσ⟩ := q
  obtain ⟨v', ev', sl'⟩ := st.sl k p w' ek
  obtain ⟨b, eb, hb, _⟩ := sl'.ref f
  rw [eσ] at ev'
  cases ev'
  cases eb
  exact hb (n.new hw a e)
theorem Nw.fz {d : D} {v : V} (s : Sub F H) (h : Rz T F d v) : Nw T F H (.fz d) v F H :=
  ⟨Sub.refl _, s, fun _ _ h => h, fun a e n => absurd e n, h, fun q => by cases q⟩
theorem keep_new {H : Hp} {p : Addr} {o : HO} (hp : H p = none) : ∀ a u, H a = some u → upd H p o a = some u := fun a u e => by
  rw [upd_ne (ne_of_none e hp)]
  exact e
theorem none_sub {F H : Hp} {p : Addr} (s : Sub F H) (hp : H p = none) : F p = none := by
  cases e : F p with
  | none => rfl
  | some o =>
    rw [s p o e] at hp
    cases hp
theorem Nw.lst {l : List D} {xs : List V} {p : Addr} (s : Sub F H) (h : Rzs T F l xs) (hp : H p = none) : Nw T F H (.own l) (.ref p) F (upd H p (.lst xs)) :=
  ⟨Sub.refl _, fun a o e => keep_new hp a o (s a o e), keep_new hp, fun a e n => absurd e n, ⟨p, xs, rfl, upd_same, h, none_sub s hp⟩, fun _ a e => by
    cases e
    exact hp⟩
theorem Nw.tup {l : List D} {xs : List V} {p : Addr} (s : Sub F H) (h : Rzs T F l xs) (hp : H p = none) : Nw T F H (.fz (.tup l)) (.ref p) (upd F p (.tup xs)) (upd H p (.tup xs)) := by
  have fp := none_sub s hp
  refine ⟨sub_add fp, fun a o e => ?_, keep_new hp, fun a e n => ?_, ⟨p, xs, rfl, upd_same, Rzs.sub (sub_add fp) l xs h⟩, fun q => by cases q⟩
  · by_cases ha : a = p
    · subst ha
      rw [upd_same] at e ⊢
      exact e
    · rw [upd_ne ha] at e ⊢
      exact s a o e
  · by_cases ha : a = p
    · subst ha
      exact NT.none hp
    · rw [upd_ne ha] at n
      exact absurd e n
/-- the rule r, by values, says what f does with data -/
def OpS (T : TX) (n : Nat) (f : List D → Res Val) (r : List V → Hp → VK → Prop) : Prop := ∀ (ds : List D) (vs : List V) (F H : Hp) (Q : VK) (w : Val), ds.length = n → f ds = .ok w → Sub F H → Pks T F H ds vs →
  (∀ v F' H', Nw T F H w v F' H' → Q v H') → r vs H Q
theorem pkArgs_len {env : Env} : ∀ {as : List Arg} {ds : List D}, pkArgs env as = .ok ds → ds.length = as.length
  | [], _, h => by
    cases h
    rfl
  | a :: as, ds, h => by
    unfold pkArgs at h
    cases e1 : pkArg env a with
    | ok d =>
      rw [e1, Res.bind_ok] at h
      cases e2 : pkArgs env as with
      | ok ds' =>
        rw [e2, Res.bind_ok] at h
        cases h
        simp only [List.length_cons, pkArgs_len e2]
      | exc c fs =>
        rw [e2] at h
        cases h
      | bad =>
        rw [e2] at h
        cases h
    | exc c fs =>
      rw [e1] at h
      cases h
    | bad =>
      rw [e1] at h
      cases h
/-- so many arguments -/
def LenA (n : Nat) (f : Env → Res (List Arg × Env)) : Prop := ∀ env as env', f env = .ok (as, env') → as.length = n
theorem Res.Post.len {n : Nat} {f : Env → Res (List Arg × Env)} (l : LenA n f) {env : Env} {K : List Arg × Env → Prop} {X : Str → List (Str × D) → Prop} (h : (f env).Post K X) : (f env).Post (fun r => r.1.length = n ∧ K r) X := by
  cases e : f env with
  | ok r =>
    obtain ⟨as, env'⟩ := r
    rw [e] at h
    exact ⟨l env as env' e, h⟩
  | exc c fs =>
    rw [e] at h
    exact h
  | bad =>
    rw [e] at h
    exact h
def NoExc {α β : Type} (f : α → Res β) : Prop := ∀ a c fs, f a ≠ .exc c fs
theorem rd_prim {fa : Env → Res (List Arg × Env)} {ta : TA} {f : List D → Res Val} {r : List V → Hp → VK → Prop} {n : Nat} (ha : RdA T E fa ta) (hl : LenA n fa) (ho : OpS T n f r) (ne : NoExc f) :
    RdE T E (fun env => (fa env).bind fun (as, env1) => (pkArgs env1 as).bind fun ds => (f ds).bind fun w => .ok (w, env1)) (tCB r ta) := fun σ F H env Q st q =>
  ha σ F H env _ st ((q.bind.len hl).mono (fun (as, env1) ⟨ln, k⟩ vs F1 H1 p1 m1 f1 => by
    have k := Res.Post.bind k
    cases e1 : pkArgs env1 as with
    | ok ds =>
      rw [e1] at k
      have k := Res.Post.bind (x := f ds) k
      cases e2 : f ds with
      | ok w =>
        rw [e2] at k
        refine ho ds vs F1 H1 Q w ((pkArgs_len e1).trans ln) e2 p1.st.sub (pk_args p1.st m1 e1) fun v F2 H2 n => ?_
        obtain ⟨p2, m2, f2⟩ := n.pt p1.st
        exact k v F2 H2 (p1.trans p2) m2 (f2.pre p1)
      | exc c fs => exact absurd e2 (ne ds c fs)
      | bad =>
        rw [e2] at k
        exact k.elim
    | exc c fs => exact absurd e1 pkArgs_noexc
    | bad =>
      rw [e1] at k
      exact k.elim) fun _ _ x => x)

/-! ### control -/
theorem rd_andV {fa fb : Env → Res (Val × Env)} {ta tb : TE} (ha : RdE T E fa ta) (hb : RdE T E fb tb) :
    RdE T E (fun env => (fa env).bind fun (w, env1) => match w with
      | .fz (.bl true) => fb env1
      | .fz (.bl false) => .ok (.fz (.bl false), env1)
      | _ => .bad) (tAndV ta tb) := fun σ F H env Q st q =>
  ha σ F H env _ st (q.bind.mono (fun (w, env1) k v F1 H1 p1 m1 f1 => by
    cases w with
    | fz d =>
      cases d with
      | bl c =>
        refine ⟨c, m1.sl, ?_⟩
        cases c with
        | true => exact hb σ F1 H1 env1 Q p1.st (k.mono (fun r k v F2 H2 p2 m2 f2 => k v F2 H2 (p1.trans p2) m2 (f2.pre p1)) fun _ _ x => x.pt p1)
        | false => exact k (.bl false) F1 H1 p1 (Tm.fz rfl) (Fresh.fz _ _)
      | _ => exact k.elim
    | _ => exact k.elim) fun _ _ x => x)
theorem rd_orV {fa fb : Env → Res (Val × Env)} {ta tb : TE} (ha : RdE T E fa ta) (hb : RdE T E fb tb) :
    RdE T E (fun env => (fa env).bind fun (w, env1) => match w with
      | .fz (.bl true) => .ok (.fz (.bl true), env1)
      | .fz (.bl false) => fb env1
      | _ => .bad) (tOrV ta tb) := fun σ F H env Q st q =>
  ha σ F H env _ st (q.bind.mono (fun (w, env1) k v F1 H1 p1 m1 f1 => by
    cases w with
    | fz d =>
      cases d with
      | bl c =>
        refine ⟨c, m1.sl, ?_⟩
        cases c with
        | false => exact hb σ F1 H1 env1 Q p1.st (k.mono (fun r k v F2 H2 p2 m2 f2 => k v F2 H2 (p1.trans p2) m2 (f2.pre p1)) fun _ _ x => x.pt p1)
        | true => exact k (.bl true) F1 H1 p1 (Tm.fz rfl) (Fresh.fz _ _)
      | _ => exact k.elim
    | _ => exact k.elim) fun _ _ x => x)
theorem rd_notV {fa : Env → Res (Val × Env)} {ta : TE} (ha : RdE T E fa ta) :
    RdE T E (fun env => (fa env).bind fun (w, env1) => match w with
      | .fz (.bl c) => .ok (.fz (.bl (!c)), env1)
      | _ => .bad) (tNotV ta) := fun σ F H env Q st q =>
  ha σ F H env _ st (q.bind.mono (fun (w, env1) k v F1 H1 p1 m1 f1 => by
    cases w with
    | fz d =>
      cases d with
      | bl c => exact ⟨c, m1.sl, k (.bl (!c)) F1 H1 p1 (Tm.fz rfl) (Fresh.fz _ _)⟩
      | _ => exact k.elim
    | _ => exact k.elim) fun _ _ x => x)
theorem rd_andT {fa fb : Env → Res (Val × Env)} {ta tb : TT} (ha : RdT T E fa ta) (hb : RdT T E fb tb) :
    RdT T E (fun env => (fa env).bind fun (w, env1) => match w with
      | .fz (.bl true) => fb env1
      | .fz (.bl false) => .ok (.fz (.bl false), env1)
      | _ => .bad) (tAnd ta tb) := fun σ F H env Q st q =>
  ha σ F H env _ st (q.bind.mono (fun (w, env1) k => by
    cases w with
    | fz d =>
      cases d with
      | bl c =>
        refine ⟨c, rfl, fun F1 H1 p1 => ?_⟩
        cases c with
        | true =>
          exact hb σ F1 H1 env1 Q p1.st (k.mono (fun r ⟨b, e, k⟩ => ⟨b, e, fun F2 H2 p2 => k F2 H2 (p1.trans p2)⟩) fun _ _ x => x.pt p1)
        | false =>
          obtain ⟨b, e, k⟩ := k
          cases e
          exact k F1 H1 p1
      | _ => exact k.elim
    | _ => exact k.elim) fun _ _ x => x)
theorem rd_orT {fa fb : Env → Res (Val × Env)} {ta tb : TT} (ha : RdT T E fa ta) (hb : RdT T E fb tb) :
    RdT T E (fun env => (fa env).bind fun (w, env1) => match w with
      | .fz (.bl true) => .ok (.fz (.bl true), env1)
      | .fz (.bl false) => fb env1
      | _ => .bad) (tOr ta tb) := fun σ F H env Q st q =>
  ha σ F H env _ st (q.bind.mono (fun (w, env1) k => by
    cases w with
    | fz d =>
      cases d with
      | bl c =>
        refine ⟨c, rfl, fun F1 H1 p1 => ?_⟩
        cases c with
        | false =>
          exact hb σ F1 H1 env1 Q p1.st (k.mono (fun r ⟨b, e, k⟩ => ⟨b, e, fun F2 H2 p2 => k F2 H2 (p1.trans p2)⟩) fun _ _ x => x.pt p1)
        | true =>
          obtain ⟨b, e, k⟩ := k
          cases e
          exact k F1 H1 p1
      | _ => exact k.elim
    | _ => exact k.elim) fun _ _ x => x)
theorem rd_notT {fa : Env → Res (Val × Env)} {ta : TT} (ha : RdT T E fa ta) :
    RdT T E (fun env => (fa env).bind fun (w, env1) => match w with
      | .fz (.bl c) => .ok (.fz (.bl (!c)), env1)
      | _ => .bad) (tNot ta) := fun σ F H env Q st q =>
  ha σ F H env _ st (q.bind.mono (fun (w, env1) k => by
    cases w with
    | fz d =>
      cases d with
      | bl c =>
        obtain ⟨b, e, k⟩ := k
        cases e
        exact ⟨c, rfl, k⟩
      | _ => exact k.elim
    | _ => exact k.elim) fun _ _ x => x)
theorem rd_ite {fc fa fb : Env → Res (Val × Env)} {tc : TT} {ta tb : TE} (hc : RdT T E fc tc) (ha : RdE T E fa ta) (hb : RdE T E fb tb) :
    RdE T E (fun env => (fc env).bind fun (w, env1) => match w with
      | .fz (.bl true) => fa env1
      | .fz (.bl false) => fb env1
      | _ => .bad) (tIf tc ta tb) := fun σ F H env Q st q =>
  hc σ F H env _ st (q.bind.mono (fun (w, env1) k => by
    cases w with
    | fz d =>
      cases d with
      | bl c =>
        refine ⟨c, rfl, fun F1 H1 p1 => ?_⟩
        cases c with
        | true => exact ha σ F1 H1 env1 Q p1.st (k.mono (fun r k v F2 H2 p2 m2 f2 => k v F2 H2 (p1.trans p2) m2 (f2.pre p1)) fun _ _ x => x.pt p1)
        | false => exact hb σ F1 H1 env1 Q p1.st (k.mono (fun r k v F2 H2 p2 m2 f2 => k v F2 H2 (p1.trans p2) m2 (f2.pre p1)) fun _ _ x => x.pt p1)
      | _ => exact k.elim
    | _ => exact k.elim) fun _ _ x => x)
end
end Rx

set_option Elab.async false
set_option linter.all false
set_option autoImplicit false
set_option maxRecDepth 100000
namespace Rx
open PySem L2
theorem SL_line : SL = sizeLine := by
  rw [sizeLine_eq]
  rfl
section
variable {T : TX} {E : XK} {σ : St} {F H F' H' : Hp} {env env' : Env}
/-- more is done with: values that were on their way -/
theorem Pt.more {F0 H0 F1 H1 : Hp} {env0 env1 : Env} (p : Pt T σ F0 H0 env0 F1 H1 env1) (m : Sub F1 F') (s : Sub F' H1) (g : ∀ a, F' a ≠ none → F1 a ≠ none ∨ (¬ Owns σ env1 a ∧ (H0 a = none ∨ Owns σ env0 a))) : Pt T σ F0 H0 env0 F' H1 env1 where
  st := p.st.more m s fun a q => by
    by_cases h : F' a = none
    · exact h
    · rcases g a h with r | ⟨r, _⟩
      · exfalso
        obtain ⟨k, ⟨b, w, ek, f⟩, eσ⟩ := q
        obtain ⟨v, ev, sl⟩ := p.st.sl k b w ek
        obtain ⟨c, ec, _, hF⟩ := sl.ref f
        rw [eσ] at ev
        cases ev
        cases ec
        exact r hF
      · exact absurd q r
  mono := p.mono.trans m
  grow := fun a e n => by
    rcases g a n with r | ⟨_, r⟩
    · exact p.grow a e r
    · exact r.symm.imp_right NT.none
  keep := p.keep
  there := p.there
  ownk := p.ownk
  pin := p.pin
theorem Args.frzs : ∀ {ws : List Val} {vs : List V} {F : Hp}, Sub F H → Args T σ F H env (ws.map Arg.val) vs →
    ∃ F', Sub F F' ∧ Sub F' H ∧ Rzs T F' (ws.map Val.frz) vs ∧ ∀ a, F' a ≠ none → F a ≠ none ∨ TmpA (ws.map Arg.val) vs a
  | [], _, F, s, h => ⟨F, Sub.refl F, s, h, fun a q => .inl q⟩
  | w :: ws, _, F, s, h => by
    obtain ⟨v, r, rfl, q, t, d⟩ := h
    obtain ⟨F1, m1, s1, r1, g1⟩ := q.sl.freeze s
    have t1 : Args T σ F1 H env (ws.map Arg.val) r := by
      have key : ∀ {as : List Arg} {us : List V}, Args T σ F H env as us → (∀ x, TmpA as us x → F1 x = none) → Args T σ F1 H env as us := by
        intro as
        induction as with
        | nil => exact fun h _ => h
        | cons a as ih =>
          intro us h n
          obtain ⟨v', r', rfl, q', t', d'⟩ := h
          refine ⟨v', r', rfl, ?_, ih t' fun x z => n x (by cases a with
            | val w => exact .inr z
            | ref i => exact z), d'⟩
          cases a with
          | ref i => exact q'
          | val w' =>
            have q' : Tm T σ F H env w' v' := q'
            exact ⟨q'.sl.moves m1 fun hw a o ea ho hF _ => ⟨ho, n a (.inl ⟨hw, ea⟩)⟩, q'.no⟩
      refine key t fun x z => ?_
      by_cases hx : F1 x = none
      · exact hx
      · rcases g1 x hx with y | ⟨hw, ev⟩
        · exact absurd (t.tmp z).2.1 y
        · exact absurd z (d w x rfl hw ev)
    obtain ⟨F2, m2, s2, r2, g2⟩ := Args.frzs s1 t1
    refine ⟨F2, m1.trans m2, s2, ⟨v, r, rfl, Rz.sub m2 _ _ r1, r2⟩, fun a n => ?_⟩
    rcases g2 a n with y | y
    · rcases g1 a y with z | ⟨hw, ev⟩
      · exact .inl z
      · exact .inr (.inl ⟨hw, ev⟩)
    · exact .inr (.inr y)
/-- values of a display -/
def mapV (f : Env → Res (List Val × Env)) : Env → Res (List Arg × Env) := fun env => (f env).bind fun (ws, env1) => .ok (ws.map Arg.val, env1)
variable (T) (E) in
abbrev RdV (f : Env → Res (List Val × Env)) (t : TA) : Prop := RdA T E (mapV f) t
theorem RdA.congr {f g : Env → Res (List Arg × Env)} {t : TA} (e : ∀ env, f env = g env) (h : RdA T E f t) : RdA T E g t := by
  have : f = g := funext e
  rw [← this]
  exact h
theorem rd_nilV : RdV T E (fun env => .ok ([], env)) tNil := rd_nil
theorem rd_consV {fa : Env → Res (Val × Env)} {fr : Env → Res (List Val × Env)} {ta : TE} {tr : TA} (ha : RdE T E fa ta) (hr : RdV T E fr tr) :
    RdV T E (fun env => (fa env).bind fun (w, env1) => (fr env1).bind fun (ws, env2) => .ok (w :: ws, env2)) (tCons ta tr) := by
  refine (rd_cons (RdG.val ha) hr).congr fun env => ?_
  cases e1 : fa env with
  | ok r =>
    obtain ⟨w, env1⟩ := r
    cases e2 : fr env1 with
    | ok r => simp only [mapV, e1, e2, Res.bind_ok, List.map_cons]
    | exc c fs => simp only [mapV, e1, e2, Res.bind_ok, Res.bind_exc]
    | bad => simp only [mapV, e1, e2, Res.bind_ok, Res.bind_bad]
  | exc c fs => simp only [mapV, e1, Res.bind_exc]
  | bad => simp only [mapV, e1, Res.bind_bad]
theorem RdV.use {f : Env → Res (List Val × Env)} {t : TA} (h : RdV T E f t) (σ : St) (F H : Hp) (env : Env) (Q : List V → Hp → Prop) (st : Stk T F H σ env)
    (q : (f env).Post (fun r => ∀ vs F' H', Pt T σ F H env F' H' r.2 → Args T σ F' H' r.2 (r.1.map Arg.val) vs → (∀ x, TmpA (r.1.map Arg.val) vs x → H x = none ∨ Owns σ env x) → Q vs H') (XW T E σ H env)) : t σ H Q := by
  refine h σ F H env Q st ?_
  unfold mapV
  cases e : f env with
  | ok r =>
    rw [e] at q
    exact q
  | exc c fs =>
    rw [e] at q
    exact q
  | bad =>
    rw [e] at q
    exact q
theorem Post.tup {l : List D} {K : Val → Prop} {X : Str → List (Str × D) → Prop} (h : (tup? l).Post K X) : l.length ≤ SL ∧ K (.fz (.tup l)) := by
  unfold tup? at h
  by_cases hl : l.length ≤ SL
  · rw [if_pos hl] at h
    exact ⟨hl, h⟩
  · rw [if_neg hl] at h
    exact h.elim
theorem rd_tup {f : Env → Res (List Val × Env)} {t : TA} (h : RdV T E f t) : RdE T E (fun env => (f env).bind fun (ws, env1) => (tup? (ws.map Val.frz)).bind fun w => .ok (w, env1)) (tTup t) := fun σ F H env Q st q =>
  h.use σ F H env _ st (q.bind.mono (fun (ws, env1) k vs F1 H1 p1 m1 f1 => by
    obtain ⟨F2, m2, s2, r2, g2⟩ := m1.frzs p1.st.sub
    have p2 : Pt T σ F H env F2 H1 env1 := p1.more m2 s2 fun a n => (g2 a n).imp_right fun z => ⟨(m1.tmp z).2.2, f1 a z⟩
    obtain ⟨hl, k⟩ := Post.tup (Res.Post.bind k)
    refine ⟨by rw [← r2.len, ← SL_line]; exact hl, fun p hp => ?_⟩
    obtain ⟨p3, m3, f3⟩ := (Nw.tup s2 r2 hp).pt p2.st
    exact k (.ref p) _ _ (p2.trans p3) m3 (f3.pre p2)) fun _ _ x => x)
theorem Post.own {l : List D} {K : Val → Prop} {X : Str → List (Str × D) → Prop} (h : (own? l).Post K X) : l.length ≤ SL ∧ K (.own l) := by
  unfold own? at h
  by_cases hl : l.length ≤ SL
  · rw [if_pos hl] at h
    exact ⟨hl, h⟩
  · rw [if_neg hl] at h
    exact h.elim
theorem rd_lst {f : Env → Res (List Val × Env)} {t : TA} (h : RdV T E f t) : RdE T E (fun env => (f env).bind fun (ws, env1) => (own? (ws.map Val.frz)).bind fun w => .ok (w, env1)) (tLst t) := fun σ F H env Q st q =>
  h.use σ F H env _ st (q.bind.mono (fun (ws, env1) k vs F1 H1 p1 m1 f1 => by
    obtain ⟨F2, m2, s2, r2, g2⟩ := m1.frzs p1.st.sub
    have p2 : Pt T σ F H env F2 H1 env1 := p1.more m2 s2 fun a n => (g2 a n).imp_right fun z => ⟨(m1.tmp z).2.2, f1 a z⟩
    obtain ⟨hl, k⟩ := Post.own (Res.Post.bind k)
    refine ⟨by rw [← r2.len, ← SL_line]; exact hl, fun p hp => ?_⟩
    obtain ⟨p3, m3, f3⟩ := (Nw.lst s2 r2 hp).pt p2.st
    exact k (.ref p) _ _ (p2.trans p3) m3 (f3.pre p2)) fun _ _ x => x)

theorem Res.Post.len' {n : Nat} {f : Env → Res (List Val × Env)} (l : LenA n (mapV f)) {env : Env} {K : List Val × Env → Prop} {X : Str → List (Str × D) → Prop} (h : (f env).Post K X) : (f env).Post (fun r => r.1.length = n ∧ K r) X := by
  cases e : f env with
  | ok r =>
    obtain ⟨ws, env'⟩ := r
    rw [e] at h
    refine ⟨?_, h⟩
    have := l env (ws.map Arg.val) env' (by unfold mapV; rw [e]; rfl)
    rw [List.length_map] at this
    exact this
  | exc c fs =>
    rw [e] at h
    exact h
  | bad =>
    rw [e] at h
    exact h

/-! ### statements -/
structure PtS (T : TX) (σ : St) (F H : Hp) (env : Env) (σ' : St) (F' H' : Hp) (env' : Env) : Prop where
  st : Stk T F' H' σ' env'
  mono : Sub F F'
  grow : ∀ a, F a = none → F' a ≠ none → Owns σ env a ∨ NT H a
  keep : ∀ a o, H a = some o → ¬ Owns σ env a → H' a = some o
  there : ∀ a, H a ≠ none → H' a ≠ none
  own : ∀ a, Owns σ' env' a → Owns σ env a ∨ H a = none
  pin : ∀ (k : Nat), pst env'[k]? = pst env[k]?
  sig : ∀ (k : Nat), pst env[k]? ≠ 0 → σ'[k]? = σ[k]?
  len : env'.length = env.length
theorem Pt.toS (p : Pt T σ F H env F' H' env') (s : Stk T F H σ env) : PtS T σ F H env σ F' H' env' :=
  ⟨p.st, p.mono, p.grow, p.keep, p.there, fun a h => .inl (p.own a h), p.pin, fun _ _ => rfl, by rw [p.st.len, s.len]⟩
theorem PtS.refl (s : Stk T F H σ env) : PtS T σ F H env σ F H env := (Pt.refl s).toS s
theorem PtS.trans {σ' σ'' : St} {F'' H'' : Hp} {env'' : Env} (a : PtS T σ F H env σ' F' H' env') (b : PtS T σ' F' H' env' σ'' F'' H'' env'') : PtS T σ F H env σ'' F'' H'' env'' where
  st := b.st
  mono := a.mono.trans b.mono
  grow := fun x e n => by
    by_cases q : F' x = none
    · rcases b.grow x q n with h | h
      · exact (a.own x h).imp_right NT.none
      · by_cases r : Owns σ env x
        · exact .inl r
        · exact .inr fun o ho => h o (a.keep x o ho r)
    · exact a.grow x e q
  keep := fun x o e n => b.keep x o (a.keep x o e n) fun h => by
    rcases a.own x h with r | r
    · exact n r
    · rw [e] at r
      cases r
  there := fun x h => b.there x (a.there x h)
  own := fun x h => by
    rcases b.own x h with r | r
    · exact a.own x r
    · by_cases q : H x = none
      · exact .inr q
      · exact absurd r (a.there x q)
  pin := fun k => (b.pin k).trans (a.pin k)
  sig := fun k h => (b.sig k (by rw [a.pin]; exact h)).trans (a.sig k h)
  len := b.len.trans a.len
theorem XW.ptS {σ' : St} (p : PtS T σ F H env σ' F' H' env') {c : Str} {fs : List (Str × D)} (h : XW T E σ H env c fs) : XW T E σ' H' env' c fs := fun cls d H2 x =>
  h cls d H2 ⟨x.cls, fun a o e n => x.keep a o (p.keep a o e n) fun q => (p.own a q).elim n (fun r => by rw [e] at r; cases r), fun a q => x.there a (p.there a q), x.dat⟩
theorem Fresh.preS {σ' : St} {w : Val} {v : V} (p : PtS T σ F H env σ' F' H' env') (h : Fresh σ' H' env' w v) : Fresh σ H env w v := fun q a e => by
  rcases h q a e with r | r
  · by_cases x : H a = none
    · exact .inl x
    · exact absurd r (p.there a x)
  · exact (p.own a r).symm
structure PtT (T : TX) (σ : St) (F H : Hp) (env : Env) (is : List Nat) (σ' : St) (F' H' : Hp) (env' : Env) : Prop where
  s : PtS T σ F H env σ' F' H' env'
  ownk : ∀ k, OwnK env' k → OwnK env k
  out : ∀ (k : Nat), k ∉ is → σ'[k]? = σ[k]?
theorem PtT.trans {σ' σ'' : St} {F'' H'' : Hp} {env'' : Env} {is js : List Nat} (a : PtT T σ F H env is σ' F' H' env') (b : PtT T σ' F' H' env' js σ'' F'' H'' env'') : PtT T σ F H env (is ++ js) σ'' F'' H'' env'' where
  s := a.s.trans b.s
  ownk := fun k h => a.ownk k (b.ownk k h)
  out := fun k h => (b.out k fun z => h (List.mem_append_right _ z)).trans (a.out k fun z => h (List.mem_append_left _ z))
theorem Pt.toT (p : Pt T σ F H env F' H' env') (s : Stk T F H σ env) : PtT T σ F H env [] σ F' H' env' := ⟨p.toS s, p.ownk, fun _ _ => rfl⟩
variable (T) (E) in
/-- a target's reading; is: the places that it stores to -/
def RdTg (f : D → Env → Res Env) (is : List Nat) (g : TG) : Prop := ∀ (σ : St) (F H : Hp) (env : Env) (d : D) (v : V) (Q : St → Hp → Prop), Stk T F H σ env → Rz T F d v →
  (f d env).Post (fun env' => ∀ σ' F' H', PtT T σ F H env is σ' F' H' env' → Q σ' H') (XW T E σ H env) → g v σ H Q
variable (T) (E) in
def RdTgs (f : List D → Env → Res Env) (is : List Nat) (g : TGs) : Prop := ∀ (σ : St) (F H : Hp) (env : Env) (ds : List D) (vs : List V) (Q : St → Hp → Prop), Stk T F H σ env → Rzs T F ds vs →
  (f ds env).Post (fun env' => ∀ σ' F' H', PtT T σ F H env is σ' F' H' env' → Q σ' H') (XW T E σ H env) → g vs σ H Q
variable (T) (E) in
def RdS (f : Env → Res (Fl × Env)) (t : TS) : Prop := ∀ (σ : St) (F H : Hp) (env : Env) (D : Ends), Stk T F H σ env →
  (f env).Post (fun r => match r.1 with
    | .nx => ∀ σ' F' H', PtS T σ F H env σ' F' H' r.2 → D.nx σ' H'
    | .bk => ∀ σ' F' H', PtS T σ F H env σ' F' H' r.2 → D.bk σ' H'
    | .ct => ∀ σ' F' H', PtS T σ F H env σ' F' H' r.2 → D.ct σ' H'
    | .rt w => ∀ v σ' F' H', PtS T σ F H env σ' F' H' r.2 → Tm T σ' F' H' r.2 w v → Fresh σ H env w v → D.rt v H') (XW T E σ H env) → t D σ H
/-- a value goes to a free place -/
theorem Stk.store {i : Nat} {w : Val} {v : V} (st : Stk T F H σ env) (m : Tm T σ F H env w v) (hp : pst env[i]? = 0) : Stk T F H (σ.set i (some v)) (env.set i (Slot.val false w)) where
  sub := st.sub
  len := by rw [List.length_set, List.length_set]; exact st.len
  sl := fun k p w' e => by
    by_cases hk : i = k
    · subst hk
      rw [List.getElem?_set] at e
      simp only [if_true] at e
      by_cases hl : i < env.length
      · rw [if_pos hl] at e
        cases e
        exact ⟨v, by rw [List.getElem?_set_self (by rw [← st.len]; exact hl)], m.sl⟩
      · rw [if_neg hl] at e
        cases e
    · rw [List.getElem?_set_ne hk] at e ⊢
      exact st.sl k p w' e
  inj := fun k j a hk hj e1 e2 => by
    have own : ∀ {k}, k ≠ i → OwnK env k → σ[k]? = some (some (.ref a)) → w.isFz = false → v = .ref a → False := fun {k} hn ho e hw ev =>
      m.no hw a ev ⟨k, ho, e⟩
    have me : ∀ {k}, k = i → (σ.set i (some v))[k]? = some (some (V.ref a)) → v = .ref a := fun {k} hk e => by
      subst hk
      rw [List.getElem?_set] at e
      simp only [if_true] at e
      split at e
      · cases e
        rfl
      · cases e
    rcases hk.set with ⟨k1, p1, w1, s1, f1⟩ | ⟨k1, k2⟩
    · rcases hj.set with ⟨j1, _⟩ | ⟨j1, j2⟩
      · rw [k1, j1]
      · cases s1
        rw [List.getElem?_set_ne (Ne.symm j1)] at e2
        exact (own j1 j2 e2 f1 (me k1 e1)).elim
    · rcases hj.set with ⟨j1, p1, w1, s1, f1⟩ | ⟨j1, j2⟩
      · cases s1
        rw [List.getElem?_set_ne (Ne.symm k1)] at e1
        exact (own k1 k2 e1 f1 (me j1 e2)).elim
      · rw [List.getElem?_set_ne (Ne.symm k1)] at e1
        rw [List.getElem?_set_ne (Ne.symm j1)] at e2
        exact st.inj k j a k2 j2 e1 e2
theorem Owns.store {i : Nat} {w : Val} {v : V} {a : Addr} (h : Owns (σ.set i (some v)) (env.set i (Slot.val false w)) a) : (w.isFz = false ∧ v = .ref a) ∨ Owns σ env a := by
  obtain ⟨k, hk, e⟩ := h
  rcases hk.set with ⟨k1, p1, w1, s1, f1⟩ | ⟨k1, k2⟩
  · cases s1
    subst k1
    rw [List.getElem?_set] at e
    simp only [if_true] at e
    split at e
    · cases e
      exact .inl ⟨f1, rfl⟩
    · cases e
  · rw [List.getElem?_set_ne (Ne.symm k1)] at e
    exact .inr ⟨k, k2, e⟩
theorem pst_set {i : Nat} {env : Env} {s : Slot} (h : pst env[i]? = pst (some s)) (k : Nat) : pst (env.set i s)[k]? = pst env[k]? := by
  by_cases hk : i = k
  · subst hk
    rw [List.getElem?_set]
    simp only [if_true]
    split
    · exact h.symm
    · rename_i hl
      rw [List.getElem?_eq_none (by omega)]
  · rw [List.getElem?_set_ne hk]
/-- .. and what is so behind it, from a state ahead -/
theorem Pt.store {i : Nat} {w : Val} {v : V} (p : Pt T σ F H env F' H' env') (s : Stk T F H σ env) (m : Tm T σ F' H' env' w v) (f : Fresh σ H env w v) (hp : pst env'[i]? = 0) :
    PtS T σ F H env (σ.set i (some v)) F' H' (env'.set i (Slot.val false w)) := by
  refine ⟨p.st.store m hp, p.mono, p.grow, p.keep, p.there, fun a h => ?_, fun k => ?_, fun k h => ?_, by rw [List.length_set, p.st.len, s.len]⟩
  · rcases h.store with ⟨hw, ev⟩ | h
    · exact (f hw a ev).symm
    · exact .inl (p.own a h)
  · rw [pst_set (s := Slot.val false w) hp, p.pin]
  · have hne : i ≠ k := by
      rintro rfl
      rw [← p.pin, hp] at h
      exact h rfl
    rw [List.getElem?_set_ne hne]
theorem setSlot_ok {i : Nat} {w : Val} {env env' : Env} (h : setSlot i w env = .ok env') : pst env[i]? = 0 ∧ env' = env.set i (Slot.val false w) := by
  unfold setSlot at h
  cases e : env[i]? with
  | none =>
    rw [e] at h
    cases h
  | some s =>
    rw [e] at h
    cases s with
    | emp =>
      cases h
      exact ⟨rfl, rfl⟩
    | lck => cases h
    | val p w' =>
      cases p with
      | true => cases h
      | false =>
        cases h
        exact ⟨rfl, rfl⟩
theorem setSlot_noexc {i : Nat} {w : Val} {env : Env} {c : Str} {fs : List (Str × D)} : setSlot i w env ≠ .exc c fs := by
  intro h
  unfold setSlot at h
  split at h <;> cases h
theorem Post.slot {i : Nat} {w : Val} {env : Env} {K : Env → Prop} {X : Str → List (Str × D) → Prop} (h : (setSlot i w env).Post K X) : pst env[i]? = 0 ∧ K (env.set i (Slot.val false w)) := by
  cases e : setSlot i w env with
  | ok env' =>
    rw [e] at h
    obtain ⟨h1, h2⟩ := setSlot_ok e
    subst h2
    exact ⟨h1, h⟩
  | exc c fs => exact absurd e setSlot_noexc
  | bad =>
    rw [e] at h
    exact h.elim
theorem rd_nm {i : Nat} : RdTg T E (fun d env => setSlot i (.fz d) env) [i] (gName i) := fun σ F H env d v Q st r q => by
  obtain ⟨hp, k⟩ := Post.slot q
  refine k _ F H ⟨(Pt.refl st).store st (Tm.fz r) (Fresh.fz d v) hp, fun k h => h.drop fun p w e => by
    cases e
    rfl, fun k h => ?_⟩
  rw [List.getElem?_set_ne fun z => h (by rw [z]; exact List.mem_cons_self)]
theorem rd_tgs_nil {f : List D → Env → Res Env} (e1 : ∀ env, f [] env = .ok env) (e2 : ∀ d ds env, f (d :: ds) env = .bad) : RdTgs T E f [] gNil := fun σ F H env ds vs Q st r q => by
  cases ds with
  | nil =>
    rw [e1] at q
    exact ⟨r, q σ F H ((Pt.refl st).toT st)⟩
  | cons d ds =>
    rw [e2] at q
    exact q.elim
theorem rd_tgs_cons {f : D → Env → Res Env} {fs h : List D → Env → Res Env} {is js : List Nat} {g : TG} {gs : TGs} (h1 : RdTg T E f is g) (h2 : RdTgs T E fs js gs)
    (e1 : ∀ env, h [] env = .bad) (e2 : ∀ d ds env, h (d :: ds) env = (f d env).bind fun env1 => fs ds env1) : RdTgs T E h (is ++ js) (gCons g gs) := fun σ F H env ds vs Q st r q => by
  cases ds with
  | nil =>
    rw [e1] at q
    exact q.elim
  | cons d ds =>
    rw [e2] at q
    obtain ⟨v, vs', rfl, rv, rr⟩ := r
    exact ⟨v, vs', rfl, h1 σ F H env d v _ st rv (q.bind.mono (fun env1 k σ1 F1 H1 p1 => h2 σ1 F1 H1 env1 ds vs' Q p1.s.st (Rzs.sub p1.s.mono _ _ rr)
      (k.mono (fun env2 k σ2 F2 H2 p2 => k σ2 F2 H2 (p1.trans p2)) fun _ _ x => x.ptS p1.s)) fun _ _ x => x)⟩
theorem rd_tp {fs : List D → Env → Res Env} {is : List Nat} {gs : TGs} {n : Nat} (h : RdTgs T E fs is gs) : RdTg T E (fun d env => match d with
    | .tup l => if l.length = n then fs l env else .bad
    | _ => .bad) is (gTup T.K n gs) := fun σ F H env d v Q st r q => by
  cases d with
  | tup l =>
    obtain ⟨a, xs, e, s, rr⟩ := r
    have q : (if l.length = n then fs l env else .bad).Post _ _ := q
    by_cases hl : l.length = n
    · rw [if_pos hl] at q
      exact ⟨a, xs, e, SqT.of (st.sub _ _ s), by rw [← rr.len]; exact hl, h σ F H env l xs Q st rr q⟩
    · rw [if_neg hl] at q
      exact q.elim
  | _ => exact q.elim
theorem rd_asgN {i : Nat} {f : Env → Res (Val × Env)} {t : TE} (h : RdE T E f t) : RdS T E (fun env => (f env).bind fun (w, env1) => (setSlot i w env1).bind fun env2 => .ok (.nx, env2)) (tAsg t (gName i)) := fun σ F H env D st q =>
  h σ F H env _ st (q.bind.mono (fun (w, env1) k v F1 H1 p1 m1 f1 => by
    obtain ⟨hp, k⟩ := Post.slot (Res.Post.bind k)
    exact k _ F1 H1 (p1.store st m1 f1 hp)) fun _ _ x => x)
theorem rd_asgT {f : Env → Res (Val × Env)} {t : TE} {ft : D → Env → Res Env} {g : TG} {is : List Nat} (h : RdE T E f t) (hg : RdTg T E ft is g) : RdS T E (fun env => (f env).bind fun (w, env1) => (ft w.frz env1).bind fun env2 => .ok (.nx, env2)) (tAsg t g) := fun σ F H env D st q =>
  h σ F H env _ st (q.bind.mono (fun (w, env1) k v F1 H1 p1 m1 f1 => by
    obtain ⟨F2, m2, s2, r2, g2⟩ := m1.sl.freeze p1.st.sub
    have p2 : Pt T σ F H env F2 H1 env1 := p1.more m2 s2 fun a n => (g2 a n).imp_right fun ⟨hw, ev⟩ => ⟨m1.no hw a ev, f1 hw a ev⟩
    refine hg σ F2 H1 env1 _ v _ p2.st r2 ((Res.Post.bind k).mono (fun env2 k σ2 F3 H3 p3 => k σ2 F3 H3 ((p2.toS st).trans p3.s)) fun _ _ x => x.pt p2)) fun _ _ x => x)
theorem rd_expr {f : Env → Res (Val × Env)} {t : TE} (h : RdE T E f t) : RdS T E (fun env => (f env).bind fun (_, env1) => .ok (.nx, env1)) (tDrop t) := fun σ F H env D st q =>
  h σ F H env _ st (q.bind.mono (fun (w, env1) k v F1 H1 p1 m1 f1 => k σ F1 H1 (p1.toS st)) fun _ _ x => x)
theorem rd_ret {f : Env → Res (Val × Env)} {t : TE} (h : RdE T E f t) : RdS T E (fun env => (f env).bind fun (w, env1) => .ok (.rt w, env1)) (tRet t) := fun σ F H env D st q =>
  h σ F H env _ st (q.bind.mono (fun (w, env1) k v F1 H1 p1 m1 f1 => k v σ F1 H1 (p1.toS st) m1 f1) fun _ _ x => x)
theorem rd_retN : RdS T E (fun env => .ok (.rt (.fz .non), env)) tRetN := fun σ F H env D st q =>
  q .non σ F H (PtS.refl st) (Tm.fz rfl) (Fresh.fz _ _)
theorem rd_brk : RdS T E (fun env => .ok (.bk, env)) tBreak := fun σ F H env D st q => q σ F H (PtS.refl st)
theorem rd_cnt : RdS T E (fun env => .ok (.ct, env)) tCont := fun σ F H env D st q => q σ F H (PtS.refl st)
theorem rd_pass : RdS T E (fun env => .ok (.nx, env)) tNext := fun σ F H env D st q => q σ F H (PtS.refl st)
/-- return of a name: what it owns goes with it -/
theorem mv_own {i : Nat} {env : Env} {p : Bool} {w : Val} (e : env[i]? = some (Slot.val p w)) (hw : w.isFz = false) :
    mvVar i env = if p then .ok (.fz w.frz, env.set i (.val p (.fz w.frz))) else .ok (w, env.set i .emp) := by
  unfold mvVar
  rw [e]
  cases w with
  | fz d => cases hw
  | _ => rfl
theorem rd_retV {i : Nat} : RdS T E (fun env => (mvVar i env).bind fun (w, env1) => .ok (.rt w, env1)) (tRet (tVar i)) := fun σ F H env D st q => by
  have q := Res.Post.bind q
  cases e : env[i]? with
  | none =>
    unfold mvVar at q
    rw [e] at q
    exact q.elim
  | some s =>
    cases s with
    | emp =>
      unfold mvVar at q
      rw [e] at q
      exact q.elim
    | lck =>
      unfold mvVar at q
      rw [e] at q
      exact q.elim
    | val p w =>
      obtain ⟨v, ev, sl⟩ := st.sl i p w e
      refine ⟨v, ev, ?_⟩
      cases hw : w.isFz with
      | true =>
        cases w with
        | fz d =>
          unfold mvVar at q
          rw [e] at q
          exact q v σ F H (PtS.refl st) (Tm.fz sl) (Fresh.fz d v)
        | _ => cases hw
      | false =>
        rw [mv_own e hw] at q
        cases p with
        | true =>
          obtain ⟨F', r, pt⟩ := st.frz e ev sl
          exact q v σ F' H (pt.toS st) (Tm.fz r) (Fresh.fz _ v)
        | false =>
          have st' : Stk T F H σ (env.set i .emp) := st.drop fun p w e => by cases e
          have own : ∀ a, Owns σ (env.set i .emp) a → Owns σ env a := fun a z => z.drop fun p w e => by cases e
          refine q v σ F H ⟨st', Sub.refl F, fun a e n => absurd e n, fun a o e _ => e, fun _ h => h, fun a h => .inl (own a h), fun k => pst_set (by rw [e]; rfl) k, fun _ _ => rfl, by rw [List.length_set]⟩ ⟨sl, fun _ a ea z => ?_⟩ fun _ a ea => .inr ⟨i, ⟨false, w, e, hw⟩, by rw [ev, ea]⟩
          obtain ⟨k, hk, eσ⟩ := z
          rcases hk.set with ⟨_, p', w', e', f'⟩ | ⟨hn, hk⟩
          · cases e'
          · exact hn (st.inj k i a hk ⟨false, w, e, hw⟩ eσ (by rw [ev, ea]))
theorem rd_if {fc : Env → Res (Val × Env)} {fa fb : Env → Res (Fl × Env)} {tc : TT} {ta tb : TS} (hc : RdT T E fc tc) (ha : RdS T E fa ta) (hb : RdS T E fb tb) :
    RdS T E (fun env => (fc env).bind fun (w, env1) => match w with
      | .fz (.bl true) => fa env1
      | .fz (.bl false) => fb env1
      | _ => .bad) (tIfS tc ta tb) := fun σ F H env D st q =>
  hc σ F H env _ st (q.bind.mono (fun (w, env1) k => by
    cases w with
    | fz d =>
      cases d with
      | bl c =>
        refine ⟨c, rfl, fun F1 H1 p1 => ?_⟩
        have go : ∀ {f : Env → Res (Fl × Env)} {t : TS}, RdS T E f t → (f env1).Post (fun r => match r.1 with
            | .nx => ∀ σ' F' H', PtS T σ F H env σ' F' H' r.2 → D.nx σ' H'
            | .bk => ∀ σ' F' H', PtS T σ F H env σ' F' H' r.2 → D.bk σ' H'
            | .ct => ∀ σ' F' H', PtS T σ F H env σ' F' H' r.2 → D.ct σ' H'
            | .rt w => ∀ v σ' F' H', PtS T σ F H env σ' F' H' r.2 → Tm T σ' F' H' r.2 w v → Fresh σ H env w v → D.rt v H') (XW T E σ H env) → t D σ H1 := fun {f t} h k =>
          h σ F1 H1 env1 D p1.st (k.mono (fun r k => by
            obtain ⟨fl, env2⟩ := r
            cases fl with
            | nx => exact fun σ' F' H' p => k σ' F' H' ((p1.toS st).trans p)
            | bk => exact fun σ' F' H' p => k σ' F' H' ((p1.toS st).trans p)
            | ct => exact fun σ' F' H' p => k σ' F' H' ((p1.toS st).trans p)
            | rt w => exact fun v σ' F' H' p m f => k v σ' F' H' ((p1.toS st).trans p) m (f.preS (p1.toS st))) fun _ _ x => x.pt p1)
        cases c with
        | true => exact go ha k
        | false => exact go hb k
      | _ => exact k.elim
    | _ => exact k.elim) fun _ _ x => x)
end
end Rx

set_option Elab.async false
set_option linter.all false
set_option autoImplicit false
set_option maxRecDepth 100000
namespace Rx
open PySem L2
section
variable {T : TX} {E : XK} {σ : St} {F H F' H' : Hp} {env env' : Env}
/-- what a statement's end asks -/
def FlK (T : TX) (σ : St) (F H : Hp) (env : Env) (D : Ends) (r : Fl × Env) : Prop :=
  match r.1 with
    | .nx => ∀ σ' F' H', PtS T σ F H env σ' F' H' r.2 → D.nx σ' H'
    | .bk => ∀ σ' F' H', PtS T σ F H env σ' F' H' r.2 → D.bk σ' H'
    | .ct => ∀ σ' F' H', PtS T σ F H env σ' F' H' r.2 → D.ct σ' H'
    | .rt w => ∀ v σ' F' H', PtS T σ F H env σ' F' H' r.2 → Tm T σ' F' H' r.2 w v → Fresh σ H env w v → D.rt v H'
theorem FlK.pre {σ' : St} {D : Ends} {r : Fl × Env} (p : PtS T σ F H env σ' F' H' env') (h : FlK T σ F H env D r) : FlK T σ' F' H' env' D r := by
  obtain ⟨fl, env2⟩ := r
  cases fl with
  | nx => exact fun σ2 F2 H2 q => h σ2 F2 H2 (p.trans q)
  | bk => exact fun σ2 F2 H2 q => h σ2 F2 H2 (p.trans q)
  | ct => exact fun σ2 F2 H2 q => h σ2 F2 H2 (p.trans q)
  | rt w => exact fun v σ2 F2 H2 q m f => h v σ2 F2 H2 (p.trans q) m (f.preS p)
theorem RdS.use {f : Env → Res (Fl × Env)} {t : TS} (h : RdS T E f t) (σ : St) (F H : Hp) (env : Env) (D : Ends) (st : Stk T F H σ env) (q : (f env).Post (FlK T σ F H env D) (XW T E σ H env)) : t D σ H := h σ F H env D st q
theorem RdS.mk {f : Env → Res (Fl × Env)} {t : TS} (h : ∀ (σ : St) (F H : Hp) (env : Env) (D : Ends), Stk T F H σ env → (f env).Post (FlK T σ F H env D) (XW T E σ H env) → t D σ H) : RdS T E f t := h
theorem rd_nilS : RdS T E (fun env => .ok (.nx, env)) tNext := rd_pass
theorem rd_consS {fa fr : Env → Res (Fl × Env)} {ta tr : TS} (ha : RdS T E fa ta) (hr : RdS T E fr tr) :
    RdS T E (fun env => (fa env).bind fun (f, env1) => match f with
      | .nx => fr env1
      | f => .ok (f, env1)) (tSeq ta tr) := RdS.mk fun σ F H env D st q =>
  ha.use σ F H env _ st (q.bind.mono (fun (f, env1) k => by
    cases f with
    | nx => exact fun σ1 F1 H1 p => hr.use σ1 F1 H1 env1 D p.st (Res.Post.mono k (fun r k => k.pre p) fun _ _ x => x.ptS p)
    | bk => exact k
    | ct => exact k
    | rt w => exact k) fun _ _ x => x)
theorem rd_whl {fc : Env → Res (Val × Env)} {fb : Env → Res (Fl × Env)} {tc : TT} {tb : TS} {n : Nat} (hc : RdT T E fc tc) (hb : RdS T E fb tb) :
    RdS T E (fun env => whlL (fun env => (fc env).bind fun (w, env1) => match w with
      | .fz (.bl true) => (fb env1).bind fun (f, env2) => .ok (some f, env2)
      | .fz (.bl false) => .ok (none, env1)
      | _ => .bad) n env) (tWhile tc tb) := RdS.mk fun σ F H env D st q => by
  generalize hs : (fun env => (fc env).bind fun (w, env1) => match w with
      | .fz (.bl true) => (fb env1).bind fun (f, env2) => .ok (some f, env2)
      | .fz (.bl false) => .ok (none, env1)
      | _ => .bad) = step at q
  refine ⟨fun m σ1 H1 => ∃ F1 env1, PtS T σ F H env σ1 F1 H1 env1 ∧ (whlL step m env1).Post (FlK T σ F H env D) (XW T E σ H env), ⟨n, F, env, PtS.refl st, q⟩, ?_⟩
  rintro m σ1 H1 ⟨F1, env1, p1, q1⟩
  cases m with
  | zero => exact q1.elim
  | succ m =>
    have q1 := Res.Post.bind (x := step env1) q1
    rw [← hs] at q1
    refine hc σ1 F1 H1 env1 _ p1.st ((Res.Post.bind q1).mono (fun (w, env2) k => ?_) fun _ _ x => x.ptS p1)
    cases w with
    | fz d =>
      cases d with
      | bl c =>
        refine ⟨c, rfl, fun F2 H2 p2 => ?_⟩
        have p12 := p1.trans (p2.toS p1.st)
        cases c with
        | false => exact k σ1 F2 H2 p12
        | true =>
          rw [if_pos rfl]
          rw [hs] at k
          refine ⟨fun σ' H' => ∃ m', m' < m + 1 ∧ ∃ F1 env1, PtS T σ F H env σ' F1 H' env1 ∧ (whlL step m' env1).Post (FlK T σ F H env D) (XW T E σ H env), fun _ _ h => h, ?_⟩
          refine hb.use σ1 F2 H2 env2 _ p2.st ((Res.Post.bind k).mono (fun (f, env3) k => ?_) fun _ _ x => x.ptS p12)
          cases f with
          | nx => exact fun σ3 F3 H3 p3 => ⟨m, Nat.lt_succ_self m, F3, env3, p12.trans p3, k⟩
          | ct => exact fun σ3 F3 H3 p3 => ⟨m, Nat.lt_succ_self m, F3, env3, p12.trans p3, k⟩
          | bk => exact fun σ3 F3 H3 p3 => k σ3 F3 H3 (p12.trans p3)
          | rt w => exact fun v σ3 F3 H3 p3 m3 f3 => k v σ3 F3 H3 (p12.trans p3) m3 (f3.preS p12)
      | _ => exact k.elim
    | _ => exact k.elim

/-! ### loops over things -/
/-- a datum that can be looked at as long as the addresses of S stay -/
def PkS (T : TX) (F H : Hp) (S : Addr → Prop) : List D → List V → Prop
  | [], vs => vs = []
  | d :: ds, vs => ∃ v r, vs = v :: r ∧ (∃ w, w.frz = d ∧ Sl T F H w v ∧ (w.isFz = false → ∀ a, v = .ref a → S a)) ∧ PkS T F H S ds r
def KpS (F H : Hp) (S : Addr → Prop) (H' : Hp) : Prop := Sub F H' ∧ ∀ a o, S a → H a = some o → H' a = some o
def IterOk (T : TX) (J : It) (its : List D) (F1 : Hp) (Kp : Hp → Prop) : Prop := ∀ H' F', Kp H' → Sub F1 F' → Sub F' H' → ∀ i, (its.length ≤ i → J.stop i H') ∧
  ∀ d, its[i]? = some d → J.go i H' ∧ ∀ x H'', J.yld i H' x H'' → ∃ F'', Nw T F' H' (.fz d) x F'' H''
/-- locked places come back -/
theorem PtS.unlock1 {i : Nat} {p : Bool} {w : Val} {σ' : St} (st : Stk T F H σ env) (e : env[i]? = some (Slot.val p w)) (q : PtS T σ F H (env.set i .lck) σ' F' H' env') :
    PtS T σ F H env σ' F' H' (env'.set i (.val p w)) := by
  have il : i < env.length := (List.getElem?_eq_some_iff.mp e).1
  have il' : i < env'.length := by rw [q.len, List.length_set]; exact il
  have pl : pst (env.set i .lck)[i]? = 2 := by
    rw [List.getElem?_set_self il]
    rfl
  have sg : σ'[i]? = σ[i]? := q.sig i (by rw [pl]; decide)
  obtain ⟨v, ev, sl⟩ := st.sl i p w e
  have drop : ∀ a, Owns σ (env.set i .lck) a → Owns σ env a := fun a z => z.drop fun p w e => by cases e
  have noown : w.isFz = false → ∀ a, v = .ref a → ¬ Owns σ (env.set i .lck) a := fun hw a ea z => by
    obtain ⟨k, hk, eσ⟩ := z
    rcases hk.set with ⟨_, p', w', e', f'⟩ | ⟨hn, hk⟩
    · cases e'
    · exact hn (st.inj k i a hk ⟨p, w, e, hw⟩ eσ (by rw [ev, ea]))
  have sl' : Sl T F' H' w v := sl.moves q.mono fun hw a o ea ho hF nt => ⟨q.keep a o ho (noown hw a ea), by
    by_cases z : F' a = none
    · exact z
    · rcases q.grow a hF z with y | y
      · exact absurd y (noown hw a ea)
      · obtain ⟨xs, z⟩ := y o ho
        exact absurd z (nt xs)⟩
  have noown' : w.isFz = false → ∀ a, v = .ref a → ¬ Owns σ' env' a := fun hw a ea z => by
    rcases q.own a z with y | y
    · exact noown hw a ea y
    · obtain ⟨b, eb, hb, _⟩ := sl.ref hw
      rw [ea] at eb
      cases eb
      exact hb y
  refine ⟨⟨q.st.sub, by rw [List.length_set]; exact q.st.len, fun k p' w' ek => ?_, fun k j a hk hj e1 e2 => ?_⟩, q.mono, fun a f n => ?_, fun a o h n => q.keep a o h fun z => n (drop a z), q.there, fun a z => ?_, fun k => ?_, fun k h => ?_, ?_⟩
  · by_cases hk : i = k
    · subst hk
      rw [List.getElem?_set_self il'] at ek
      cases ek
      exact ⟨v, by rw [sg, ev], sl'⟩
    · rw [List.getElem?_set_ne hk] at ek
      exact q.st.sl k p' w' ek
  · rcases hk.set with ⟨k1, p1, w1, s1, f1⟩ | ⟨k1, k2⟩
    · cases s1
      subst k1
      rcases hj.set with ⟨j1, _⟩ | ⟨j1, j2⟩
      · rw [j1]
      · rw [sg, ev] at e1
        exact absurd ⟨j, j2, e2⟩ (noown' f1 a (by cases e1; rfl))
    · rcases hj.set with ⟨j1, p1, w1, s1, f1⟩ | ⟨j1, j2⟩
      · cases s1
        subst j1
        rw [sg, ev] at e2
        exact absurd ⟨k, k2, e1⟩ (noown' f1 a (by cases e2; rfl))
      · exact q.st.inj k j a k2 j2 e1 e2
  · exact (q.grow a f n).imp_left (drop a)
  · obtain ⟨k, hk, eσ⟩ := z
    rcases hk.set with ⟨k1, p1, w1, s1, f1⟩ | ⟨k1, k2⟩
    · cases s1
      subst k1
      rw [sg] at eσ
      exact .inl ⟨_, ⟨p, w, e, f1⟩, eσ⟩
    · exact (q.own a ⟨k, k2, eσ⟩).imp_left (drop a)
  · by_cases hk : i = k
    · subst hk
      rw [List.getElem?_set_self il', e]
    · rw [List.getElem?_set_ne hk, q.pin, List.getElem?_set_ne hk]
  · refine q.sig k ?_
    by_cases hk : i = k
    · subst hk
      rw [pl]
      decide
    · rw [List.getElem?_set_ne hk]
      exact h
  · rw [List.length_set, q.len, List.length_set]
theorem PtS.unlock1o {i : Nat} {p : Bool} {w : Val} {σ' : St} (st : Stk T F H σ env) (e : env[i]? = some (Slot.val p w)) (q : PtS T σ F H (env.set i .lck) σ' F' H' env') {a : Addr}
    (h : Owns σ' (env'.set i (Slot.val p w)) a) : Owns σ' env' a ∨ (H a ≠ none ∧ ¬ Owns σ (env.set i .lck) a) := by
  have il : i < env.length := (List.getElem?_eq_some_iff.mp e).1
  have pl : pst (env.set i .lck)[i]? = 2 := by
    rw [List.getElem?_set_self il]
    rfl
  have sg : σ'[i]? = σ[i]? := q.sig i (by rw [pl]; decide)
  obtain ⟨v, ev, sl⟩ := st.sl i p w e
  obtain ⟨k, hk, eσ⟩ := h
  rcases hk.set with ⟨k1, p1, w1, s1, f1⟩ | ⟨k1, k2⟩
  · cases s1
    subst k1
    rw [sg, ev] at eσ
    obtain ⟨b, eb, hb, _⟩ := sl.ref f1
    refine .inr ⟨?_, fun z => ?_⟩
    · cases eσ
      cases eb
      exact hb
    · obtain ⟨j, hj, ej⟩ := z
      rcases hj.set with ⟨_, p', w', e', f'⟩ | ⟨hn, hj⟩
      · cases e'
      · exact hn (st.inj j k a hj ⟨p, w, e, f1⟩ ej (by rw [ev]; exact eσ))
  · exact .inl ⟨k, k2, eσ⟩
theorem Stk.lock {i : Nat} (st : Stk T F H σ env) : Stk T F H σ (env.set i .lck) := st.drop fun p w e => by cases e
theorem lockArgs_ok : ∀ {as : List Arg} {env env2 : Env} {sv : List (Nat × Slot)}, Stk T F H σ env → lockArgs as env = .ok (sv, env2) →
    Stk T F H σ env2 ∧ (∀ a, Owns σ env2 a → Owns σ env a) ∧ (∀ (k : Nat), OwnK env2 k → OwnK env k) ∧ (∀ i, Arg.ref i ∈ as → ¬ OwnK env2 i) ∧ (∀ {σ' : St} {F' H' : Hp} {env' : Env}, PtS T σ F H env2 σ' F' H' env' → PtS T σ F H env σ' F' H' (unlock sv env') ∧ ∀ a, Owns σ' (unlock sv env') a → Owns σ' env' a ∨ (H a ≠ none ∧ ¬ Owns σ env2 a)) ∧ (∀ (env' : Env) (k : Nat), OwnK (unlock sv env') k → OwnK env' k ∨ OwnK env k)
  | [], env, env2, sv, st, h => by
    cases h
    exact ⟨st, fun _ h => h, fun _ h => h, fun i h => absurd h List.not_mem_nil, fun h => ⟨h, fun a z => .inl z⟩, fun env' k h => .inl h⟩
  | .val w :: r, env, env2, sv, st, h => by
    obtain ⟨h1, h2, h3, h4, h5, h6⟩ := lockArgs_ok (as := r) st h
    refine ⟨h1, h2, h3, fun i hi => h4 i ?_, h5, h6⟩
    rcases List.mem_cons.mp hi with e | e
    · cases e
    · exact e
  | .ref i :: r, env, env2, sv, st, h => by
    unfold lockArgs at h
    cases e : env[i]? with
    | none =>
      rw [e] at h
      cases h
    | some s =>
      rw [e] at h
      cases s with
      | emp => cases h
      | lck => cases h
      | val p w =>
        have h : (lockArgs r (env.set i .lck)).bind _ = _ := h
        cases e2 : lockArgs r (env.set i .lck) with
        | exc c fs =>
          rw [e2] at h
          cases h
        | bad =>
          rw [e2] at h
          cases h
        | ok x =>
          obtain ⟨sv', env'⟩ := x
          rw [e2] at h
          cases h
          obtain ⟨h1, h2, h3, h4, h5, h6⟩ := lockArgs_ok (as := r) st.lock e2
          refine ⟨h1, fun a z => (h2 a z).drop (fun p w e => by cases e), fun k z => (h3 k z).drop (fun p w e => by cases e), fun j hj => ?_, fun q => ⟨PtS.unlock1 st e (h5 q).1, fun a z => ?_⟩, fun env' k z => ?_⟩
          rcases List.mem_cons.mp hj with e | e
          · cases e
            intro z
            rcases (h3 _ z).set with ⟨_, p', w', e', f'⟩ | ⟨hn, _⟩
            · cases e'
            · exact hn rfl
          · exact h4 j e
          · rcases PtS.unlock1o st e (h5 q).1 z with y | ⟨y1, y2⟩
            · exact (h5 q).2 a y
            · exact .inr ⟨y1, fun u => y2 (h2 a u)⟩
          · rcases OwnK.set z with ⟨k1, p1, w1, s1, f1⟩ | ⟨k1, k2⟩
            · cases s1
              subst k1
              exact .inr ⟨p, w, e, f1⟩
            · exact (h6 env' k k2).imp_right fun y => y.drop fun p w e => by cases e
theorem lockArgs_noexc : ∀ {as : List Arg} {env : Env} {c : Str} {fs : List (Str × D)}, lockArgs as env ≠ .exc c fs
  | [], env, _, _, h => by cases h
  | .val w :: r, env, _, _, h => lockArgs_noexc (as := r) h
  | .ref i :: r, env, c, fs, h => by
    unfold lockArgs at h
    split at h
    · cases e2 : lockArgs r (env.set i .lck) with
      | exc c fs => exact lockArgs_noexc e2
      | bad =>
        rw [e2] at h
        cases h
      | ok x =>
        rw [e2] at h
        cases h
    · cases h
/-- the arguments' data, as long as what the locked places do not own stays -/
theorem pkS_args {env2 : Env} (st : Stk T F H σ env) (ow : ∀ a, Owns σ env2 a → Owns σ env a) (ok : ∀ (k : Nat), OwnK env2 k → OwnK env k) : ∀ {as : List Arg} {vs : List V} {ds : List D}, Args T σ F H env as vs → pkArgs env as = .ok ds → (∀ i, Arg.ref i ∈ as → ¬ OwnK env2 i) → PkS T F H (fun a => ¬ Owns σ env2 a) ds vs
  | [], _, _, h, e, _ => by
    cases e
    exact h
  | a :: as, _, ds, h, e, nk => by
    obtain ⟨v, r, rfl, q, t, _⟩ := h
    unfold pkArgs at e
    cases e1 : pkArg env a with
    | ok d =>
      rw [e1, Res.bind_ok] at e
      cases e2 : pkArgs env as with
      | ok ds' =>
        rw [e2, Res.bind_ok] at e
        cases e
        refine ⟨v, r, rfl, ?_, pkS_args st ow ok t e2 fun i hi => nk i (List.mem_cons_of_mem _ hi)⟩
        cases a with
        | val w =>
          cases e1
          exact ⟨w, rfl, q.sl, fun hw a ea z => q.no hw a ea (ow a z)⟩
        | ref i =>
          have e1 : pkSlot i env = .ok d := e1
          unfold pkSlot at e1
          cases e3 : env[i]? with
          | none =>
            rw [e3] at e1
            cases e1
          | some s =>
            rw [e3] at e1
            cases s with
            | emp => cases e1
            | lck => cases e1
            | val p w =>
              cases e1
              obtain ⟨v', ev, sl⟩ := st.sl i p w e3
              have q : σ[i]? = some (some v) := q
              rw [q] at ev
              cases ev
              refine ⟨w, rfl, sl, fun hw a ea z => ?_⟩
              obtain ⟨k, hk, eσ⟩ := z
              have := st.inj k i a (ok k hk) ⟨p, w, e3, hw⟩ eσ (by rw [q, ea])
              subst this
              exact nk _ List.mem_cons_self hk
      | exc c fs =>
        rw [e2] at e
        cases e
      | bad =>
        rw [e2] at e
        cases e
    | exc c fs =>
      rw [e1] at e
      cases e
    | bad =>
      rw [e1] at e
      cases e
end
end Rx

set_option Elab.async false
set_option linter.all false
set_option autoImplicit false
set_option maxRecDepth 100000
namespace Rx
open PySem L2
open PySem.Spec
open PyProof.Rows
/-- a list or a tuple walked -/
def iSeq (K : PySem.W.Frag) (tl : TE) : TI := fun σ H R => tl σ H fun x H1 => ∃ a, x = .ref a ∧ (((∃ xs, SqL K H1 a xs) ∧ R (Itl K a) H1) ∨ ((∃ xs, SqT K H1 a xs) ∧ R (Itt K a) H1))
theorem pi_seq {X : Cx} {tg l : Expr} {tl : TE} (hl : PE X l tl) : PI X tg l (iSeq X.K tl) := by
  refine ⟨fun pn s0 σ0 H0 Rr I0 h0 => ?_⟩
  refine thn (hl.run pn s0 σ0 H0 _ I0 h0) fun v0 s1 ⟨x, H1, I1, rx, qx⟩ => ?_
  obtain ⟨a, ea, qx⟩ := qx
  subst ea
  cases rx
  have fresh : ∀ b ∈ [s1.heap.objs.size], FpOk X pn H1 b := fun b hb => by
    obtain rfl : b = s1.heap.objs.size := by simpa using hb
    exact I1.fpOk (Nat.le_refl _) (I1.hok.fresh (Nat.le_refl _))
  rcases qx with ⟨⟨xs, hq⟩, q⟩ | ⟨⟨xs, hq⟩, q⟩
  · obtain ⟨its, rv, p, hz⟩ := I1.list hq
    exact wpAny_pyIter_list p.isList ⟨s1.heap.objs.size, [s1.heap.objs.size], _, _, H1, rfl, I1.kept (t' := s1.toks) (fun b o e => Heap.get?_push_of_some _ e), turn_list a _, ⟨_, Heap.get?_push_size _ rfl, rfl, rfl⟩, fresh, q⟩
  · obtain ⟨its, rv, p, hz⟩ := I1.tuple hq
    exact wpAny_pyIter_tuple (show s1.heap.IsTuple a its.toArray from p) ⟨s1.heap.objs.size, [s1.heap.objs.size], _, _, H1, rfl, I1.kept (t' := s1.toks) (fun b o e => Heap.get?_push_of_some _ e), turn_tuple a _, ⟨_, Heap.get?_push_size _ rfl, rfl, rfl⟩, fresh, q⟩
section
variable {T : TX} {E : XK} {σ : St} {F H F' H' : Hp} {env env' : Env}
/-- what a walked thing's rule asks of the values, and what it gives -/
def IkS (T : TX) (n : Nat) (k : IK) (r : List V → Hp → (It → Hp → Prop) → Prop) : Prop := ∀ (ds : List D) (vs : List V) (F H : Hp) (S : Addr → Prop) (R : It → Hp → Prop) (its : List D), ds.length = n → iterOf k ds = .ok its → Sub F H → PkS T F H S ds vs →
  (∀ J, IterOk T J its F (KpS F H S) → R J H) → r vs H R
theorem pkS_one {S : Addr → Prop} {d : D} {vs : List V} (h : PkS T F H S [d] vs) : ∃ v, vs = [v] ∧ ∃ w, w.frz = d ∧ Sl T F H w v ∧ (w.isFz = false → ∀ a, v = .ref a → S a) := by
  obtain ⟨v, r, rfl, q, t⟩ := h
  rw [show r = [] from t]
  exact ⟨v, rfl, q⟩
theorem pkS_two {S : Addr → Prop} {d e : D} {vs : List V} (h : PkS T F H S [d, e] vs) : ∃ v u, vs = [v, u] ∧ (∃ w, w.frz = d ∧ Sl T F H w v ∧ (w.isFz = false → ∀ a, v = .ref a → S a)) ∧ ∃ w, w.frz = e ∧ Sl T F H w u ∧ (w.isFz = false → ∀ a, u = .ref a → S a) := by
  obtain ⟨v, r, rfl, q, t⟩ := h
  obtain ⟨u, hu, q2⟩ := pkS_one t
  exact ⟨v, u, by rw [hu], q, q2⟩
/-- a list that can be looked at, and stays -/
theorem Sl.asL {S : Addr → Prop} {w : Val} {l : List D} {v : V} (e : w.frz = .lst l) (s : Sl T F H w v) (hs : Sub F H) (k : w.isFz = false → ∀ a, v = .ref a → S a) :
    ∃ a xs, v = .ref a ∧ Rzs T F l xs ∧ ∀ H', KpS F H S H' → H' a = some (.lst xs) := by
  cases w with
  | fz d =>
    obtain rfl : d = .lst l := e
    obtain ⟨a, xs, ea, q, r⟩ := s
    exact ⟨a, xs, ea, r, fun H' h => h.1 _ _ q⟩
  | own m =>
    cases e
    obtain ⟨a, xs, ea, q, r, f⟩ := s
    exact ⟨a, xs, ea, r, fun H' h => h.2 a _ (k rfl a ea) q⟩
  | odk m => cases e
  | odt m => cases e
  | oi c fs => cases e
theorem Sl.asT {w : Val} {l : List D} {v : V} (e : w.frz = .tup l) (s : Sl T F H w v) : ∃ a xs, v = .ref a ∧ Rzs T F l xs ∧ SqT T.K F a xs := by
  cases w with
  | fz d =>
    obtain rfl : d = .tup l := e
    obtain ⟨a, xs, ea, q, r⟩ := s
    exact ⟨a, xs, ea, r, SqT.of q⟩
  | own m => cases e
  | odk m => cases e
  | odt m => cases e
  | oi c fs => cases e
theorem Nw.none (hs : Sub F H) : Nw T F H (.fz .non) .non F H := Nw.fz hs rfl
theorem KpS.refl {S : Addr → Prop} (hs : Sub F H) : KpS F H S H := ⟨hs, fun _ _ _ h => h⟩
/-- by turns that give what stands there -/
theorem ik_seq : IkS T 1 .plain (fun vs H R => ∃ x, vs = [x] ∧ ∃ a, x = .ref a ∧ (((∃ xs, SqL T.K H a xs) ∧ R (Itl T.K a) H) ∨ ((∃ xs, SqT T.K H a xs) ∧ R (Itt T.K a) H))) := by
  intro ds vs F H S R its hn hi hs pk k
  match ds, hn with
  | [d], _ =>
    have hi : (match d.items with
      | some l => Res.ok l
      | none => .bad) = .ok its := hi
    obtain ⟨v, rfl, w, ew, sl, ks⟩ := pkS_one pk
    refine ⟨v, rfl, ?_⟩
    cases d with
    | tup l =>
      cases hi
      obtain ⟨a, xs, ea, r, q⟩ := sl.asT ew
      refine ⟨a, ea, .inr ⟨⟨xs, SqT.sub hs q⟩, k _ fun H' F' kp m s i => ⟨fun hl => ⟨xs, SqT.sub kp.1 q, by rw [← r.len]; exact hl⟩, fun d hd => ?_⟩⟩⟩
      obtain ⟨x, hx, rx⟩ := r.get hd
      refine ⟨⟨xs, x, SqT.sub kp.1 q, hx⟩, fun y H'' ⟨e1, e2⟩ => ⟨F', ?_⟩⟩
      subst e1
      have := e2 xs (SqT.sub kp.1 q)
      rw [hx] at this
      cases this
      exact Nw.fz s (Rz.sub m _ _ rx)
    | lst l =>
      cases hi
      obtain ⟨a, xs, ea, r, q⟩ := sl.asL ew hs ks
      refine ⟨a, ea, .inl ⟨⟨xs, SqL.of (q H (KpS.refl hs))⟩, k _ fun H' F' kp m s i => ⟨fun hl => ⟨xs, SqL.of (q H' kp), by rw [← r.len]; exact hl⟩, fun d hd => ?_⟩⟩⟩
      have qq : SqL T.K H' a xs := SqL.of (q H' kp)
      obtain ⟨x, hx, rx⟩ := r.get hd
      refine ⟨⟨xs, x, qq, hx⟩, fun y H'' ⟨e1, e2⟩ => ⟨F', ?_⟩⟩
      subst e1
      have := e2 xs qq
      rw [hx] at this
      cases this
      exact Nw.fz s (Rz.sub m _ _ rx)
    | _ => cases hi
theorem rng_get {lo hi : Int} {i : Nat} {d : D} (h : (rng lo hi)[i]? = some d) : i < (hi - lo).toNat ∧ d = .int (lo + (i : Nat)) := by
  unfold rng at h
  rw [List.getElem?_map] at h
  cases e : (List.range (hi - lo).toNat)[i]? with
  | none =>
    rw [e] at h
    cases h
  | some j =>
    rw [e] at h
    obtain ⟨hl, hj⟩ := List.getElem?_eq_some_iff.mp e
    rw [List.getElem_range] at hj
    subst hj
    rw [List.length_range] at hl
    cases h
    exact ⟨hl, rfl⟩
theorem rng_len (lo hi : Int) : (rng lo hi).length = (hi - lo).toNat := by
  unfold rng
  rw [List.length_map, List.length_range]
theorem iter_rng {S : Addr → Prop} (lo hi : Int) : IterOk T (Itr lo (hi - lo).toNat) (rng lo hi) F (KpS F H S) := fun H' F' kp m s i =>
  ⟨fun hl => by rw [rng_len] at hl; exact hl, fun d hd => by
    obtain ⟨h1, rfl⟩ := rng_get hd
    refine ⟨h1, fun x H'' ⟨e1, e2⟩ => ⟨F', ?_⟩⟩
    subst e1
    subst e2
    exact Nw.fz s rfl⟩
theorem B62_iff {i : Int} : B62 i = true ↔ -(2 ^ 62) ≤ i ∧ i < 2 ^ 62 := by
  unfold B62
  rw [Bool.or_eq_true, decide_eq_true_iff, decide_eq_true_iff]
  omega
theorem pkS_int {S : Addr → Prop} {i : Int} {v : V} (h : ∃ w, w.frz = D.int i ∧ Sl T F H w v ∧ (w.isFz = false → ∀ a, v = .ref a → S a)) : v = .int i := by
  obtain ⟨w, e, s, _⟩ := h
  cases w with
  | fz d =>
    obtain rfl : d = .int i := e
    exact s
  | own l => cases e
  | odk l => cases e
  | odt l => cases e
  | oi c fs => cases e
theorem len1 {α : Type} {l : List α} (h : l.length = 1) : ∃ a, l = [a] := by
  match l, h with
  | [a], _ => exact ⟨a, rfl⟩
theorem len2 {α : Type} {l : List α} (h : l.length = 2) : ∃ a b, l = [a, b] := by
  match l, h with
  | [a, b], _ => exact ⟨a, b, rfl⟩
theorem len3 {α : Type} {l : List α} (h : l.length = 3) : ∃ a b c, l = [a, b, c] := by
  match l, h with
  | [a, b, c], _ => exact ⟨a, b, c, rfl⟩
theorem ik_rng1 : IkS T 1 (.range 1) (fun vs H R => ∃ j : Int, vs = [.int j] ∧ -(2 ^ 62) ≤ j ∧ j < 2 ^ 62 ∧ R (Itr 0 j.toNat) H) := by
  intro ds vs F H S R its hn hi hs pk k
  obtain ⟨d, rfl⟩ := len1 hn
  have hi : rangeOf [d] = .ok its := hi
  obtain ⟨v, rfl, q⟩ := pkS_one pk
  cases d with
  | int j =>
    have hi : (if B62 j then Res.ok (rng 0 j) else .bad) = .ok its := hi
    by_cases hb : B62 j = true
    · rw [if_pos hb] at hi
      cases hi
      obtain ⟨h1, h2⟩ := B62_iff.mp hb
      refine ⟨j, by rw [pkS_int q], h1, h2, ?_⟩
      have := iter_rng (T := T) (F := F) (H := H) (S := S) 0 j
      rw [Int.sub_zero] at this
      exact k _ this
    · rw [if_neg hb] at hi
      cases hi
  | _ => cases hi
theorem ik_rng2 : IkS T 2 (.range 2) (fun vs H R => ∃ i j : Int, vs = [.int i, .int j] ∧ (-(2 ^ 62) ≤ i ∧ i < 2 ^ 62 ∧ -(2 ^ 62) ≤ j ∧ j < 2 ^ 62) ∧ R (Itr i (j - i).toNat) H) := by
  intro ds vs F H S R its hn hi hs pk k
  obtain ⟨d, e, rfl⟩ := len2 hn
  have hi : rangeOf [d, e] = .ok its := hi
  obtain ⟨v, u, rfl, q, q'⟩ := pkS_two pk
  cases d with
  | int i =>
    cases e with
    | int j =>
      have hi : (if B62 i && B62 j then Res.ok (rng i j) else .bad) = .ok its := hi
      by_cases hb : (B62 i && B62 j) = true
      · rw [if_pos hb] at hi
        cases hi
        rw [Bool.and_eq_true] at hb
        obtain ⟨h1, h2⟩ := B62_iff.mp hb.1
        obtain ⟨h3, h4⟩ := B62_iff.mp hb.2
        exact ⟨i, j, by rw [pkS_int q, pkS_int q'], ⟨h1, h2, h3, h4⟩, k _ (iter_rng i j)⟩
      · rw [if_neg hb] at hi
        cases hi
    | _ => cases hi
  | _ => cases hi

/-! ### for -/
/-- what is walked, and the locked places -/
def prel (fa : Env → Res (List Arg × Env)) (k : IK) (env : Env) : Res ((List D × List (Nat × Slot)) × Env) :=
  (fa env).bind fun (as, env1) => (pkArgs env1 as).bind fun ds => (iterOf k ds).bind fun its => (lockArgs as env1).bind fun (sv, env2) => .ok ((its, sv), env2)
theorem iterOf_noexc {k : IK} {ds : List D} {c : Str} {fs : List (Str × D)} : iterOf k ds ≠ .exc c fs := by
  intro h
  unfold iterOf at h
  cases k with
  | plain =>
    simp only [itPlain] at h
    repeat (first | cases h | split at h)
  | range n =>
    simp only [rangeOf] at h
    repeat (first | cases h | split at h)
  | enum =>
    simp only [itEnum] at h
    repeat (first | cases h | split at h)
  | zip =>
    simp only [itZip] at h
    repeat (first | cases h | split at h)
/-- the state of a loop over its: locked at env2, from (F, H, env) -/
theorem rd_prel {fa : Env → Res (List Arg × Env)} {ta : TA} {k : IK} {n : Nat} {r : List V → Hp → (It → Hp → Prop) → Prop} (ha : RdA T E fa ta) (hl : LenA n fa) (hk : IkS T n k r) (σ : St) (F H : Hp) (env : Env) (R : It → Hp → Prop) (st : Stk T F H σ env)
    (q : (prel fa k env).Post (fun x => ∀ J F1 H1 env1, Pt T σ F H env F1 H1 env1 → Stk T F1 H1 σ x.2 → (∀ a, Owns σ x.2 a → Owns σ env1 a) → (∀ (k : Nat), OwnK x.2 k → OwnK env1 k) →
      (∀ {σ' : St} {F' H' : Hp} {env' : Env}, PtS T σ F1 H1 x.2 σ' F' H' env' → PtS T σ F1 H1 env1 σ' F' H' (unlock x.1.2 env') ∧ ∀ a, Owns σ' (unlock x.1.2 env') a → Owns σ' env' a ∨ (H1 a ≠ none ∧ ¬ Owns σ x.2 a)) → (∀ (env' : Env) (k : Nat), OwnK (unlock x.1.2 env') k → OwnK env' k ∨ OwnK env1 k) →
      IterOk T J x.1.1 F1 (KpS F1 H1 fun a => ¬ Owns σ x.2 a) → R J H1) (XW T E σ H env)) : ta σ H fun vs H1 => r vs H1 R := by
  refine ha σ F H env _ st ((q.bind.len hl).mono (fun (as, env1) ⟨ln, k⟩ vs F1 H1 p1 m1 f1 => ?_) fun _ _ x => x)
  have k := Res.Post.bind k
  cases e1 : pkArgs env1 as with
  | ok ds =>
    rw [e1] at k
    have k := Res.Post.bind (x := iterOf _ ds) k
    cases e2 : iterOf _ ds with
    | ok its =>
      rw [e2] at k
      have k := Res.Post.bind (x := lockArgs as env1) k
      cases e3 : lockArgs as env1 with
      | ok x =>
        obtain ⟨sv, env2⟩ := x
        rw [e3] at k
        obtain ⟨h1, h2, h3, h4, h5, h6⟩ := lockArgs_ok p1.st e3
        exact hk ds vs F1 H1 _ R its ((pkArgs_len e1).trans ln) e2 p1.st.sub (pkS_args p1.st h2 h3 m1 e1 h4) fun J ij => k J F1 H1 env1 p1 h1 h2 h3 h5 h6 ij
      | exc c fs => exact absurd e3 lockArgs_noexc
      | bad =>
        rw [e3] at k
        exact k.elim
    | exc c fs => exact absurd e2 iterOf_noexc
    | bad =>
      rw [e2] at k
      exact k.elim
  | exc c fs => exact absurd e1 pkArgs_noexc
  | bad =>
    rw [e1] at k
    exact k.elim
theorem XW.lock {env2 : Env} (ow : ∀ a, Owns σ env2 a → Owns σ env a) {c : Str} {fs : List (Str × D)} (x : XW T E σ H env c fs) : XW T E σ H env2 c fs := fun cls d H' xt =>
  x cls d H' ⟨xt.cls, fun a o e n => xt.keep a o e fun z => n (ow a z), xt.there, xt.dat⟩
theorem KpS.of {σ' : St} {env2 : Env} {S : Addr → Prop} (st : Stk T F H σ env2) (p : PtS T σ F H env2 σ' F' H' env') : KpS F H (fun a => ¬ Owns σ env2 a) H' := by
  refine ⟨p.mono.trans p.st.sub, fun a o n h => p.keep a o h n⟩
theorem rd_for {fa : Env → Res (List Arg × Env)} {ta : TA} {k : IK} {n : Nat} {r : List V → Hp → (It → Hp → Prop) → Prop} {ft : D → Env → Res Env} {is : List Nat} {g : TG} {fb : Env → Res (Fl × Env)} {tb : TS}
    (ha : RdA T E fa ta) (hl : LenA n fa) (hk : IkS T n k r) (hg : RdTg T E ft is g) (hb : RdS T E fb tb) :
    RdS T E (fun env => (prel fa k env).bind fun ((its, sv), env2) => (forL (fun d env => (ft d env).bind fun env3 => fb env3) its env2).bind fun (f, env4) => .ok (f, unlock sv env4))
      (tFor (fun σ H R => ta σ H fun vs H1 => r vs H1 R) g tb) := RdS.mk fun σ F H env D st q => by
  refine rd_prel ha hl hk σ F H env _ st (q.bind.mono (fun ((its, sv), env2) q J F1 H1 env1 p1 st2 ow ok un uk ij => ?_) fun _ _ x => x)
  have q := Res.Post.bind q
  generalize hs : (fun d env => (ft d env).bind fun env3 => fb env3) = step at q
  have p1S := p1.toS st
  -- behind i items
  refine ⟨fun i m σ2 H2 => ∃ F2 env3, m = its.length - i ∧ PtS T σ F1 H1 env2 σ2 F2 H2 env3 ∧ (forL step (its.drop i) env3).Post (fun (f, env4) => FlK T σ F H env D (f, unlock sv env4)) (XW T E σ H env), ⟨its.length - 0, F1, env2, rfl, PtS.refl st2, q⟩, ?_⟩
  rintro i m σ2 H2 ⟨F2, env3, rfl, p2, q2⟩
  have kp := KpS.of (S := fun _ => True) st2 p2
  obtain ⟨stop, go⟩ := ij H2 F2 kp p2.mono p2.st.sub i
  by_cases hi : its.length ≤ i
  · refine .inl ⟨stop hi, ?_⟩
    rw [List.drop_eq_nil_of_le hi] at q2
    exact q2 σ2 F2 H2 (p1S.trans (un p2).1)
  · have hi : i < its.length := Nat.lt_of_not_le hi
    obtain ⟨jg, jy⟩ := go its[i] (List.getElem?_eq_getElem hi)
    refine .inr ⟨jg, fun σ' H' => ∃ F2 env3, PtS T σ F1 H1 env2 σ' F2 H' env3 ∧ (forL step (its.drop (i + 1)) env3).Post (fun (f, env4) => FlK T σ F H env D (f, unlock sv env4)) (XW T E σ H env), fun σ' H' ⟨F3, env4, p3, q3⟩ => ⟨its.length - (i + 1), by omega, F3, env4, rfl, p3, q3⟩, fun x H3 hy => ?_⟩
    obtain ⟨F3, nw⟩ := jy x H3 hy
    obtain ⟨p3, m3, _⟩ := nw.pt p2.st
    rw [List.drop_eq_getElem_cons hi] at q2
    have p13 := p2.trans (p3.toS p2.st)
    have q2 := Res.Post.bind (x := step its[i] env3) q2
    rw [← hs] at q2
    have xw : ∀ {c : Str} {fs : List (Str × Rx.D)}, XW T E σ H env c fs → XW T E σ2 H3 env3 c fs := fun x => ((x.pt p1).lock ow).ptS p13
    refine hg σ2 F3 H3 env3 _ x _ p3.st m3.sl ((Res.Post.bind (x := ft its[i] env3) q2).mono (fun env4 q4 σ4 F4 H4 p4 => ?_) fun _ _ x => xw x)
    have p14 := p13.trans p4.s
    have xw4 : ∀ {c : Str} {fs : List (Str × Rx.D)}, XW T E σ H env c fs → XW T E σ4 H4 env4 c fs := fun x => (xw x).ptS p4.s
    refine hb.use σ4 F4 H4 env4 _ p4.s.st (Res.Post.mono q4 (fun (f, env5) q5 => ?_) fun _ _ x => xw4 x)
    rw [hs] at q5
    cases f with
    | nx => exact fun σ5 F5 H5 p5 => ⟨F5, env5, p14.trans p5, q5⟩
    | ct => exact fun σ5 F5 H5 p5 => ⟨F5, env5, p14.trans p5, q5⟩
    | bk => exact fun σ5 F5 H5 p5 => q5 σ5 F5 H5 (p1S.trans (un (p14.trans p5)).1)
    | rt w => 
      refine fun v σ5 F5 H5 p5 m5 f5 => q5 v σ5 F5 H5 (p1S.trans (un (p14.trans p5)).1) ?_ ?_
      · refine ⟨m5.sl, fun hw a ea z => ?_⟩
        rcases (un (p14.trans p5)).2 a z with y | ⟨y1, y2⟩
        · exact m5.no hw a ea y
        · rcases (f5.preS p14) hw a ea with u | u
          · exact y1 u
          · exact y2 u
      · intro hw a ea
        rcases (f5.preS p14) hw a ea with u | u
        · by_cases y : H a = none
          · exact .inl y
          · exact absurd u (p1.there a y)
        · exact .inr (p1.own a (ow a u))
end
end Rx

set_option Elab.async false
set_option linter.all false
set_option autoImplicit false
set_option maxRecDepth 100000
namespace Rx
open PySem L2
section
variable {T : TX} {E : XK} {σ : St} {F H F' H' : Hp} {env env' : Env}
theorem wipeE_get (env : Env) : ∀ (vs : List Nat) (k : Nat), (wipeE env vs)[k]? = if k ∈ vs then env[k]?.map (fun _ => Slot.emp) else env[k]?
  | [], k => by
    rw [if_neg (by simp)]
    rfl
  | v :: vs, k => by
    show ((wipeE env vs).set v .emp)[k]? = _
    rw [List.getElem?_set]
    have ih := wipeE_get env vs k
    have len : (wipeE env vs).length = env.length := by
      clear ih
      induction vs with
      | nil => rfl
      | cons u us ih => rw [show wipeE env (u :: us) = (wipeE env us).set u .emp from rfl, List.length_set, ih]
    by_cases hk : v = k
    · subst hk
      rw [if_pos rfl, if_pos List.mem_cons_self, len]
      by_cases hl : v < env.length
      · rw [if_pos hl, List.getElem?_eq_getElem hl]
        rfl
      · rw [if_neg hl, List.getElem?_eq_none (by omega)]
        rfl
    · rw [if_neg hk, ih]
      by_cases hm : k ∈ vs
      · rw [if_pos hm, if_pos (List.mem_cons_of_mem _ hm)]
      · rw [if_neg hm, if_neg (by simp only [List.mem_cons, not_or]; exact ⟨fun e => hk e.symm, hm⟩)]
theorem wipeE_len (env : Env) (vs : List Nat) : (wipeE env vs).length = env.length := by
  induction vs with
  | nil => rfl
  | cons u us ih => rw [show wipeE env (u :: us) = (wipeE env us).set u .emp from rfl, List.length_set, ih]
theorem restE_len (old env : Env) (vs : List Nat) : (restE old env vs).length = env.length := by
  induction vs with
  | nil => rfl
  | cons u us ih => rw [show restE old env (u :: us) = (restE old env us).set u (old.getD u .emp) from rfl, List.length_set, ih]
theorem restE_get (old env : Env) : ∀ (vs : List Nat) (k : Nat), (restE old env vs)[k]? = if k ∈ vs then env[k]?.map (fun _ => old.getD k .emp) else env[k]?
  | [], k => by
    rw [if_neg (by simp)]
    rfl
  | v :: vs, k => by
    show ((restE old env vs).set v (old.getD v .emp))[k]? = _
    rw [List.getElem?_set]
    have ih := restE_get old env vs k
    by_cases hk : v = k
    · subst hk
      rw [if_pos rfl, if_pos List.mem_cons_self, restE_len]
      by_cases hl : v < env.length
      · rw [if_pos hl, List.getElem?_eq_getElem hl]
        rfl
      · rw [if_neg hl, List.getElem?_eq_none (by omega)]
        rfl
    · rw [if_neg hk, ih]
      by_cases hm : k ∈ vs
      · rw [if_pos hm, if_pos (List.mem_cons_of_mem _ hm)]
      · rw [if_neg hm, if_neg (by simp only [List.mem_cons, not_or]; exact ⟨fun e => hk e.symm, hm⟩)]
theorem wipe_get (σ : St) : ∀ (vs : List Nat) (k : Nat), (wipe σ vs)[k]? = if k ∈ vs then σ[k]?.map (fun _ => none) else σ[k]?
  | [], k => by
    rw [if_neg (by simp)]
    rfl
  | v :: vs, k => by
    show ((wipe σ vs).set v none)[k]? = _
    rw [List.getElem?_set]
    have ih := wipe_get σ vs k
    by_cases hk : v = k
    · subst hk
      rw [if_pos rfl, if_pos List.mem_cons_self, wipe_length]
      by_cases hl : v < σ.length
      · rw [if_pos hl, List.getElem?_eq_getElem hl]
        rfl
      · rw [if_neg hl, List.getElem?_eq_none (by omega)]
        rfl
    · rw [if_neg hk, ih]
      by_cases hm : k ∈ vs
      · rw [if_pos hm, if_pos (List.mem_cons_of_mem _ hm)]
      · rw [if_neg hm, if_neg (by simp only [List.mem_cons, not_or]; exact ⟨fun e => hk e.symm, hm⟩)]
theorem wipe_ext {σ τ : St} {vs : List Nat} (hl : σ.length = τ.length) (h : ∀ (k : Nat), k ∉ vs → σ[k]? = τ[k]?) : wipe σ vs = wipe τ vs := by
  refine List.ext_getElem? fun k => ?_
  rw [wipe_get, wipe_get]
  by_cases hk : k ∈ vs
  · rw [if_pos hk, if_pos hk]
    by_cases hb : k < σ.length
    · rw [List.getElem?_eq_getElem hb, List.getElem?_eq_getElem (hl ▸ hb)]
      rfl
    · rw [List.getElem?_eq_none (by omega), List.getElem?_eq_none (by omega)]
  · rw [if_neg hk, if_neg hk, h k hk]
theorem OwnK.wipe {vs : List Nat} {k : Nat} (h : OwnK (wipeE env vs) k) : k ∉ vs ∧ OwnK env k := by
  obtain ⟨p, w, e, f⟩ := h
  rw [wipeE_get] at e
  by_cases hk : k ∈ vs
  · rw [if_pos hk] at e
    cases h2 : env[k]? with
    | none =>
      rw [h2] at e
      cases e
    | some s =>
      rw [h2] at e
      cases e
  · rw [if_neg hk] at e
    exact ⟨hk, p, w, e, f⟩
theorem OwnK.wiped {vs : List Nat} {k : Nat} (hk : k ∉ vs) (h : OwnK env k) : OwnK (wipeE env vs) k := by
  obtain ⟨p, w, e, f⟩ := h
  exact ⟨p, w, by rw [wipeE_get, if_neg hk]; exact e, f⟩
theorem Owns.wipe {vs : List Nat} {a : Addr} (h : Owns (L2.wipe σ vs) (wipeE env vs) a) : Owns σ env a := by
  obtain ⟨k, hk, e⟩ := h
  obtain ⟨n, ho⟩ := hk.wipe
  rw [wipe_get, if_neg n] at e
  exact ⟨k, ho, e⟩
theorem Stk.wipe (st : Stk T F H σ env) (vs : List Nat) : Stk T F H (L2.wipe σ vs) (wipeE env vs) where
  sub := st.sub
  len := by rw [wipeE_len, wipe_length]; exact st.len
  sl := fun k p w e => by
    rw [wipeE_get] at e
    by_cases hk : k ∈ vs
    · rw [if_pos hk] at e
      cases h2 : env[k]? with
      | none =>
        rw [h2] at e
        cases e
      | some s =>
        rw [h2] at e
        cases e
    · rw [if_neg hk] at e
      rw [wipe_get, if_neg hk]
      exact st.sl k p w e
  inj := fun k j a hk hj e1 e2 => by
    obtain ⟨n1, o1⟩ := hk.wipe
    obtain ⟨n2, o2⟩ := hj.wipe
    rw [wipe_get, if_neg n1] at e1
    rw [wipe_get, if_neg n2] at e2
    exact st.inj k j a o1 o2 e1 e2
/-- behind a block: its own names are what they were -/
theorem PtS.unwipe {env2 env3 : Env} {vs : List Nat} (st : Stk T F H σ env2) (p : PtS T (L2.wipe σ vs) F H (wipeE env2 vs) (L2.wipe σ vs) F' H' (wipeE env3 vs)) (ok : ∀ (k : Nat), OwnK (wipeE env3 vs) k → OwnK (wipeE env2 vs) k) :
    PtS T σ F H env2 σ F' H' (restE env2 env3 vs) ∧ ∀ (k : Nat), OwnK (restE env2 env3 vs) k → OwnK env2 k := by
  have ln : env3.length = env2.length := by
    have := p.len
    rw [wipeE_len, wipeE_len] at this
    exact this
  have inn : ∀ {k : Nat}, k ∈ vs → (restE env2 env3 vs)[k]? = env2[k]? := fun {k} hk => by
    rw [restE_get, if_pos hk]
    by_cases hb : k < env3.length
    · rw [List.getElem?_eq_getElem hb, List.getElem?_eq_getElem (ln ▸ hb)]
      show some (env2.getD k .emp) = _
      rw [List.getD_eq_getElem?_getD, List.getElem?_eq_getElem (ln ▸ hb)]
      rfl
    · rw [List.getElem?_eq_none (by omega), List.getElem?_eq_none (by omega)]
      rfl
  have out : ∀ {k : Nat}, k ∉ vs → (restE env2 env3 vs)[k]? = (wipeE env3 vs)[k]? := fun {k} hk => by
    rw [restE_get, if_neg hk, wipeE_get, if_neg hk]
  have ownk : ∀ (k : Nat), OwnK (restE env2 env3 vs) k → OwnK env2 k ∧ (k ∉ vs → OwnK (wipeE env3 vs) k) := fun k ⟨q, w, e, f⟩ => by
    by_cases hk : k ∈ vs
    · rw [inn hk] at e
      exact ⟨⟨q, w, e, f⟩, fun n => absurd hk n⟩
    · rw [out hk] at e
      exact ⟨(ok k ⟨q, w, e, f⟩).wipe.2, fun _ => ⟨q, w, e, f⟩⟩
  -- what a hidden place owns is not touched
  have hid : ∀ {k : Nat} {w : Val} {v : V} {q : Bool}, k ∈ vs → env2[k]? = some (Slot.val q w) → σ[k]? = some (some v) → w.isFz = false → ∀ a, v = .ref a → ¬ Owns (L2.wipe σ vs) (wipeE env2 vs) a := fun {k w v q} hk e ev hw a ea z => by
    obtain ⟨j, hj, ej⟩ := z
    obtain ⟨n, oj⟩ := hj.wipe
    rw [wipe_get, if_neg n] at ej
    have := st.inj j k a oj ⟨q, w, e, hw⟩ ej (by rw [ev, ea])
    subst this
    exact n hk
  refine ⟨⟨⟨p.st.sub, by rw [restE_len, ln]; exact st.len, fun k q w e => ?_, fun k j a hk hj e1 e2 => ?_⟩, p.mono, fun a f n => (p.grow a f n).imp_left Owns.wipe, fun a o e n => p.keep a o e fun z => n z.wipe, p.there, fun a h => ?_, fun k => ?_, fun _ _ => rfl, by rw [restE_len, ln]⟩, fun k h => (ownk k h).1⟩
  · by_cases hk : k ∈ vs
    · rw [inn hk] at e
      obtain ⟨v, ev, sl⟩ := st.sl k q w e
      refine ⟨v, ev, sl.moves p.mono fun hw a o ea ho hF nt => ⟨p.keep a o ho (hid hk e ev hw a ea), ?_⟩⟩
      by_cases z : F' a = none
      · exact z
      · rcases p.grow a hF z with y | y
        · exact absurd y (hid hk e ev hw a ea)
        · obtain ⟨xs, z⟩ := y o ho
          exact absurd z (nt xs)
    · rw [out hk] at e
      obtain ⟨v, ev, sl⟩ := p.st.sl k q w e
      rw [wipe_get, if_neg hk] at ev
      exact ⟨v, ev, sl⟩
  · exact st.inj k j a (ownk k hk).1 (ownk j hj).1 e1 e2
  · obtain ⟨k, hk, e⟩ := h
    exact .inl ⟨k, (ownk k hk).1, e⟩
  · by_cases hk : k ∈ vs
    · rw [inn hk]
    · rw [out hk, p.pin, wipeE_get, if_neg hk]
theorem PtS.toPt (p : PtS T σ F H env σ F' H' env') (ok : ∀ (k : Nat), OwnK env' k → OwnK env k) : Pt T σ F H env F' H' env' := ⟨p.st, p.mono, p.grow, p.keep, p.there, ok, p.pin⟩
/-- another object that is no place's and not done with changes, or comes -/
theorem Stk.other {p : Addr} {o : HO} (st : Stk T F H σ env) (f : F p = none) (n : ¬ Owns σ env p) : Stk T F (upd H p o) σ env where
  sub := fun a u e => by
    by_cases h : a = p
    · subst h
      rw [f] at e
      cases e
    · rw [upd_ne h]
      exact st.sub a u e
  len := st.len
  sl := fun k q w e => by
    obtain ⟨v, ev, sl⟩ := st.sl k q w e
    refine ⟨v, ev, sl.moves (Sub.refl F) fun hw a u ea hu hF _ => ⟨?_, hF⟩⟩
    have : a ≠ p := by
      rintro rfl
      exact n ⟨k, ⟨q, w, e, hw⟩, by rw [ev, ea]⟩
    rw [upd_ne this]
    exact hu
  inj := st.inj
variable (T) (E) in
/-- a clause's tests -/
def RdB (f : Env → Res (Bool × Env)) (t : TT) : Prop := ∀ (σ : St) (F H : Hp) (env : Env) (Q : Bool → Hp → Prop), Stk T F H σ env →
  (f env).Post (fun r => ∀ F' H', Pt T σ F H env F' H' r.2 → Q r.1 H') (XW T E σ H env) → t σ H Q
theorem rd_yes : RdB T E (fun env => .ok (true, env)) tYes := fun σ F H env Q st q => q F H (Pt.refl st)
theorem RdB.of {f : Env → Res (Val × Env)} {t : TT} (h : RdT T E f t) : RdB T E (fun env => (f env).bind fun (w, env1) => match w with
    | .fz (.bl b) => .ok (b, env1)
    | _ => .bad) t := fun σ F H env Q st q =>
  h σ F H env Q st (q.bind.mono (fun (w, env1) k => by
    cases w with
    | fz d =>
      cases d with
      | bl b => exact ⟨b, rfl, k⟩
      | _ => exact k.elim
    | _ => exact k.elim) fun _ _ x => x)
/-- in a comprehension's block nothing may be raised -/
abbrev E0 : XK := fun _ _ _ => False
theorem Res.Post.ofNox {α : Type} {x : Res α} {K : α → Prop} {X : Str → List (Str × D) → Prop} (h : x.nox.Post K X) : x.Post K (fun _ _ => False) := by
  cases x with
  | ok a => exact h
  | exc c fs => exact h.elim
  | bad => exact h
theorem rd_comp {fa : Env → Res (List Arg × Env)} {ta : TA} {k : IK} {n : Nat} {r : List V → Hp → (It → Hp → Prop) → Prop} {ft : D → Env → Res Env} {is : List Nat} {g : TG} {fc : Env → Res (Bool × Env)} {tt : TT} {fe : Env → Res (Val × Env)} {te : TE} {vs : List Nat}
    (ha : RdA T E fa ta) (hl : LenA n fa) (hk : IkS T n k r) (hg : RdTg T E0 ft is g) (hs : ∀ i ∈ is, i ∈ vs) (hc : RdB T E0 fc tt) (he : RdE T E0 fe te) :
    RdE T E (fun env => (prel fa k env).bind fun ((its, sv), env2) =>
      (compL (fun d env => (ft d (wipeE env vs)).bind fun env3 => (fc env3).bind fun (b, env4) => match b with
        | true => (fe env4).bind fun (w, env5) => .ok (some w.frz, env5)
        | false => .ok (none, env4)) its [] (wipeE env2 vs)).nox.bind fun (l, env6) => .ok (.own l, unlock sv (restE env2 env6 vs)))
      (tLc (fun σ H R => ta σ H fun vs H1 => r vs H1 R) g tt te vs) := fun σ F H env Q st q => by
  refine rd_prel ha hl hk σ F H env _ st (q.bind.mono (fun ((its, sv), env2) q J F1 H1 env1 p1 st2 ow ok un uk ij => ?_) fun _ _ x => x)
  have q := Res.Post.ofNox (Res.Post.bind q)
  generalize hst : (fun d env => (ft d (wipeE env vs)).bind fun env3 => (fc env3).bind fun (b, env4) => match b with
        | true => (fe env4).bind fun (w, env5) => .ok (some w.frz, env5)
        | false => .ok (none, env4)) = step at q
  intro p hp
  have f1p : F1 p = none := none_sub st2.sub hp
  have stw := st2.wipe vs
  have nop : ∀ {env}, (∀ a, Owns (wipe σ vs) env a → Owns σ env2 a) → ¬ Owns (wipe σ vs) env p := fun {env} h z => by
    obtain ⟨k, ⟨b, w, ek, hf⟩, eσ⟩ := h p z
    obtain ⟨v, ev, sl⟩ := st2.sl k b w ek
    obtain ⟨c, ec, hc, _⟩ := sl.ref hf
    rw [eσ] at ev
    cases ev
    cases ec
    exact hc hp
  have wo : ∀ a, Owns (wipe σ vs) (wipeE env2 vs) a → Owns σ env2 a := fun a => Owns.wipe
  -- behind i items: what is made so far stands at p
  let Wv : Nat → Hp → Prop := fun i H2 => ∃ F2 env3 acc xs, PtS T (wipe σ vs) F1 H1 (wipeE env2 vs) (wipe σ vs) F2 H2 (wipeE env3 vs) ∧ (∀ (k : Nat), OwnK (wipeE env3 vs) k → OwnK (wipeE env2 vs) k) ∧
    H2 p = some (.lst xs) ∧ F2 p = none ∧ Rzs T F2 acc xs ∧ (compL step (its.drop i) acc env3).Post (fun (l, env6) => (Res.ok (Val.own l, unlock sv (restE env2 env6 vs)) : Res (Val × Env)).Post (fun r => ∀ v F' H', Pt T σ F H env F' H' r.2 → Tm T σ F' H' r.2 r.1 v → Fresh σ H env r.1 v → Q v H') (XW T E σ H env)) (fun _ _ => False)
  have w2 : ∀ (e : Env), wipeE (wipeE e vs) vs = wipeE e vs := fun e => by
    refine List.ext_getElem? fun k => ?_
    rw [wipeE_get, wipeE_get]
    by_cases hk : k ∈ vs
    · rw [if_pos hk, if_pos hk]
      cases e[k]? <;> rfl
    · rw [if_neg hk, if_neg hk]
  refine ⟨fun i m H2 => m = its.length - i ∧ Wv i H2, ⟨its.length - 0, rfl, F1, wipeE env2 vs, [], [], ?_, ?_, upd_same, f1p, rfl, q⟩, ?_⟩
  · rw [w2]
    have s2 : Stk T F1 (upd H1 p (.lst [])) (wipe σ vs) (wipeE env2 vs) := stw.other f1p (nop wo)
    exact ⟨s2, Sub.refl _, fun a e n => absurd e n, fun a o e _ => keep_new hp a o e, fun a h => by
      cases e : H1 a with
      | none => exact absurd e h
      | some o =>
        rw [keep_new hp a o e]
        simp, fun a h => .inl h, fun _ => rfl, fun _ _ => rfl, rfl⟩
  · rw [w2]
    exact fun _ h => h
  rintro i m H2 ⟨rfl, F2, env3, acc, xs, p2, ok2, hD, fD, rz, q2⟩
  have own2 : ∀ a, Owns (wipe σ vs) (wipeE env3 vs) a → Owns σ env2 a := fun a ⟨k, hk, e⟩ => wo a ⟨k, ok2 k hk, e⟩
  obtain ⟨stop, go⟩ := ij H2 F2 ⟨p2.mono.trans p2.st.sub, fun a o n h => p2.keep a o h fun z => n (wo a z)⟩ p2.mono p2.st.sub i
  by_cases hi : its.length ≤ i
  · refine .inl ⟨stop hi, ?_⟩
    rw [List.drop_eq_nil_of_le hi] at q2
    obtain ⟨pu, ou⟩ := PtS.unwipe st2 p2 ok2
    obtain ⟨pv, po⟩ := un pu
    have pt : Pt T σ F1 H1 env1 F2 H2 (unlock sv (restE env2 env3 vs)) := pv.toPt fun k h => (uk _ k h).elim (fun z => ok k (ou k z)) id
    refine q2 (.ref p) F2 H2 (p1.trans pt) ⟨⟨p, xs, rfl, hD, rz, fD⟩, fun _ a ea z => ?_⟩ fun _ a ea => .inl ?_
    · cases ea
      rcases po p z with y | ⟨y, _⟩
      · obtain ⟨k, hk, e⟩ := y
        obtain ⟨b, w, ek, hf⟩ := ou k hk
        obtain ⟨v, ev, sl⟩ := st2.sl k b w ek
        obtain ⟨c, ec, hc, _⟩ := sl.ref hf
        rw [e] at ev
        cases ev
        cases ec
        exact hc hp
      · exact y hp
    · cases ea
      by_cases y : H p = none
      · exact y
      · exact absurd hp (p1.there p y)
  · have hi : i < its.length := Nat.lt_of_not_le hi
    obtain ⟨jg, jy⟩ := go its[i] (List.getElem?_eq_getElem hi)
    refine .inr ⟨jg, Wv (i + 1), fun H' h => ⟨its.length - (i + 1), by omega, rfl, h⟩, fun x H3 hy => ?_⟩
    obtain ⟨F3, nw⟩ := jy x H3 hy
    obtain ⟨p3, m3, _⟩ := nw.pt p2.st
    rw [List.drop_eq_getElem_cons hi] at q2
    have q2 := Res.Post.bind (x := step its[i] env3) q2
    have noX : ∀ {σ H env c} {fs : List (Str × D)}, False → XW T E0 σ H env c fs := fun h => h.elim
    rw [← hst] at q2
    refine hg _ F3 H3 _ _ x _ p3.st m3.sl ((Res.Post.bind (x := ft its[i] (wipeE env3 vs)) q2).mono (fun env4 q4 σ4 F4 H4 p4 => ?_) fun _ _ h => noX h)
    rw [hst] at q4
    -- the state behind the target's store
    have p24 := p2.trans ((p3.toS p2.st).trans p4.s)
    have out4 : wipe σ4 vs = wipe σ vs := by
      have e1 : wipe (wipe σ vs) vs = wipe σ vs := wipe_ext (by rw [wipe_length]) fun k hk => by rw [wipe_get, if_neg hk]
      rw [← e1]
      refine wipe_ext ?_ fun k hk => p4.out k fun z => hk (hs k z)
      have l4 := p4.s.st.len
      have l3 := p3.st.len
      have ll := p4.s.len
      omega
    have ok4 : ∀ (k : Nat), OwnK env4 k → OwnK (wipeE env2 vs) k := fun k h => ok2 k (p3.ownk k (p4.ownk k h))
    have noD4 : ¬ Owns σ4 env4 p := fun z => by
      rcases p24.own p z with y | y
      · exact nop wo y
      · -- a place that owns p: none
        obtain ⟨k, hk, e⟩ := z
        have kk := (ok4 k hk).wipe
        have e' : (wipe σ4 vs)[k]? = some (some (.ref p)) := by rw [wipe_get, if_neg kk.1]; exact e
        rw [out4] at e'
        exact nop wo ⟨k, ok4 k hk, e'⟩
    have keepD : H3 p = some (.lst xs) ∧ F3 p = none := by
      refine ⟨nw.keep _ _ hD, ?_⟩
      by_cases z : F3 p = none
      · exact z
      · obtain ⟨_, z⟩ := nw.grow p fD z _ hD
        cases z
    have noD3 : ¬ Owns (wipe σ vs) (wipeE env3 vs) p := nop own2
    have keepD4 : H4 p = some (.lst xs) ∧ F4 p = none := by
      refine ⟨p4.s.keep p _ keepD.1 noD3, ?_⟩
      by_cases z : F4 p = none
      · exact z
      · rcases p4.s.grow p keepD.2 z with y | y
        · exact absurd y noD3
        · obtain ⟨_, z⟩ := y _ keepD.1
          cases z
    have rz4 : Rzs T F4 acc xs := Rzs.sub (nw.mono.trans p4.s.mono) _ _ rz
    refine ⟨out4, ?_⟩
    refine hc σ4 F4 H4 env4 _ p4.s.st ((Res.Post.bind q4).mono (fun (b, env5) q5 F5 H5 p5 => ?_) fun _ _ h => noX h)
    have keepD5 := p5.stays keepD4.1 noD4 keepD4.2 (fun xs z => by cases z)
    have rz5 : Rzs T F5 acc xs := Rzs.sub p5.mono _ _ rz4
    -- from the end of a turn to the next one
    have fin : ∀ {F6 H6 env6}, Pt T σ4 F4 H4 env4 F6 H6 env6 → PtS T (wipe σ vs) F1 H1 (wipeE env2 vs) (wipe σ vs) F6 H6 (wipeE env6 vs) ∧ ∀ (k : Nat), OwnK (wipeE env6 vs) k → OwnK (wipeE env2 vs) k := fun {F6 H6 env6} p6 => by
      have p26 := p24.trans (p6.toS p4.s.st)
      have ok6 : ∀ (k : Nat), OwnK (wipeE env6 vs) k → OwnK (wipeE env2 vs) k := fun k h => ok4 k (p6.ownk k h.wipe.2)
      have s6 := p6.st.wipe vs
      rw [out4] at s6
      refine ⟨⟨s6, p26.mono, p26.grow, p26.keep, p26.there, fun a ⟨k, hk, e⟩ => .inl ⟨k, ok6 k hk, e⟩, fun k => ?_, fun _ _ => rfl, ?_⟩, ok6⟩
      · rw [wipeE_get]
        by_cases hk : k ∈ vs
        · rw [if_pos hk, wipeE_get, if_pos hk]
          have ln : env6.length = env2.length := by
            have := p26.len
            rw [wipeE_len] at this
            exact this
          by_cases hb : k < env6.length
          · rw [List.getElem?_eq_getElem hb, List.getElem?_eq_getElem (ln ▸ hb)]
            rfl
          · rw [List.getElem?_eq_none (by omega), List.getElem?_eq_none (by omega)]
        · rw [if_neg hk]
          exact p26.pin k
      · rw [wipeE_len]
        exact p26.len
    cases b with
    | false =>
      rw [if_neg Bool.false_ne_true]
      obtain ⟨pf, of⟩ := fin p5
      exact ⟨F5, env5, acc, xs, pf, of, keepD5.1, keepD5.2, rz5, q5⟩
    | true =>
      rw [if_pos rfl]
      refine he σ4 F5 H5 env5 _ p5.st ((Res.Post.bind q5).mono (fun (w, env6) q6 y F6 H6 p6 m6 f6 => ?_) fun _ _ h => noX h)
      have p56 := p5.trans p6
      have keepD6 := p56.stays keepD4.1 noD4 keepD4.2 (fun xs z => by cases z)
      obtain ⟨F7, mo7, su7, rz7, g7⟩ := m6.sl.freeze p6.st.sub
      have p57 : Pt T σ4 F4 H4 env4 F7 H6 env6 := p56.more mo7 su7 fun a n => (g7 a n).imp_right fun ⟨hw, ea⟩ => ⟨m6.no hw a ea, (f6.pre p5) hw a ea⟩
      have f7p : F7 p = none := by
        by_cases z : F7 p = none
        · exact z
        · rcases p57.grow p keepD4.2 z with y | y
          · exact absurd y noD4
          · obtain ⟨_, z⟩ := y _ keepD4.1
            cases z
      have q6 : (if acc.length < SL then compL step (its.drop (i + 1)) (acc ++ [w.frz]) env6 else .bad).Post _ _ := q6
      by_cases hlen : acc.length < SL
      · rw [if_pos hlen] at q6
        refine ⟨xs, keepD6.1, by rw [← rz.len, ← SL_line]; exact hlen, ?_⟩
        obtain ⟨pf, of⟩ := fin p57
        have rz8 : Rzs T F7 (acc ++ [w.frz]) (xs ++ [y]) := (Rzs.sub p57.mono _ _ rz4).app ⟨y, [], rfl, rz7, rfl⟩
        have nD : ¬ Owns (wipe σ vs) (wipeE env6 vs) p := fun ⟨k, hk, e⟩ => nop wo ⟨k, of k hk, e⟩
        refine ⟨F7, env6, acc ++ [w.frz], xs ++ [y], ⟨pf.st.other f7p nD, pf.mono, pf.grow, fun a o e n => ?_, fun a h => ?_, pf.own, pf.pin, pf.sig, pf.len⟩, of, upd_same, f7p, rz8, q6⟩
        · rw [upd_ne (ne_of_none e hp)]
          exact pf.keep a o e n
        · by_cases ha : a = p
          · subst ha
            rw [upd_same]
            simp
          · rw [upd_ne ha]
            exact pf.there a h
      · rw [if_neg hlen] at q6
        exact q6.elim
end
end Rx

set_option Elab.async false
set_option linter.all false
set_option autoImplicit false
set_option maxRecDepth 100000
namespace Rx
open PySem L2
section
variable {T : TX} {E : XK} {σ : St} {F H F' H' : Hp} {env env' : Env}
/-- what a place owns changes -/
theorem Stk.write {i : Nat} {p : Bool} {w w' : Val} {a : Addr} {o : HO} (st : Stk T F H σ env) (e : env[i]? = some (Slot.val p w)) (hw : w.isFz = false) (hw' : w'.isFz = false) (ev : σ[i]? = some (some (.ref a))) (ha : H a ≠ none) (hf : F a = none)
    (sl : Sl T F (upd H a o) w' (.ref a)) : Pt T σ F H env F (upd H a o) (env.set i (Slot.val p w')) := by
  have il : i < env.length := (List.getElem?_eq_some_iff.mp e).1
  have own : ∀ (k : Nat), OwnK (env.set i (Slot.val p w')) k → OwnK env k := fun k h => by
    rcases h.set with ⟨rfl, _⟩ | ⟨_, h⟩
    · exact ⟨p, w, e, hw⟩
    · exact h
  have me : Owns σ env a := ⟨i, ⟨p, w, e, hw⟩, ev⟩
  refine ⟨⟨fun b u q => ?_, by rw [List.length_set]; exact st.len, fun k q u ek => ?_, fun k j b hk hj e1 e2 => st.inj k j b (own k hk) (own j hj) e1 e2⟩, Sub.refl F, fun b f n => absurd f n, fun b u q n => ?_, fun b h => ?_, own, fun k => ?_⟩
  · have : b ≠ a := by
      rintro rfl
      rw [hf] at q
      cases q
    rw [upd_ne this]
    exact st.sub b u q
  · by_cases hk : i = k
    · subst hk
      rw [List.getElem?_set_self il] at ek
      cases ek
      exact ⟨.ref a, ev, sl⟩
    · rw [List.getElem?_set_ne hk] at ek
      obtain ⟨v, evk, slk⟩ := st.sl k q u ek
      refine ⟨v, evk, slk.moves (Sub.refl F) fun hu b z eb hb hF _ => ⟨?_, hF⟩⟩
      have : b ≠ a := by
        rintro rfl
        exact hk (st.inj i k b ⟨p, w, e, hw⟩ ⟨q, u, ek, hu⟩ ev (by rw [evk, eb]))
      rw [upd_ne this]
      exact hb
  · have : b ≠ a := by
      rintro rfl
      exact n me
    rw [upd_ne this]
    exact q
  · by_cases hb : b = a
    · subst hb
      rw [upd_same]
      simp
    · rw [upd_ne hb]
      exact h
  · by_cases hk : i = k
    · subst hk
      rw [List.getElem?_set_self il, e]
      cases p <;> rfl
    · rw [List.getElem?_set_ne hk]
/-- a method's rule, by values -/
def MtS (T : TX) (n : Nat) (m : Mt) (r : V → List V → Hp → VK → Prop) : Prop := ∀ (F H : Hp) (l l' : List D) (ds : List D) (d : D) (a : Addr) (xs vs : List V) (Q : VK), ds.length = n → mtd m (.own l) ds = .ok (d, .own l') → Sub F H →
  H a = some (.lst xs) → F a = none → Rzs T F l xs → Rzs T F ds vs → (∀ y xs', Rz T F d y → Rzs T F l' xs' → Q y (upd H a (.lst xs'))) → r (.ref a) vs H Q
theorem mtd_own {m : Mt} {l : List D} {ds : List D} {r : D × Val} (h : mtd m (.own l) ds = .ok r) : ∃ l', r.2 = .own l' := by
  unfold mtd at h
  split at h
  all_goals first
    | (split at h <;> first | (cases h; exact ⟨_, rfl⟩) | (split at h <;> first | (cases h; exact ⟨_, rfl⟩) | cases h) | cases h)
    | cases h
theorem mtd_noexc {m : Mt} {w : Val} {ds : List D} {c : Str} {fs : List (Str × D)} : mtd m w ds ≠ .exc c fs := by
  intro h
  unfold mtd at h
  split at h
  all_goals first
    | (split at h <;> first | cases h | (split at h <;> cases h))
    | cases h
theorem rd_mut {i n : Nat} {m : Mt} {fa : Env → Res (List Val × Env)} {ta : TA} {r : V → List V → Hp → VK → Prop} (ha : RdV T E fa ta) (hl : LenA n (mapV fa)) (hm : MtS T n m r) :
    RdE T E (fun env => match env[i]? with
      | some (.val _ (.own _)) => (fa env).bind fun (ws, env1) => (mutSlot i env1 fun w => mtd m w (ws.map Val.frz)).bind fun (d, env2) => .ok (.fz d, env2)
      | _ => .bad) (tBM T.K "list" r (tVar i) ta) := fun σ F H env Q st q => by
  have q : (match env[i]? with
      | some (Slot.val _ (.own _)) => (fa env).bind fun (ws, env1) => (mutSlot i env1 fun w => mtd m w (ws.map Val.frz)).bind fun (d, env2) => .ok (Val.fz d, env2)
      | _ => .bad).Post _ _ := q
  cases e : env[i]? with
  | none =>
    rw [e] at q
    exact q.elim
  | some s =>
    rw [e] at q
    cases s with
    | emp => exact q.elim
    | lck => exact q.elim
    | val p w =>
      cases w with
      | own l0 =>
        obtain ⟨v, ev, a, xs0, rfl, hH0, rz0, hF0⟩ := st.sl i p _ e
        refine ⟨.ref a, ev, .inl ⟨rfl, xs0, SqL.of hH0⟩, ?_⟩
        refine ha.use σ F H env _ st ((Res.Post.bind q).len' hl |>.mono (fun (ws, env1) ⟨ln, k⟩ vs F1 H1 p1 m1 f1 => ?_) fun _ _ x => x)
        obtain ⟨F2, mo2, su2, rz2, g2⟩ := m1.frzs p1.st.sub
        have p2 : Pt T σ F H env F2 H1 env1 := p1.more mo2 su2 fun a n => (g2 a n).imp_right fun z => ⟨(m1.tmp z).2.2, f1 a z⟩
        have k := Res.Post.bind k
        unfold mutSlot at k
        cases e1 : env1[i]? with
        | none =>
          rw [e1] at k
          exact k.elim
        | some s =>
          rw [e1] at k
          cases s with
          | emp => exact k.elim
          | lck => exact k.elim
          | val p1' w1 =>
            have k := Res.Post.bind (x := mtd m w1 (ws.map Val.frz)) k
            cases e2 : mtd m w1 (ws.map Val.frz) with
            | exc c fs => exact absurd e2 mtd_noexc
            | bad =>
              rw [e2] at k
              exact k.elim
            | ok x =>
              obtain ⟨d, w2⟩ := x
              rw [e2] at k
              cases w1 with
              | own l =>
                obtain ⟨l', rfl⟩ : ∃ l', w2 = .own l' := mtd_own e2
                obtain ⟨v1, ev1, a1, xs1, rfl, hH1, rz1, hF1⟩ := p2.st.sl i p1' _ e1
                rw [ev] at ev1
                cases ev1
                refine hm F2 H1 l l' (ws.map Val.frz) d a xs1 vs Q (by rw [List.length_map]; exact ln) e2 su2 hH1 hF1 rz1 rz2 fun y xs' ry rl => ?_
                have p3 := p2.st.write (o := .lst xs') e1 rfl (w' := .own l') rfl ev (by rw [hH1]; simp) hF1 ⟨a, xs', rfl, upd_same, rl, hF1⟩
                exact k y F2 _ (p2.trans p3) (Tm.fz ry) (Fresh.fz d y)
              | _ => cases m <;> cases e2
      | _ => exact q.elim
theorem rzs1 {d : D} {vs : List V} (h : Rzs T F [d] vs) : ∃ v, vs = [v] ∧ Rz T F d v := by
  obtain ⟨v, r, rfl, q, t⟩ := h
  rw [show r = [] from t]
  exact ⟨v, rfl, q⟩
theorem rzs2 {d e : D} {vs : List V} (h : Rzs T F [d, e] vs) : ∃ v u, vs = [v, u] ∧ Rz T F d v ∧ Rz T F e u := by
  obtain ⟨v, r, rfl, q, t⟩ := h
  obtain ⟨u, hu, q2⟩ := rzs1 t
  exact ⟨v, u, by rw [hu], q, q2⟩
theorem mt_append' : MtS T 1 .append rAppend := by
  intro F H l l' ds d a xs vs Q hn h hs hH hF rz rv k
  obtain ⟨e, rfl⟩ := len1 hn
  obtain ⟨v, rfl, re⟩ := rzs1 rv
  have h : (if l.length < SL then (Res.ok (D.non, Val.own (l ++ [e])) : Res (D × Val)) else .bad) = .ok (d, .own l') := h
  by_cases hl : l.length < SL
  · rw [if_pos hl] at h
    cases h
    exact ⟨a, xs, v, rfl, rfl, hH, by rw [← rz.len, ← SL_line]; exact hl, k .non _ rfl (rz.app ⟨v, [], rfl, re, rfl⟩)⟩
  · rw [if_neg hl] at h
    cases h
theorem mt_ext' : MtS T 1 .extend rExtend := by
  intro F H l l' ds d a xs vs Q hn h hs hH hF rz rv k
  obtain ⟨e, rfl⟩ := len1 hn
  obtain ⟨v, rfl, re⟩ := rzs1 rv
  cases e with
  | lst m =>
    have h : (if l.length + m.length ≤ SL then (Res.ok (D.non, Val.own (l ++ m)) : Res (D × Val)) else .bad) = .ok (d, .own l') := h
    obtain ⟨b, zs, rfl, sq, rm⟩ := re
    by_cases hl : l.length + m.length ≤ SL
    · rw [if_pos hl] at h
      cases h
      exact ⟨a, b, xs, zs, rfl, rfl, hH, hs _ _ sq, by rw [← rz.len, ← rm.len, ← SL_line]; exact hl, k .non _ rfl (rz.app rm)⟩
    · rw [if_neg hl] at h
      cases h
  | _ => cases h
theorem mt_pop' : MtS T 0 .pop rPop := by
  intro F H l l' ds d a xs vs Q hn h hs hH hF rz rv k
  obtain rfl : ds = [] := List.eq_nil_of_length_eq_zero hn
  have rv : vs = [] := rv
  subst rv
  have h : (match l[l.length - 1]? with
    | some d => (Res.ok (d, Val.own l.dropLast) : Res (D × Val))
    | none => .bad) = .ok (d, .own l') := h
  cases e : l[l.length - 1]? with
  | none =>
    rw [e] at h
    cases h
  | some y =>
    rw [e] at h
    cases h
    obtain ⟨x, hx, rx⟩ := rz.get e
    rw [rz.len] at hx
    exact ⟨a, xs, x, rfl, rfl, hH, hx, k x _ rx rz.dropLast⟩
theorem mt_popAt' : MtS T 1 .popAt rPopAt := by
  intro F H l l' ds d a xs vs Q hn h hs hH hF rz rv k
  obtain ⟨e, rfl⟩ := len1 hn
  obtain ⟨v, rfl, re⟩ := rzs1 rv
  cases e with
  | int i =>
    have h : (if decide (0 ≤ i) && B62 i then match l[i.toNat]? with
      | some d => (Res.ok (d, Val.own (l.eraseIdx i.toNat)) : Res (D × Val))
      | none => .bad else .bad) = .ok (d, .own l') := h
    by_cases h1 : (decide (0 ≤ i) && B62 i) = true
    · rw [if_pos h1] at h
      rw [Bool.and_eq_true, decide_eq_true_iff, B62_iff] at h1
      obtain ⟨h0, _, h2⟩ := h1
      cases e : l[i.toNat]? with
      | none =>
        rw [e] at h
        cases h
      | some y =>
        rw [e] at h
        cases h
        obtain ⟨x, hx, rx⟩ := rz.get e
        have hb : i.toNat < xs.length := (List.getElem?_eq_some_iff.mp hx).1
        refine ⟨a, xs, i, i.toNat, x, rfl, by rw [show v = V.int i from re], hH, by omega, by omega, ?_, hx, k x _ rx (rz.erase _)⟩
        · unfold seqIndex?
          rw [if_neg (show ¬ i < 0 by omega)]
          show (if (decide (0 ≤ i) && decide (i < (xs.length : Int))) = true then some i.toNat else none) = _
          rw [if_pos]
          rw [Bool.and_eq_true, decide_eq_true_iff, decide_eq_true_iff]
          omega
    · rw [if_neg h1] at h
      cases h
  | _ => cases h
/-- xs.insert(i, y) -/
def rIns : V → List V → Hp → VK → Prop := fun x vs H Q => ∃ (l : Addr) (xs : List V) (i : Int) (y : V), x = .ref l ∧ vs = [.int i, y] ∧ H l = some (.lst xs) ∧ xs.length < sizeLine ∧ 0 ≤ i ∧ i < 2 ^ 63 ∧
    Q .non (upd H l (.lst (xs.take i.toNat ++ [y] ++ xs.drop i.toNat)))
theorem mt_ins' : MtS T 2 .insert rIns := by
  intro F H l l' ds d a xs vs Q hn h hs hH hF rz rv k
  obtain ⟨e, e2, rfl⟩ := len2 hn
  obtain ⟨v, u, rfl, re, ru⟩ := rzs2 rv
  cases e with
  | int i =>
    have h : (if decide (0 ≤ i) && B62 i && decide (l.length < SL) then (Res.ok (D.non, Val.own (l.take i.toNat ++ e2 :: l.drop i.toNat)) : Res (D × Val)) else .bad) = .ok (d, .own l') := h
    by_cases h1 : (decide (0 ≤ i) && B62 i && decide (l.length < SL)) = true
    · rw [if_pos h1] at h
      cases h
      rw [Bool.and_eq_true, Bool.and_eq_true, decide_eq_true_iff, B62_iff, decide_eq_true_iff] at h1
      refine ⟨a, xs, i, u, rfl, by rw [show v = V.int i from re], hH, by rw [← rz.len, ← SL_line]; exact h1.2, h1.1.1, by omega, k .non _ rfl ?_⟩
      rw [List.append_assoc]
      exact (rz.take _).app ⟨u, _, rfl, ru, rz.drop _⟩
    · rw [if_neg h1] at h
      cases h
  | _ => cases h

/-! ### more statements -/
theorem setI_ok {w : Val} {i d : D} {w' : Val} (h : setI w i d = .ok w') : ∃ l k j, w = .own l ∧ i = .int k ∧ L2.ixN l.length k = some j ∧ w' = .own (l.set j d) := by
  unfold setI at h
  split at h
  · split at h
    · cases h
      exact ⟨_, _, _, rfl, rfl, by assumption, rfl⟩
    · cases h
  · cases h
theorem setI_noexc {w : Val} {i d : D} {c : Str} {fs : List (Str × D)} : setI w i d ≠ .exc c fs := by
  intro h
  unfold setI at h
  split at h
  · split at h <;> cases h
  · cases h
/-- name[e] = .. -/
theorem rd_sub {k : Nat} {f : Env → Res (Val × Env)} {t : TE} (h : RdE T E f t) : RdTg T E (fun d env => match env[k]? with
    | some (.val _ (.own _)) => (f env).bind fun (i, env1) => (mutSlot k env1 fun w => (setI w i.frz d).bind fun w' => .ok ((), w')).bind fun (_, env2) => .ok env2
    | _ => .bad) [] (gSub (tVar k) t rSetL) := fun σ F H env d v Q st r q => by
  have q : (match env[k]? with
    | some (Slot.val _ (.own _)) => (f env).bind fun (i, env1) => (mutSlot k env1 fun w => (setI w i.frz d).bind fun w' => .ok ((), w')).bind fun (_, env2) => .ok env2
    | _ => .bad).Post _ _ := q
  cases e : env[k]? with
  | none =>
    rw [e] at q
    exact q.elim
  | some s =>
    rw [e] at q
    cases s with
    | emp => exact q.elim
    | lck => exact q.elim
    | val p w =>
      cases w with
      | own l0 =>
        obtain ⟨vo, ev, a, xs0, rfl, hH0, rz0, hF0⟩ := st.sl k p _ e
        refine ⟨.ref a, ev, h σ F H env _ st ((Res.Post.bind (x := f env) q).mono (fun (i, env1) q1 vi F1 H1 p1 m1 f1 => ?_) fun _ _ x => x)⟩
        have q1 := Res.Post.bind q1
        unfold mutSlot at q1
        cases e1 : env1[k]? with
        | none =>
          rw [e1] at q1
          exact q1.elim
        | some s =>
          rw [e1] at q1
          cases s with
          | emp => exact q1.elim
          | lck => exact q1.elim
          | val p1' w1 =>
            have q1 := Res.Post.bind (Res.Post.bind (x := (setI w1 i.frz d).bind fun w' => Res.ok ((), w')) q1)
            cases e2 : setI w1 i.frz d with
            | exc c fs => exact absurd e2 setI_noexc
            | bad =>
              rw [e2] at q1
              exact q1.elim
            | ok w2 =>
              rw [e2] at q1
              obtain ⟨l, n, j, rfl, ei, hj, rfl⟩ := setI_ok e2
              obtain ⟨v1, ev1, a1, xs1, rfl, hH1, rz1, hF1⟩ := p1.st.sl k p1' _ e1
              rw [ev] at ev1
              cases ev1
              have hi : vi = .int n := by
                cases i with
                | fz d' =>
                  obtain rfl : d' = .int n := ei
                  exact m1.sl
                | own l => cases ei
                | odk l => cases ei
                | odt l => cases ei
                | oi c fs => cases ei
              refine ⟨a, xs1, n, j, rfl, hi, hH1, by rw [← rz1.len]; exact hj, ?_⟩
              have p3 := p1.st.write (o := .lst (xs1.set j v)) e1 rfl (w' := .own (l.set j d)) rfl ev (by rw [hH1]; simp) hF1 ⟨a, _, rfl, upd_same, rz1.set j (Rz.sub p1.mono _ _ r), hF1⟩
              exact q1 σ F1 _ ((p1.trans p3).toT st)
      | _ => exact q.elim
/-- x += e of whole numbers -/
theorem rd_augI {i : Nat} {fa : Env → Res (Val × Env)} {te : TE} {g : Int → Int → Int} (h : RdE T E fa te) : RdS T E (fun env => match env[i]? with
    | some (.val false (.fz (.int x))) => (fa env).bind fun (w, env1) => match w with
      | .fz (.int y) => (Res.ok (g x y)).bind fun z => (setSlot i (.fz (.int z)) env1).bind fun env2 => .ok (.nx, env2)
      | _ => .bad
    | _ => .bad) (tAug i te (ipI g)) := RdS.mk fun σ F H env D st q => by
  have q : (match env[i]? with
    | some (Slot.val false (.fz (.int x))) => (fa env).bind fun (w, env1) => match w with
      | .fz (.int y) => (Res.ok (g x y)).bind fun z => (setSlot i (.fz (.int z)) env1).bind fun env2 => .ok (Fl.nx, env2)
      | _ => .bad
    | _ => .bad).Post _ _ := q
  cases e : env[i]? with
  | none =>
    rw [e] at q
    exact q.elim
  | some s =>
    rw [e] at q
    cases s with
    | emp => exact q.elim
    | lck => exact q.elim
    | val p w =>
      cases p with
      | true => exact q.elim
      | false =>
        cases w with
        | fz d =>
          cases d with
          | int x =>
            obtain ⟨v, ev, sl⟩ := st.sl i _ _ e
            obtain rfl : v = .int x := sl
            refine ⟨.int x, ev, h σ F H env _ st ((Res.Post.bind (x := fa env) q).mono (fun (w, env1) q1 y F1 H1 p1 m1 f1 => ?_) fun _ _ x => x)⟩
            cases w with
            | fz d =>
              cases d with
              | int n =>
                obtain rfl : y = .int n := m1.sl
                refine ⟨x, n, rfl, rfl, ?_⟩
                obtain ⟨hp, k⟩ := Post.slot (Res.Post.bind (x := setSlot i (.fz (.int (g x n))) env1) q1)
                exact k _ F1 H1 (p1.store st (Tm.fz (d := .int (g x n)) rfl) (Fresh.fz _ _) hp)
              | _ => exact q1.elim
            | _ => exact q1.elim
          | _ => exact q.elim
        | _ => exact q.elim
/-! several names at once -/
theorem parSet_two {i j : Nat} {w u : Val} {env env' : Env} (h : parSet [i, j] [w, u] env = .ok env') : pst env[i]? = 0 ∧ pst (env.set i (Slot.val false w))[j]? = 0 ∧ env' = (env.set i (Slot.val false w)).set j (Slot.val false u) := by
  unfold parSet at h
  cases e1 : setSlot i w env with
  | ok env1 =>
    rw [e1, Res.bind_ok] at h
    obtain ⟨h1, rfl⟩ := setSlot_ok e1
    unfold parSet at h
    cases e2 : setSlot j u (env.set i (Slot.val false w)) with
    | ok env2 =>
      rw [e2, Res.bind_ok] at h
      obtain ⟨h2, rfl⟩ := setSlot_ok e2
      unfold parSet at h
      cases h
      exact ⟨h1, h2, rfl⟩
    | exc c fs =>
      rw [e2] at h
      cases h
    | bad =>
      rw [e2] at h
      cases h
  | exc c fs =>
    rw [e1] at h
    cases h
  | bad =>
    rw [e1] at h
    cases h
/-- the values of a row of arguments stored one after the other -/
theorem PtS.storeAll : ∀ {l : List Nat} {ws : List Val} {vs : List V} {env1 env2 : Env} {σ1 : St} {F1 H1 : Hp}, PtS T σ F H env σ1 F1 H1 env1 → Args T σ1 F1 H1 env1 (ws.map Arg.val) vs → (∀ x, TmpA (ws.map Arg.val) vs x → H x = none ∨ Owns σ env x) →
    parSet l ws env1 = .ok env2 → l.length = vs.length ∧ PtS T σ F H env ((l.zip vs).foldl (fun s p => s.set p.1 (some p.2)) σ1) F1 H1 env2
  | [], [], _, env1, env2, σ1, F1, H1, p, a, f, h => by
    cases h
    rw [show _ = ([] : List V) from a]
    exact ⟨rfl, p⟩
  | [], w :: ws, _, env1, env2, σ1, F1, H1, p, a, f, h => by cases h
  | i :: l, [], _, env1, env2, σ1, F1, H1, p, a, f, h => by cases h
  | i :: l, w :: ws, _, env1, env2, σ1, F1, H1, p, a, f, h => by
    obtain ⟨v, r, rfl, q, t, d⟩ := a
    unfold parSet at h
    cases e1 : setSlot i w env1 with
    | ok env1' =>
      rw [e1, Res.bind_ok] at h
      obtain ⟨h1, rfl⟩ := setSlot_ok e1
      have q : Tm T σ1 F1 H1 env1 w v := q
      have fr : Fresh σ H env w v := fun hw x ex => f x (.inl ⟨hw, ex⟩)
      have p1 : PtS T σ F H env (σ1.set i (some v)) F1 H1 (env1.set i (Slot.val false w)) := by
        refine ⟨p.st.store q h1, p.mono, p.grow, p.keep, p.there, fun x z => ?_, fun k => ?_, fun k hk => ?_, by rw [List.length_set]; exact p.len⟩
        · rcases z.store with ⟨hw, ex⟩ | z
          · exact (fr hw x ex).symm
          · exact p.own x z
        · rw [pst_set (s := Slot.val false w) h1, p.pin]
        · have hne : i ≠ k := by
            rintro rfl
            rw [← p.pin, h1] at hk
            exact hk rfl
          rw [List.getElem?_set_ne hne, p.sig k hk]
      have t1 : Args T (σ1.set i (some v)) F1 H1 (env1.set i (Slot.val false w)) (ws.map Arg.val) r := by
        have key : ∀ {us : List Val} {zs : List V}, Args T σ1 F1 H1 env1 (us.map Arg.val) zs → (∀ x, TmpA (us.map Arg.val) zs x → ¬ (w.isFz = false ∧ v = .ref x)) → Args T (σ1.set i (some v)) F1 H1 (env1.set i (Slot.val false w)) (us.map Arg.val) zs := by
          intro us
          induction us with
          | nil => exact fun h _ => h
          | cons u us ih =>
            intro zs h n
            obtain ⟨v', r', rfl, q', t', d'⟩ := h
            have q' : Tm T σ1 F1 H1 env1 u v' := q'
            refine ⟨v', r', rfl, ⟨q'.sl, fun hu x ex z => ?_⟩, ih t' fun x z => n x (.inr z), d'⟩
            rcases z.store with y | y
            · exact n x (.inl ⟨hu, ex⟩) y
            · exact q'.no hu x ex y
        exact key t fun x z ⟨hw, ex⟩ => d w x rfl hw ex z
      obtain ⟨l1, l2⟩ := PtS.storeAll p1 t1 (fun x z => f x (.inr z)) h
      exact ⟨by simp only [List.length_cons, l1], l2⟩
    | exc c fs =>
      rw [e1] at h
      cases h
    | bad =>
      rw [e1] at h
      cases h
theorem parSet_noexc : ∀ {l : List Nat} {ws : List Val} {env : Env} {c : Str} {fs : List (Str × D)}, parSet l ws env ≠ .exc c fs
  | [], [], _, _, _, h => by cases h
  | [], w :: ws, _, _, _, h => by cases h
  | i :: l, [], _, _, _, h => by cases h
  | i :: l, w :: ws, env, c, fs, h => by
    unfold parSet at h
    cases e1 : setSlot i w env with
    | ok env1 =>
      rw [e1, Res.bind_ok] at h
      exact parSet_noexc h
    | exc c fs => exact setSlot_noexc e1
    | bad =>
      rw [e1] at h
      cases h
def parF (fa : Env → Res (List Val × Env)) (l : List Nat) : Env → Res (Fl × Env) := fun env => (fa env).bind fun (ws, env1) => (parSet l ws env1).bind fun env2 => .ok (.nx, env2)
theorem rd_parU {l : List Nat} {fa : Env → Res (List Val × Env)} {ta : TA} (h : RdV T E fa ta) (σ : St) (F H : Hp) (env : Env) (D : Ends) (st : Stk T F H σ env) (q : (parF fa l env).Post (FlK T σ F H env D) (XW T E σ H env)) (Q : List V → Hp → Prop)
    (hq : ∀ (vs : List V) (H1 F1 : Hp) (env1 : Env), l.length = vs.length → PtS T σ F H env ((l.zip vs).foldl (fun s p => s.set p.1 (some p.2)) σ) F1 H1 env1 → (∀ σ' F' H', PtS T σ F H env σ' F' H' env1 → D.nx σ' H') → Q vs H1) : ta σ H Q := by
  refine h.use σ F H env _ st (q.bind.mono (fun (ws, env1) k vs F1 H1 p1 m1 f1 => ?_) fun _ _ x => x)
  have k := Res.Post.bind k
  cases e : parSet l ws env1 with
  | ok env2 =>
    rw [e] at k
    obtain ⟨h1, h2⟩ := PtS.storeAll (p1.toS st) m1 f1 e
    exact hq vs H1 F1 env2 h1 h2 k
  | exc c fs => exact absurd e parSet_noexc
  | bad =>
    rw [e] at k
    exact k.elim
theorem rd_par2 {i j : Nat} {fa : Env → Res (List Val × Env)} {ta : TA} (h : RdV T E fa ta) : RdS T E (parF fa [i, j]) (tPar i j ta) := RdS.mk fun σ F H env D st q =>
  rd_parU h σ F H env D st q _ fun vs H1 F1 env1 hl p k => by
    obtain ⟨v, u, rfl⟩ := len2 (show vs.length = 2 from hl.symm)
    exact ⟨v, u, rfl, k _ F1 H1 p⟩
theorem rd_par3 {i j l : Nat} {fa : Env → Res (List Val × Env)} {ta : TA} (h : RdV T E fa ta) : RdS T E (parF fa [i, j, l]) (tPar3 i j l ta) := RdS.mk fun σ F H env D st q =>
  rd_parU h σ F H env D st q _ fun vs H1 F1 env1 hl p k => by
    obtain ⟨u, v, w, rfl⟩ := len3 (show vs.length = 3 from hl.symm)
    exact ⟨u, v, w, rfl, k _ F1 H1 p⟩
theorem PtS.newObj {σ' : St} {p : Addr} {o : HO} (q : PtS T σ F H env σ' F' H' env') (hp : H' p = none) : PtS T σ F H env σ' F' (upd H' p o) env' := by
  refine ⟨q.st.other (none_sub q.st.sub hp) fun z => ?_, q.mono, q.grow, fun a u e n => keep_new hp a u (q.keep a u e n), fun a h => ?_, q.own, q.pin, q.sig, q.len⟩
  · obtain ⟨k, ⟨b, w, ek, hf⟩, eσ⟩ := z
    obtain ⟨v, ev, sl⟩ := q.st.sl k b w ek
    obtain ⟨c, ec, hc, _⟩ := sl.ref hf
    rw [eσ] at ev
    cases ev
    cases ec
    exact hc hp
  · cases e : H' a with
    | none => exact absurd e (q.there a h)
    | some u =>
      rw [keep_new hp a u e]
      simp
def gNames : List Nat → TGs
  | [] => gNil
  | i :: l => gCons (gName i) (gNames l)
theorem gNames_of : ∀ {l : List Nat} {vs : List V} {σ : St} {H : Hp} {Q : St → Hp → Prop}, l.length = vs.length → Q ((l.zip vs).foldl (fun s p => s.set p.1 (some p.2)) σ) H → gNames l vs σ H Q
  | [], [], _, _, _, _, h => ⟨rfl, h⟩
  | [], _ :: _, _, _, _, e, _ => by cases e
  | _ :: _, [], _, _, _, e, _ => by cases e
  | i :: l, v :: vs, σ, H, Q, e, h => ⟨v, vs, rfl, gNames_of (Nat.succ.inj e) h⟩
theorem rd_parT {l : List Nat} {fa : Env → Res (List Val × Env)} {ta : TA} (h : RdV T E fa ta) (hs : l.length ≤ SL) : RdS T E (parF fa l) (tAsg (tTup ta) (gTup T.K l.length (gNames l))) := RdS.mk fun σ F H env D st q =>
  rd_parU h σ F H env D st q _ fun vs H1 F1 env1 hl p k => by
    refine ⟨by rw [← hl, ← SL_line]; exact hs, fun a ha => ⟨a, vs, rfl, SqT.of upd_same, hl.symm, gNames_of hl ?_⟩⟩
    exact k _ F1 _ (p.newObj ha)
end
end Rx

set_option Elab.async false
set_option linter.all false
set_option autoImplicit false
set_option maxRecDepth 100000
namespace Rx
open PySem L2
open PySem.Spec
open PyProof.Rows
/-- as FnOk, where in addition no guard stands around -/
structure FnG (P : Program) (w : World) (K : PySem.W.Frag) (mg : Str → Option Value) (base : Heap) (CX : CXT) (k : Nat) (f : Addr) (fd : FuncData) (ps : List Str) (sp : Sp) : Prop where
  len : ∀ vs H Q E, sp vs H Q E → vs.length = ps.length
  run : ∀ (A : Around) (out : List PySem.Env) (s0 : Shared) (H : Hp) (ar : PySem.Args) (us : List Value) (vs : List V) (Q : VK) (E : XK), Room k A → A.guards = some [] → Env0 P w K mg base A out s0 H →
    BindsTo s0 fd ar (ps.zip us) → Vals vs us → sp vs H Q E → codeAny (model P w) A (.call (.ref f) ar) (CR CX out P w H s0 Q E) s0
theorem FnG.mono {P : Program} {w : World} {K : PySem.W.Frag} {mg : Str → Option Value} {base : Heap} {CX : CXT} {j k : Nat} {f : Addr} {fd : FuncData} {ps : List Str} {sp : Sp} (F : FnG P w K mg base CX j f fd ps sp) (h : j ≤ k) :
    FnG P w K mg base CX k f fd ps sp := ⟨F.len, fun A out s0 H ar us vs Q E hr => F.run A out s0 H ar us vs Q E (hr.mono h)⟩
section
variable {X : Cx} {CX : CXT} {k : Nat} {f C : Addr} {fd : FuncData} {ps : List Str} {sp : Sp} {E : XK} {x : Str} {p pos : Pos} {e : Expr} {es : List Expr} {t : TA}
theorem run_fnG {pn : List (Addr × Obj)} {σ : L2.St} {H : Hp} {s0 : Shared} {Q : VK} {us : List Value} {vs : List V} (F : FnG X.prog X.w X.K X.mg X.base CX k f fd ps sp) (hr : Room k X.A) (gd : X.A.guards = some []) (hb : Binds X.K fd ps []) (hx : Passes CX X E)
    (J : Inv X pn σ H s0) (r : Vals vs us) (h : sp vs H Q E) : wpAny (model X.prog X.w) X.A (call (.ref f) us) (EP X pn σ Q) X.xe s0 := by
  have ln : (us ++ []).length = ps.length := by
    rw [List.append_nil, ← r.length]
    exact F.len _ _ _ _ h
  have bt := hb s0 us J.kIn ln
  rw [List.append_nil] at bt
  refine wpAny_call (codeAny_mono (F.run X.A X.stack s0 H ⟨us, []⟩ us vs Q E hr gd J.env0 bt r h) fun res s1 hq => ?_)
  cases res with
  | error err => exact hx pn σ H s0 err s1 J hq
  | ok fl =>
    cases fl with
    | ret u => exact J.after hq
    | next => exact hq.elim
    | brk => exact hq.elim
    | cont => exact hq.elim
theorem pe_callG (F : FnG X.prog X.w X.K X.mg X.base CX k f fd ps sp) (hr : Room k X.A) (gd : X.A.guards = some []) (hg : Gl X x) (hm : X.mg x = some (.ref f)) (hk : PySem.W.keepIn X.K (.ref f) = true) (hb : Binds X.K fd ps []) (hx : Passes CX X E)
    (ha : PA X (e :: es) t) (hdb : (x == ("__debug__" : Str)) = false) (he : starEach (e :: es) X.env = (false, eval e X.env) :: starEach es X.env) (hpl : (backTo pos (starEach es X.env)).any (·.1) = false) :
    PE X (.Call (.Name x p) (e :: es) [] pos) (fun σ H Q => t σ H fun vs H1 => sp vs H1 Q E) := by
  refine ⟨fun pn s0 σ H Q J h => wpAny_Call_Name_kw (ld_glob J hg hm ?_ hdb)⟩
  exact PySem.W.callWith_K (h₀ := X.base) J.ok.mod.kin hk (thn (ha.run pos pn s0 σ H _ J h) fun us s1 ⟨vs, H1, J1, r, q⟩ => ⟨J1.kIn, run_fnG F hr gd hb hx J1 r q⟩) he hpl
theorem pe_callG0 (F : FnG X.prog X.w X.K X.mg X.base CX k f fd ps sp) (hr : Room k X.A) (gd : X.A.guards = some []) (hg : Gl X x) (hm : X.mg x = some (.ref f)) (hk : PySem.W.keepIn X.K (.ref f) = true) (hb : Binds X.K fd ps []) (hx : Passes CX X E)
    (hdb : (x == ("__debug__" : Str)) = false) : PE X (.Call (.Name x p) [] [] pos) (fun σ H Q => sp [] H Q E) := by
  refine ⟨fun pn s0 σ H Q J h => wpAny_Call_Name_kw (ld_glob J hg hm ?_ hdb)⟩
  exact PySem.W.callWith_K0 J.kIn hk (run_fnG F hr gd hb hx J .nil h)
theorem make_guards {A : Around} {us : List Value} {kw : List (Str × Value)} (h : A.guards = some []) : (A.under (.builtin "type.__call__" ⟨.ref C :: us, kw⟩)).guards = some [] := by
  have e : (Code.builtin "type.__call__" ⟨.ref C :: us, kw⟩).guards = [] := by
    unfold Code.guards
    rw [if_neg (by simp [Code.isGuard, guardIds])]
  show pushGuards (Code.builtin "type.__call__" ⟨.ref C :: us, kw⟩).guards A.guards = some []
  rw [e, h]
  rfl
theorem pe_makeG (M : Mk X.K C f) (F : FnG X.prog X.w X.K X.mg X.base CX k f fd ps sp) (hr : Room (k + 1) X.A) (gd : X.A.guards = some []) (hg : Gl X x) (hm : X.mg x = some (.ref C)) (hb : Binds X.K fd ps []) (hx : Passes CX X E)
    (ha : PA X (e :: es) t) (hdb : (x == ("__debug__" : Str)) = false) (he : starEach (e :: es) X.env = (false, eval e X.env) :: starEach es X.env) (hpl : (backTo pos (starEach es X.env)).any (·.1) = false) :
    PE X (.Call (.Name x p) (e :: es) [] pos) (fun σ H Q => t σ H fun vs H1 => ∀ y dx, H1 y = none → H1 dx = none → dx ≠ y → sp (.ref y :: vs) (upd (upd H1 dx (.own y)) y (.ins C dx [])) (fun v H2 => v = .non ∧ Q (.ref y) H2) E) := by
  refine ⟨fun pn s0 σ H Q J h => wpAny_Call_Name_kw (ld_glob J hg hm ?_ hdb)⟩
  refine PySem.W.callWith_K (h₀ := X.base) J.ok.mod.kin M.kp (thn (ha.run pos pn s0 σ H _ J h) fun us s1 ⟨vs, H1, J1, r, q⟩ => ⟨J1.kIn, ?_⟩) he hpl
  have q1 := q (s1.heap.objs.size + 1) s1.heap.objs.size (J1.hok.fresh (Nat.le_succ _)) (J1.hok.fresh (Nat.le_refl _)) (Nat.ne_of_lt (Nat.lt_succ_self _))
  have J2 := Inv.made (C := C) J1
  have r2 : Vals (V.ref (s1.heap.objs.size + 1) :: vs) (Value.ref (s1.heap.objs.size + 1) :: us) := .cons rfl r
  have ln : ((Value.ref (s1.heap.objs.size + 1) :: us) ++ []).length = ps.length := by
    rw [List.append_nil, ← r2.length]
    exact F.len _ _ _ _ q1
  have bt := hb _ (Value.ref (s1.heap.objs.size + 1) :: us) J2.kIn ln
  rw [List.append_nil] at bt
  refine wpAny_call (make_map (f := f) J1.kIn M.makes M.init (beq_iff_eq.mp M.fn) (codeAny_mono (F.run _ X.stack _ _ ⟨Value.ref (s1.heap.objs.size + 1) :: us, []⟩ _ _ _ E (hr.make C us []) (make_guards gd) (J2.env0.make C us []) bt r2 q1) fun res s2 hq => ?_))
  cases res with
  | error err => exact hx pn σ _ _ err s2 J2 hq
  | ok fl =>
    cases fl with
    | ret u =>
      obtain ⟨v, H3, J3, rv, ev, q3⟩ := J2.after hq
      subst ev
      exact ⟨rv, ⟨V.ref (s1.heap.objs.size + 1), H3, J3, rfl, q3⟩⟩
    | next => exact hq.elim
    | brk => exact hq.elim
    | cont => exact hq.elim
end
/-- a def by its body -/
theorem fn_ofG {CX : CXT} {P : Program} {w : World} {K : PySem.W.Frag} {mg : Str → Option Value} {base : Heap} {k : Nat} {f : Addr} {name qual : Str} {params : Arguments} {body : List Stmt} {scope : Scope} {dV kV doc pm cdv ct oc : Value} {an od : Option Addr}
    {osl : Array (Option Value)} {N ps : List Str} {sp : Sp} (lk : K.lookup f = some ⟨oc, od, .func (PySem.W.fnOf name qual params body scope dV kV doc pm an cdv ct), osl⟩) (hcd : PySem.W.codeIn K cdv qual = true) (S : FnScope N ps scope)
    (len : ∀ vs H Q E, sp vs H Q E → vs.length = ps.length)
    (hbody : ∀ (A : Around) (out : List PySem.Env) (s0 : Shared) (H : Hp) (vs : List V) (Q : VK) (E : XK), Room k (A.deeper (envOfC qual scope s0.heap.objs.size f cdv)) → A.guards = some [] → sp vs H Q E →
      ∃ t, PSs (cxOf CX P w K mg base N qual scope f cdv A out s0 H E) body t ∧ t { nx := fun _ H' => Q .non H', rt := Q } (start N vs) H) :
    FnG P w K mg base CX (k + 1) f (PySem.W.fnOf name qual params body scope dV kV doc pm an cdv ct) ps sp := by
  refine ⟨len, fun A out s0 H ar us vs Q E hr gd e0 hb r hsp => ?_⟩
  have ln := len _ _ _ _ hsp
  have KX : K.In s0.heap := e0.mod.kin.keeps fun b o z => (e0.bs b o z).1
  have lim : s0.heap.NoLimit := e0.mod.nolimit.keeps fun b o z => (e0.bs b o z).1
  have hkind : ∀ y ∈ ps.zip us, scope.names.lookup y.1 = some .local ∨ (scope.names.lookup y.1 = some .cell ∧ ((cellsFrom (s0.heap.objs.size + 1) scope.names []).lookup y.1).isSome = true) := fun ⟨n, v⟩ hy => by
    rcases S.par n (List.of_mem_zip hy).1 with z | z
    · exact .inl z
    · exact .inr ⟨z, PySem.W.cellsFrom_some _ _ _ (.inl z)⟩
  refine codeAny_call_function hr.depth (KX _ _ lk) rfl S.co S.gen rfl (PySem.W.codeRec_of KX hcd) (hb _ _ _ _ ?_)
  refine wpAny_newFunctionEnv_cells S.kind hkind fun ev he s1 z => ?_
  subst he
  refine ⟨lim.keeps z.toInCall.keep, codeAny_func ?_⟩
  obtain ⟨t, ht, hq⟩ := hbody A out s0 H vs Q E (hr.deeper _) gd hsp
  have J : Inv (cxOf CX P w K mg base N qual scope f cdv A out s0 H E) [] (start N vs) H s1 := inv_start S hr.hd e0 ln r z
  refine wpAny_mono (ht.run [] s1 (start N vs) H _ J hq) (fun fl s2 hs => ?_) fun e s2 hs => hs
  cases fl with
  | ret u =>
    obtain ⟨v, σ2, H2, J2, rv, q2⟩ := hs
    exact ⟨v, H2, J2.os, J2.bare, J2.base, J2.hok, rv, q2⟩
  | next =>
    obtain ⟨σ2, H2, J2, q2⟩ := hs
    exact ⟨V.non, H2, J2.os, J2.bare, J2.base, J2.hok, rfl, q2⟩
  | brk =>
    obtain ⟨_, _, _, q2⟩ := hs
    exact q2.elim
  | cont =>
    obtain ⟨_, _, _, q2⟩ := hs
    exact q2.elim
end Rx

set_option Elab.async false
set_option linter.all false
set_option autoImplicit false
set_option maxRecDepth 100000
namespace Rx
open PySem L2
section
variable {T : TX} {E : XK} {σ : St} {F H F' H' : Hp} {env env' : Env}
/-- the arguments that the callee alone holds, or its caller lends -/
def AOwn : List Val → List V → Addr → Prop
  | w :: ws, v :: vs, a => (w.isFz = false ∧ v = .ref a) ∨ AOwn ws vs a
  | _, _, _ => False
def CArgs (T : TX) (F H : Hp) : List Val → List V → Prop
  | [], vs => vs = []
  | w :: ws, vs => ∃ v r, vs = v :: r ∧ Sl T F H w v ∧ CArgs T F H ws r ∧ ∀ a, w.isFz = false → v = .ref a → ¬ AOwn ws r a
/-- behind a call -/
structure PCall (T : TX) (pins : List Nat) (F H : Hp) (ws : List Val) (vs : List V) (F' H' : Hp) (w : Val) (v : V) (outs : List Slot) : Prop where
  mono : Sub F F'
  sub : Sub F' H'
  grow : ∀ a, F a = none → F' a ≠ none → AOwn ws vs a ∨ NT H a
  keep : ∀ a o, H a = some o → ¬ AOwn ws vs a → H' a = some o
  there : ∀ a, H a ≠ none → H' a ≠ none
  sl : Sl T F' H' w v
  new : w.isFz = false → ∀ a, v = .ref a → (H a = none ∨ AOwn ws vs a) ∧ ∀ (j : Nat) p u, j ∈ pins → outs[j]? = some (Slot.val p u) → u.isFz = false → vs[j]? ≠ some (.ref a)
  outs : ∀ (j : Nat) p u v, j ∈ pins → outs[j]? = some (Slot.val p u) → vs[j]? = some v → Sl T F' H' u v
structure XCall (T : TX) (H : Hp) (ws : List Val) (vs : List V) (c : Str) (fs : List (Str × D)) (cls : Value) (d : Option Addr) (H' : Hp) : Prop where
  cls : ∃ C, T.xa c = some C ∧ cls = .ref C
  keep : ∀ a o, H a = some o → ¬ AOwn ws vs a → H' a = some o
  there : ∀ a, H a ≠ none → H' a ≠ none
  dat : XD T fs d H'
/-- a def's promise -/
def spOf (T : TX) (cl : Call) (f : Str) (pins : List Nat) (np : Nat) : Sp := fun vs H Q E => ∃ (ws : List Val) (F : Hp), ws.length = np ∧ Sub F H ∧ CArgs T F H ws vs ∧
  (cl f ws).Post (fun r => ∀ v F' H', PCall T pins F H ws vs F' H' r.1 v r.2 → Q v H') (fun c fs => ∀ cls d H', XCall T H ws vs c fs cls d H' → E cls d H')
theorem CArgs.len : ∀ {ws : List Val} {vs : List V}, CArgs T F H ws vs → ws.length = vs.length
  | [], _, h => by
    rw [show _ = ([] : List V) from h]
    rfl
  | w :: ws, _, h => by
    obtain ⟨v, r, rfl, _, t, _⟩ := h
    simp only [List.length_cons, CArgs.len t]
theorem spOf_len {cl : Call} {f : Str} {pins : List Nat} {np : Nat} {ps : List Str} (e : np = ps.length) : ∀ vs H Q E, spOf T cl f pins np vs H Q E → vs.length = ps.length := fun vs H Q E ⟨ws, F, h1, _, h2, _⟩ => by
  rw [← h2.len, h1, e]
theorem CArgs.aown : ∀ {ws : List Val} {vs : List V} {a : Addr}, CArgs T F H ws vs → AOwn ws vs a → H a ≠ none ∧ F a = none
  | [], _, _, h, z => by
    rw [show _ = ([] : List V) from h] at z
    exact z.elim
  | w :: ws, _, a, h, z => by
    obtain ⟨v, r, rfl, q, t, d⟩ := h
    rcases z with ⟨hw, e⟩ | z
    · obtain ⟨b, eb, h1, h2⟩ := q.ref hw
      rw [e] at eb
      cases eb
      exact ⟨h1, h2⟩
    · exact CArgs.aown t z
/-- arguments, where a place ahead of them has given up what it owns -/
theorem Args.step {env2 : Env} (ow : ∀ a, Owns σ env2 a → Owns σ env a) (m : Sub F F') (g : ∀ a, F' a ≠ none → F a ≠ none ∨ Owns σ env a) : ∀ {as : List Arg} {vs : List V}, Args T σ F H env as vs → Args T σ F' H env2 as vs
  | [], _, h => h
  | a :: as, _, h => by
    obtain ⟨v, r, e, q, t, d⟩ := h
    refine ⟨v, r, e, ?_, Args.step ow m g t, d⟩
    cases a with
    | ref i => exact q
    | val w =>
      have q : Tm T σ F H env w v := q
      refine ⟨q.sl.moves m fun hw a o ea ho hF _ => ⟨ho, ?_⟩, fun hw a ea z => q.no hw a ea (ow a z)⟩
      by_cases z : F' a = none
      · exact z
      · rcases g a z with y | y
        · exact absurd hF y
        · exact absurd y (q.no hw a ea)
/-- the arguments handed over -/
structure BindOk (T : TX) (σ : St) (F H : Hp) (env : Env) (as : List Arg) (vs : List V) (ws : List Val) (env2 : Env) (F2 : Hp) : Prop where
  mono : Sub F F2
  st : Stk T F2 H σ env2
  args : CArgs T F2 H ws vs
  len : ws.length = as.length
  no : ∀ a, AOwn ws vs a → ¬ Owns σ env2 a
  from_ : ∀ a, AOwn ws vs a → TmpA as vs a ∨ Owns σ env a
  ownk : ∀ (k : Nat), OwnK env2 k → OwnK env k
  grow : ∀ a, F2 a ≠ none → F a ≠ none ∨ Owns σ env a
  refs : ∀ (n k : Nat) (w0 : Val), as[n]? = some (.ref k) → ws[n]? = some w0 → w0.isFz = false → OwnK env k
theorem bindCall_pin {pins : List Nat} : ∀ {as : List Arg} {j : Nat} {env env2 : Env} {ws : List Val}, bindCall pins j as env = .ok (ws, env2) → ∀ (k : Nat), pst env2[k]? = pst env[k]? ∨ ∃ n, as[n]? = some (Arg.ref k) ∧ pins.contains (j + n) = true
  | [], j, env, env2, ws, e, k => by
    cases e
    exact .inl rfl
  | .val w :: as, j, env, env2, ws, e, k => by
    unfold bindCall at e
    cases e1 : bindCall pins (j + 1) as env with
    | ok x =>
      rw [e1, Res.bind_ok] at e
      cases e
      rcases bindCall_pin e1 k with h | ⟨n, h1, h2⟩
      · exact .inl h
      · exact .inr ⟨n + 1, h1, by rw [← Nat.add_assoc, Nat.add_right_comm]; exact h2⟩
    | exc c fs =>
      rw [e1] at e
      cases e
    | bad =>
      rw [e1] at e
      cases e
  | .ref i :: as, j, env, env2, ws, e, k => by
    unfold bindCall at e
    split at e
    · rename_i p w e0
      by_cases hp : pins.contains j = true
      · rw [if_pos hp] at e
        cases e1 : bindCall pins (j + 1) as (env.set i .lck) with
        | ok x =>
          rw [e1, Res.bind_ok] at e
          cases e
          by_cases hk : i = k
          · subst hk
            exact .inr ⟨0, rfl, hp⟩
          · rcases bindCall_pin e1 k with h | ⟨n, h1, h2⟩
            · rw [List.getElem?_set_ne hk] at h
              exact .inl h
            · exact .inr ⟨n + 1, h1, by rw [← Nat.add_assoc, Nat.add_right_comm]; exact h2⟩
        | exc c fs =>
          rw [e1] at e
          cases e
        | bad =>
          rw [e1] at e
          cases e
      · rw [if_neg hp] at e
        cases e1 : bindCall pins (j + 1) as (env.set i (.val p (.fz w.frz))) with
        | ok x =>
          rw [e1, Res.bind_ok] at e
          cases e
          rcases bindCall_pin e1 k with h | ⟨n, h1, h2⟩
          · refine .inl (h.trans (pst_set ?_ k))
            rw [e0]
            cases p <;> rfl
          · exact .inr ⟨n + 1, h1, by rw [← Nat.add_assoc, Nat.add_right_comm]; exact h2⟩
        | exc c fs =>
          rw [e1] at e
          cases e
        | bad =>
          rw [e1] at e
          cases e
    · cases e
theorem bindCall_ok {pins : List Nat} : ∀ {as : List Arg} {vs : List V} {j : Nat} {F : Hp} {env env2 : Env} {ws : List Val}, Stk T F H σ env → Args T σ F H env as vs → bindCall pins j as env = .ok (ws, env2) → ∃ F2, BindOk T σ F H env as vs ws env2 F2
  | [], _, j, F, env, env2, ws, st, h, e => by
    cases e
    rw [show _ = ([] : List V) from h]
    exact ⟨F, Sub.refl F, st, rfl, rfl, fun a z => z.elim, fun a z => z.elim, fun _ h => h, fun a h => .inl h, fun n k w0 h => by simp at h⟩
  | .val w :: as, _, j, F, env, env2, ws, st, h, e => by
    obtain ⟨v, r, rfl, q, t, d⟩ := h
    unfold bindCall at e
    cases e1 : bindCall pins (j + 1) as env with
    | ok x =>
      obtain ⟨ws', env'⟩ := x
      rw [e1, Res.bind_ok] at e
      cases e
      obtain ⟨F2, b⟩ := bindCall_ok st t e1
      have q : Tm T σ F H env w v := q
      have sl : Sl T F2 H w v := q.sl.moves b.mono fun hw a o ea ho hF _ => ⟨ho, by
        by_cases z : F2 a = none
        · exact z
        · rcases b.grow a z with y | y
          · exact absurd hF y
          · exact absurd y (q.no hw a ea)⟩
      refine ⟨F2, b.mono, b.st, ⟨v, r, rfl, sl, b.args, fun a hw ea z => ?_⟩, by simp only [List.length_cons, b.len], fun a z => ?_, fun a z => ?_, b.ownk, b.grow, fun n k w0 h1 h2 h3 => by
        cases n with
        | zero => cases h1
        | succ n => exact b.refs n k w0 h1 h2 h3⟩
      · rcases b.from_ a z with y | y
        · exact d w a rfl hw ea y
        · exact q.no hw a ea y
      · rcases z with ⟨hw, ea⟩ | z
        · exact fun y => q.no hw a ea (by obtain ⟨k, hk, ek⟩ := y; exact ⟨k, b.ownk k hk, ek⟩)
        · exact b.no a z
      · rcases z with z | z
        · exact .inl (.inl z)
        · exact (b.from_ a z).imp_left .inr
    | exc c fs =>
      rw [e1] at e
      cases e
    | bad =>
      rw [e1] at e
      cases e
  | .ref i :: as, _, j, F, env, env2, ws, st, h, e => by
    obtain ⟨v, r, rfl, q, t, d⟩ := h
    have q : σ[i]? = some (some v) := q
    unfold bindCall at e
    cases e0 : env[i]? with
    | none =>
      rw [e0] at e
      cases e
    | some s =>
      rw [e0] at e
      cases s with
      | emp => cases e
      | lck => cases e
      | val p w =>
        obtain ⟨v', ev, sl⟩ := st.sl i p w e0
        rw [q] at ev
        cases ev
        have e : (if pins.contains j then (bindCall pins (j + 1) as (env.set i .lck)).bind fun (ws, env') => Res.ok (w :: ws, env')
          else (bindCall pins (j + 1) as (env.set i (.val p (.fz w.frz)))).bind fun (ws, env') => .ok (.fz w.frz :: ws, env')) = .ok (ws, env2) := e
        by_cases hp : pins.contains j = true
        · rw [if_pos hp] at e
          have ow : ∀ a, Owns σ (env.set i .lck) a → Owns σ env a := fun a z => z.drop fun p w e => by cases e
          have t1 : Args T σ F H (env.set i .lck) as r := t.step ow (Sub.refl F) fun a h => .inl h
          cases e1 : bindCall pins (j + 1) as (env.set i .lck) with
          | ok x =>
            obtain ⟨ws', env'⟩ := x
            rw [e1, Res.bind_ok] at e
            cases e
            obtain ⟨F2, b⟩ := bindCall_ok st.lock t1 e1
            have nl : w.isFz = false → ∀ a, v = .ref a → ¬ Owns σ (env.set i .lck) a := fun hw a ea z => by
              obtain ⟨k, hk, eσ⟩ := z
              rcases hk.set with ⟨_, p', w', e', f'⟩ | ⟨hn, hk⟩
              · cases e'
              · exact hn (st.inj k i a hk ⟨p, w, e0, hw⟩ eσ (by rw [q, ea]))
            have sl2 : Sl T F2 H w v := sl.moves b.mono fun hw a o ea ho hF _ => ⟨ho, by
              by_cases z : F2 a = none
              · exact z
              · rcases b.grow a z with y | y
                · exact absurd hF y
                · exact absurd y (nl hw a ea)⟩
            refine ⟨F2, b.mono, b.st, ⟨v, r, rfl, sl2, b.args, fun a hw ea z => ?_⟩, by simp only [List.length_cons, b.len], fun a z => ?_, fun a z => ?_, fun k z => (b.ownk k z).drop (fun p w e => by cases e), fun a z => (b.grow a z).imp_right (ow a), fun n k w0 h1 h2 h3 => by
              cases n with
              | zero =>
                cases h1
                cases h2
                exact ⟨p, w, e0, h3⟩
              | succ n => exact (b.refs n k w0 h1 h2 h3).drop (fun p w e => by cases e)⟩
            · rcases b.from_ a z with y | y
              · have := (t.tmp y).2.2
                exact this ⟨i, ⟨p, w, e0, hw⟩, by rw [q, ea]⟩
              · exact nl hw a ea y
            · rcases z with ⟨hw, ea⟩ | z
              · exact fun y => nl hw a ea (by obtain ⟨k, hk, ek⟩ := y; exact ⟨k, b.ownk k hk, ek⟩)
              · exact b.no a z
            · rcases z with ⟨hw, ea⟩ | z
              · exact .inr ⟨i, ⟨p, w, e0, hw⟩, by rw [q, ea]⟩
              · exact (b.from_ a z).elim (fun y => .inl (show TmpA (Arg.ref i :: as) (v :: r) a from y)) (fun y => .inr (ow a y))
          | exc c fs =>
            rw [e1] at e
            cases e
          | bad =>
            rw [e1] at e
            cases e
        · rw [if_neg hp] at e
          obtain ⟨F1, r1, p1, pg1⟩ := st.frz2 e0 q sl
          have ow : ∀ a, Owns σ (env.set i (.val p (.fz w.frz))) a → Owns σ env a := p1.own
          have g1 : ∀ a, F1 a ≠ none → F a ≠ none ∨ Owns σ env a := pg1
          have t1 : Args T σ F1 H (env.set i (.val p (.fz w.frz))) as r := t.step ow p1.mono g1
          cases e1 : bindCall pins (j + 1) as (env.set i (.val p (.fz w.frz))) with
          | ok x =>
            obtain ⟨ws', env'⟩ := x
            rw [e1, Res.bind_ok] at e
            cases e
            obtain ⟨F2, b⟩ := bindCall_ok p1.st t1 e1
            refine ⟨F2, p1.mono.trans b.mono, b.st, ⟨v, r, rfl, Rz.sub b.mono _ _ r1, b.args, fun a hw => by cases hw⟩, by simp only [List.length_cons, b.len], fun a z => ?_, fun a z => ?_, fun k z => p1.ownk k (b.ownk k z), fun a z => ?_, fun n k w0 h1 h2 h3 => by
              cases n with
              | zero =>
                cases h2
                cases h3
              | succ n => exact p1.ownk k (b.refs n k w0 h1 h2 h3)⟩
            · rcases z with ⟨hw, _⟩ | z
              · cases hw
              · exact b.no a z
            · rcases z with ⟨hw, _⟩ | z
              · cases hw
              · exact (b.from_ a z).elim (fun y => .inl (show TmpA (Arg.ref i :: as) (v :: r) a from y)) (fun y => .inr (ow a y))
            · rcases b.grow a z with y | y
              · exact g1 a y
              · exact .inr (ow a y)
          | exc c fs =>
            rw [e1] at e
            cases e
          | bad =>
            rw [e1] at e
            cases e
theorem bindCall_noexc {pins : List Nat} : ∀ {as : List Arg} {j : Nat} {env : Env} {c : Str} {fs : List (Str × D)}, bindCall pins j as env ≠ .exc c fs
  | [], j, env, c, fs, h => by cases h
  | .val w :: as, j, env, c, fs, h => by
    unfold bindCall at h
    cases e1 : bindCall pins (j + 1) as env with
    | ok x =>
      rw [e1] at h
      cases h
    | exc c fs => exact bindCall_noexc e1
    | bad =>
      rw [e1] at h
      cases h
  | .ref i :: as, j, env, c, fs, h => by
    unfold bindCall at h
    split at h
    · split at h
      · rename_i p w _ _
        cases e1 : bindCall pins (j + 1) as (env.set i .lck) with
        | ok x =>
          rw [e1] at h
          cases h
        | exc c fs => exact bindCall_noexc e1
        | bad =>
          rw [e1] at h
          cases h
      · rename_i p w _ _
        cases e1 : bindCall pins (j + 1) as (env.set i (.val p (.fz w.frz))) with
        | ok x =>
          rw [e1] at h
          cases h
        | exc c fs => exact bindCall_noexc e1
        | bad =>
          rw [e1] at h
          cases h
    · cases h
/-- what a lent place holds behind a call -/
def lent (w0 w : Val) : Val := match w0 with
  | .fz d => .fz d
  | _ => w
/-- what the caller's places hold behind a call: by place, from the arguments on -/
theorem backCall_ok {pins : List Nat} {outs : List Slot} {old : Env} : ∀ {as : List Arg} {ws : List Val} {j : Nat} {env env3 : Env}, backCall pins old j as ws outs env = .ok env3 →
    env3.length = env.length ∧ ∀ (k : Nat), env3[k]? = env[k]? ∨ ∃ n p p0 w w0 w1, as[n]? = some (.ref k) ∧ ws[n]? = some w1 ∧ pins.contains (j + n) = true ∧ outs[j + n]? = some (Slot.val p w) ∧ old[k]? = some (Slot.val p0 w0) ∧ (k < env.length → env3[k]? = some (Slot.val p0 (lent w1 w)))
  | [], ws, j, env, env3, h => by
    cases h
    exact ⟨rfl, fun k => .inl rfl⟩
  | .val w :: as, [], j, env, env3, h => by cases h
  | .ref i :: as, [], j, env, env3, h => by cases h
  | .val w :: as, w2 :: ws, j, env, env3, h => by
    have h : backCall pins old (j + 1) as ws outs env = .ok env3 := h
    obtain ⟨h1, h2⟩ := backCall_ok h
    refine ⟨h1, fun k => (h2 k).imp_right fun ⟨n, p, p0, w, w0, w1, e1, e0, e2, e3, e4, e5⟩ => ⟨n + 1, p, p0, w, w0, w1, e1, e0, by rw [← Nat.add_assoc, Nat.add_right_comm]; exact e2, by rw [← Nat.add_assoc, Nat.add_right_comm]; exact e3, e4, e5⟩⟩
  | .ref i :: as, w2 :: ws, j, env, env3, h => by
    have up : ∀ {env1 : Env} {k : Nat}, (∃ n p p0 w w0 w1, as[n]? = some (Arg.ref k) ∧ ws[n]? = some w1 ∧ pins.contains (j + 1 + n) = true ∧ outs[j + 1 + n]? = some (Slot.val p w) ∧ old[k]? = some (Slot.val p0 w0) ∧ (k < env1.length → env3[k]? = some (Slot.val p0 (lent w1 w)))) →
        ∃ n p p0 w w0 w1, (Arg.ref i :: as)[n]? = some (Arg.ref k) ∧ (w2 :: ws)[n]? = some w1 ∧ pins.contains (j + n) = true ∧ outs[j + n]? = some (Slot.val p w) ∧ old[k]? = some (Slot.val p0 w0) ∧ (k < env1.length → env3[k]? = some (Slot.val p0 (lent w1 w))) :=
      fun ⟨n, p, p0, w, w0, w1, e1, e0, e2, e3, e4, e5⟩ => ⟨n + 1, p, p0, w, w0, w1, e1, e0, by rw [← Nat.add_assoc, Nat.add_right_comm]; exact e2, by rw [← Nat.add_assoc, Nat.add_right_comm]; exact e3, e4, e5⟩
    have h : (if pins.contains j then match outs[j]?, old[i]? with
      | some (Slot.val _ w), some (Slot.val p _) => backCall pins old (j + 1) as ws outs (env.set i (.val p (lent w2 w)))
      | _, _ => .bad
      else backCall pins old (j + 1) as ws outs env) = .ok env3 := h
    by_cases hp : pins.contains j = true
    · rw [if_pos hp] at h
      split at h
      · rename_i p w p0 w0 e1 e2
        obtain ⟨h1, h2⟩ := backCall_ok h
        rw [List.length_set] at h1
        refine ⟨h1, fun k => ?_⟩
        rcases h2 k with e | e
        · by_cases hk : i = k
          · subst hk
            refine .inr ⟨0, p, p0, w, w0, w2, rfl, rfl, hp, e1, e2, fun hl => ?_⟩
            rw [e, List.getElem?_set_self hl]
          · rw [List.getElem?_set_ne hk] at e
            exact .inl e
        · have := up e
          rw [List.length_set] at this
          exact .inr this
      · cases h
    · rw [if_neg hp] at h
      obtain ⟨h1, h2⟩ := backCall_ok h
      exact ⟨h1, fun k => (h2 k).imp_right up⟩
theorem backCall_set {pins : List Nat} {outs : List Slot} {old : Env} {k : Nat} : ∀ {as : List Arg} {ws : List Val} {j : Nat} {env env3 : Env}, backCall pins old j as ws outs env = .ok env3 → k < env.length →
    (pst env[k]? = pst old[k]? ∨ ∃ n, as[n]? = some (Arg.ref k) ∧ pins.contains (j + n) = true) → pst env3[k]? = pst old[k]?
  | [], ws, j, env, env3, h, hk, c => by
    cases h
    rcases c with c | ⟨n, c, _⟩
    · exact c
    · simp at c
  | .val w :: as, [], j, env, env3, h, _, _ => by cases h
  | .ref i :: as, [], j, env, env3, h, _, _ => by cases h
  | .val w :: as, w2 :: ws, j, env, env3, h, hk, c => by
    refine backCall_set (as := as) (ws := ws) h hk (c.imp_right fun ⟨n, c1, c2⟩ => ?_)
    cases n with
    | zero => cases c1
    | succ n => exact ⟨n, c1, by rw [← Nat.add_assoc, Nat.add_right_comm] at c2; exact c2⟩
  | .ref i :: as, w2 :: ws, j, env, env3, h, hk, c => by
    unfold backCall at h
    by_cases hp : pins.contains j = true
    · rw [if_pos hp] at h
      split at h
      · rename_i p w p0 w0 e1 e2
        refine backCall_set (as := as) (ws := ws) h (by rw [List.length_set]; exact hk) ?_
        by_cases hi : i = k
        · subst hi
          refine .inl ?_
          rw [List.getElem?_set_self hk, e2]
          cases p0 <;> rfl
        · rw [List.getElem?_set_ne hi]
          refine c.imp_right fun ⟨n, c1, c2⟩ => ?_
          cases n with
          | zero =>
            cases c1
            exact absurd rfl hi
          | succ n => exact ⟨n, c1, by rw [← Nat.add_assoc, Nat.add_right_comm] at c2; exact c2⟩
      · cases h
    · rw [if_neg hp] at h
      refine backCall_set (as := as) (ws := ws) h hk (c.imp_right fun ⟨n, c1, c2⟩ => ?_)
      cases n with
      | zero => exact absurd c2 hp
      | succ n => exact ⟨n, c1, by rw [← Nat.add_assoc, Nat.add_right_comm] at c2; exact c2⟩
theorem backCall_noexc {pins : List Nat} {outs : List Slot} {old : Env} : ∀ {as : List Arg} {ws : List Val} {j : Nat} {env : Env} {c : Str} {fs : List (Str × D)}, backCall pins old j as ws outs env ≠ .exc c fs
  | [], ws, j, env, c, fs, h => by cases h
  | .val w :: as, [], j, env, c, fs, h => by cases h
  | .ref i :: as, [], j, env, c, fs, h => by cases h
  | .val w :: as, w2 :: ws, j, env, c, fs, h => backCall_noexc (as := as) (ws := ws) h
  | .ref i :: as, w2 :: ws, j, env, c, fs, h => by
    unfold backCall at h
    split at h
    · split at h
      · exact backCall_noexc (as := as) (ws := ws) h
      · cases h
    · exact backCall_noexc (as := as) (ws := ws) h
theorem Args.ref : ∀ {as : List Arg} {vs : List V} {n k : Nat}, Args T σ F H env as vs → as[n]? = some (.ref k) → ∃ v, vs[n]? = some v ∧ σ[k]? = some (some v)
  | [], _, n, k, _, e => by simp at e
  | a :: as, _, 0, k, h, e => by
    obtain ⟨v, r, rfl, q, t, d⟩ := h
    cases e
    exact ⟨v, rfl, q⟩
  | a :: as, _, n + 1, k, h, e => by
    obtain ⟨v, r, rfl, q, t, d⟩ := h
    have z := Args.ref (as := as) t e
    exact z
theorem CArgs.get : ∀ {ws : List Val} {vs : List V} {n : Nat} {w : Val} {v : V}, CArgs T F H ws vs → ws[n]? = some w → vs[n]? = some v → Sl T F H w v ∧ (∀ a, w.isFz = false → v = .ref a → AOwn ws vs a)
  | [], _, n, w, v, _, e, _ => by simp at e
  | u :: ws, _, 0, w, v, h, e, e2 => by
    obtain ⟨v', r, rfl, q, t, d⟩ := h
    cases e
    cases e2
    exact ⟨q, fun a hw ea => .inl ⟨hw, ea⟩⟩
  | u :: ws, _, n + 1, w, v, h, e, e2 => by
    obtain ⟨v', r, rfl, q, t, d⟩ := h
    obtain ⟨h1, h2⟩ := CArgs.get (ws := ws) t e e2
    exact ⟨h1, fun a hw ea => .inr (h2 a hw ea)⟩
theorem CArgs.inj : ∀ {ws : List Val} {vs : List V} {n m : Nat} {w u : Val} {a : Addr}, CArgs T F H ws vs → ws[n]? = some w → ws[m]? = some u → w.isFz = false → u.isFz = false → vs[n]? = some (.ref a) → vs[m]? = some (.ref a) → n = m
  | [], _, n, m, w, u, a, _, e, _, _, _, _, _ => by simp at e
  | x :: ws, _, n, m, w, u, a, h, e1, e2, hw, hu, v1, v2 => by
    obtain ⟨v', r, rfl, q, t, d⟩ := h
    cases n with
    | zero =>
      cases e1
      cases v1
      cases m with
      | zero => rfl
      | succ m => exact absurd ((CArgs.get t e2 v2).2 a hu rfl) (d a hw rfl)
    | succ n =>
      cases m with
      | zero =>
        cases e2
        cases v2
        exact absurd ((CArgs.get t e1 v1).2 a hw rfl) (d a hu rfl)
      | succ m => rw [CArgs.inj t e1 e2 hw hu v1 v2]
theorem lent_own {w1 w : Val} (h : (lent w1 w).isFz = false) : w1.isFz = false ∧ lent w1 w = w := by
  cases w1 with
  | fz d => cases h
  | own l => exact ⟨rfl, rfl⟩
  | odk l => exact ⟨rfl, rfl⟩
  | odt l => exact ⟨rfl, rfl⟩
  | oi c fs => exact ⟨rfl, rfl⟩
theorem rd_call {cl : Call} {f : Str} {pins : List Nat} {np : Nat} {fa : Env → Res (List Arg × Env)} {ta : TA} (ha : RdA T E fa ta) (hl : LenA np fa) :
    RdE T E (fun env => (fa env).bind fun (as, env1) => (bindCall pins 0 as env1).bind fun (ws, env2) =>
      (cl f ws).bind fun (w, outs) => (backCall pins env1 0 as ws outs env2).bind fun env3 => .ok (w, env3)) (fun σ H Q => ta σ H fun vs H1 => spOf T cl f pins np vs H1 Q E) := fun σ F H env Q st q => by
  refine ha σ F H env _ st ((q.bind.len hl).mono (fun (as, env1) ⟨ln, k⟩ vs F1 H1 p1 m1 f1 => ?_) fun _ _ x => x)
  have k := Res.Post.bind k
  cases e1 : bindCall pins 0 as env1 with
  | exc c fs => exact absurd e1 bindCall_noexc
  | bad =>
    rw [e1] at k
    exact k.elim
  | ok x =>
    obtain ⟨ws, env2⟩ := x
    rw [e1] at k
    obtain ⟨F2, b⟩ := bindCall_ok p1.st m1 e1
    have aown : ∀ a, AOwn ws vs a → H a = none ∨ Owns σ env a := fun a z => by
      rcases b.from_ a z with y | y
      · exact f1 a y
      · exact .inr (p1.own a y)
    have no1 : ∀ a o, H a = some o → ¬ Owns σ env a → H1 a = some o ∧ ¬ AOwn ws vs a := fun a o e n => ⟨p1.keep a o e n, fun z => by
      rcases aown a z with y | y
      · rw [e] at y
        cases y
      · exact n y⟩
    refine ⟨ws, F2, b.len.trans ln, b.st.sub, b.args, (Res.Post.bind k).mono (fun (w, outs) k v F3 H3 pc => ?_) fun c fs x cls d H3 xc => ?_⟩
    · have k := Res.Post.bind k
      cases e2 : backCall pins env1 0 as ws outs env2 with
      | exc c fs => exact absurd e2 backCall_noexc
      | bad =>
        rw [e2] at k
        exact k.elim
      | ok env3 =>
        rw [e2] at k
        obtain ⟨l3, bk⟩ := backCall_ok e2
        have ln2 : env2.length = env1.length := by rw [b.st.len, p1.st.len]
        -- the caller's own places stay
        have st2 : Stk T F3 H3 σ env2 := by
          have own2 : ∀ a, Owns σ env2 a → H1 a ≠ none ∧ F2 a = none ∧ ¬ AOwn ws vs a := fun a z => by
            refine ⟨?_, ?_, fun y => b.no a y z⟩
            all_goals
              obtain ⟨k, ⟨p, u, ek, hu⟩, eσ⟩ := z
              obtain ⟨v', ev', sl'⟩ := b.st.sl k p u ek
              obtain ⟨c, ec, h1, h2⟩ := sl'.ref hu
              rw [eσ] at ev'
              cases ev'
              cases ec
            · exact h1
            · exact h2
          refine ⟨pc.sub, b.st.len, fun k p u ek => ?_, b.st.inj⟩
          obtain ⟨v', ev', sl'⟩ := b.st.sl k p u ek
          refine ⟨v', ev', sl'.moves pc.mono fun hu a o ea ho hF nt => ?_⟩
          obtain ⟨_, _, na⟩ := own2 a ⟨k, ⟨p, u, ek, hu⟩, by rw [ev', ea]⟩
          refine ⟨pc.keep a o ho na, ?_⟩
          by_cases z : F3 a = none
          · exact z
          · rcases pc.grow a hF z with y | y
            · exact absurd y na
            · obtain ⟨xs, z⟩ := y o ho
              exact absurd z (nt xs)
        -- a lent place
        have lentOk : ∀ {k n : Nat} {p p0 : Bool} {u w0 w1 : Val}, as[n]? = some (Arg.ref k) → ws[n]? = some w1 → pins.contains (0 + n) = true → outs[0 + n]? = some (Slot.val p u) → env1[k]? = some (Slot.val p0 w0) →
            ∃ v, σ[k]? = some (some v) ∧ vs[n]? = some v ∧ Sl T F3 H3 (lent w1 u) v := fun {k n p p0 u w0 w1} e1 e0 e2 e3 e4 => by
          obtain ⟨v', hv, hσ⟩ := m1.ref e1
          refine ⟨v', hσ, hv, ?_⟩
          rw [Nat.zero_add] at e2 e3
          have so := pc.outs n p u v' (by simpa using e2) e3 hv
          have sa := (b.args.get e0 hv).1
          cases w1 with
          | fz d => exact Rz.sub pc.mono _ _ sa
          | own l => exact so
          | odk l => exact so
          | odt l => exact so
          | oi c fs => exact so
        have own3 : ∀ (k : Nat), OwnK env3 k → OwnK env2 k ∨ ∃ n p u w1, as[n]? = some (Arg.ref k) ∧ ws[n]? = some w1 ∧ n ∈ pins ∧ outs[n]? = some (Slot.val p u) ∧ w1.isFz = false ∧ u.isFz = false := fun k h => by
          obtain ⟨p, u, ek, hu⟩ := h
          rcases bk k with e | ⟨n, p', p0, u', w0, w1, e1, e0, e2, e3, e4, e5⟩
          · rw [e] at ek
            exact .inl ⟨p, u, ek, hu⟩
          · have hk : k < env2.length := by
              rw [ln2]
              exact (List.getElem?_eq_some_iff.mp e4).1
            rw [e5 hk] at ek
            cases ek
            obtain ⟨h1, h2⟩ := lent_own hu
            rw [h2] at hu
            rw [Nat.zero_add] at e2 e3
            exact .inr ⟨n, p', u', w1, e1, e0, by simpa using e2, e3, h1, hu⟩
        have addr : ∀ {k n : Nat} {w1 : Val} {a : Addr}, as[n]? = some (Arg.ref k) → ws[n]? = some w1 → w1.isFz = false → σ[k]? = some (some (.ref a)) → vs[n]? = some (.ref a) ∧ AOwn ws vs a := fun {k n w1 a} e1 e0 hw eσ => by
          obtain ⟨v', hv, hσ⟩ := m1.ref e1
          rw [hσ] at eσ
          cases eσ
          exact ⟨hv, (b.args.get e0 hv).2 a hw rfl⟩
        have st3 : Stk T F3 H3 σ env3 := by
          refine ⟨pc.sub, by rw [l3]; exact st2.len, fun k p u ek => ?_, fun k j a hk hj e1 e2 => ?_⟩
          · rcases bk k with e | ⟨n, p', p0, u', w0, w1, e1, e0, e2, e3, e4, e5⟩
            · rw [e] at ek
              exact st2.sl k p u ek
            · have hk : k < env2.length := by
                rw [ln2]
                exact (List.getElem?_eq_some_iff.mp e4).1
              rw [e5 hk] at ek
              cases ek
              obtain ⟨v', h1, h2, h3⟩ := lentOk e1 e0 e2 e3 e4
              exact ⟨v', h1, h3⟩
          · rcases own3 k hk with h | ⟨n, p, u, w1, q1, q0, q2, q3, q4, q5⟩
            · rcases own3 j hj with h' | ⟨n', p', u', w1', r1, r0, r2, r3, r4, r5⟩
              · exact st2.inj k j a h h' e1 e2
              · exact absurd ⟨k, h, e1⟩ (b.no a (addr r1 r0 r4 e2).2)
            · rcases own3 j hj with h' | ⟨n', p', u', w1', r1, r0, r2, r3, r4, r5⟩
              · exact absurd ⟨j, h', e2⟩ (b.no a (addr q1 q0 q4 e1).2)
              · have := b.args.inj q0 r0 q4 r4 (addr q1 q0 q4 e1).1 (addr r1 r0 r4 e2).1
                subst this
                rw [q1] at r1
                cases r1
                rfl
        have ownk3 : ∀ (k : Nat), OwnK env3 k → OwnK env1 k := fun k h => by
          rcases own3 k h with h | ⟨n, p, u, w1, q1, q0, q2, q3, q4, q5⟩
          · exact b.ownk k h
          · exact b.refs n k w1 q1 q0 q4
        have pin3 : ∀ (k : Nat), pst env3[k]? = pst env1[k]? := fun k => by
          by_cases hk : k < env2.length
          · exact backCall_set e2 hk (bindCall_pin e1 k)
          · rw [List.getElem?_eq_none (by omega), List.getElem?_eq_none (by omega)]
        have pt : Pt T σ F H env F3 H3 env3 := by
          refine ⟨st3, p1.mono.trans (b.mono.trans pc.mono), fun a f n => ?_, fun a o e n => ?_, fun a h => pc.there a (p1.there a h), fun k h => p1.ownk k (ownk3 k h), fun k => (pin3 k).trans (p1.pin k)⟩
          · by_cases z2 : F2 a = none
            · rcases pc.grow a z2 n with y | y
              · exact (aown a y).symm.imp_right NT.none
              · by_cases z : Owns σ env a
                · exact .inl z
                · refine .inr fun o ho => y o ?_
                  exact p1.keep a o ho z
            · rcases b.grow a z2 with y | y
              · exact p1.grow a f y
              · exact .inl (p1.own a y)
          · obtain ⟨h1, h2⟩ := no1 a o e n
            exact pc.keep a o h1 h2
        refine k v F3 H3 pt ⟨pc.sl, fun hw a ea z => ?_⟩ fun hw a ea => ?_
        · obtain ⟨n1, n2⟩ := pc.new hw a ea
          obtain ⟨k, hk, eσ⟩ := z
          rcases own3 k hk with h | ⟨n, p, u, w1, q1, q0, q2, q3, q4, q5⟩
          · rcases n1 with y | y
            · obtain ⟨p, u, ek, hu⟩ := h
              obtain ⟨v', ev', sl'⟩ := b.st.sl k p u ek
              obtain ⟨c, ec, h1, h2⟩ := sl'.ref hu
              rw [eσ] at ev'
              cases ev'
              cases ec
              exact h1 y
            · exact b.no a y ⟨k, h, eσ⟩
          · exact n2 n p u q2 q3 q5 (addr q1 q0 q4 eσ).1
        · obtain ⟨n1, _⟩ := pc.new hw a ea
          rcases n1 with y | y
          · by_cases z : H a = none
            · exact .inl z
            · exact absurd y (p1.there a z)
          · exact aown a y
    · exact x cls d H3 ⟨xc.cls, fun a o e n => by
        obtain ⟨h1, h2⟩ := no1 a o e n
        exact xc.keep a o h1 h2, fun a h => xc.there a (p1.there a h), xc.dat⟩
end
end Rx

set_option Elab.async false
set_option linter.all false
set_option autoImplicit false
set_option maxRecDepth 100000
namespace Rx
open PySem L2
section
variable {T : TX} {E : XK} {σ : St} {F H F' H' : Hp} {env env' : Env}
theorem Stk.fresh_not {p : Addr} (st : Stk T F H σ env) (hp : H p = none) : F p = none ∧ ¬ Owns σ env p := by
  refine ⟨none_sub st.sub hp, fun z => ?_⟩
  obtain ⟨k, ⟨b, w, ek, hf⟩, eσ⟩ := z
  obtain ⟨v, ev, sl⟩ := st.sl k b w ek
  obtain ⟨c, ec, hc, _⟩ := sl.ref hf
  rw [eσ] at ev
  cases ev
  cases ec
  exact hc hp
theorem cargs_fz : ∀ {ds : List D} {vs : List V}, Rzs T F ds vs → CArgs T F H (ds.map Val.fz) vs ∧ ∀ a, ¬ AOwn (ds.map Val.fz) vs a
  | [], _, h => by
    rw [show _ = ([] : List V) from h]
    exact ⟨rfl, fun a z => z.elim⟩
  | d :: ds, _, h => by
    obtain ⟨v, r, rfl, q, t⟩ := h
    have z := cargs_fz t
    obtain ⟨h1, h2⟩ := z
    refine ⟨⟨v, r, rfl, q, h1, fun a hw => by cases hw⟩, fun a z => ?_⟩
    rcases z with ⟨hw, _⟩ | z
    · cases hw
    · exact h2 a z
theorem madeOf_ok {c : Str} {r : Val} {outs : List Slot} {fs : List (Str × D)} (h : madeOf c r outs = some fs) : r = .fz .non ∧ ∃ p rest, outs = .val p (.oi c fs) :: rest := by
  unfold madeOf at h
  split at h
  · split at h
    · cases h
      subst c
      exact ⟨rfl, _, _, rfl⟩
    · cases h
  · cases h
/-- a new instance -/
theorem rd_make {cl : Call} {f c : Str} {C : Addr} {pins : List Nat} {np : Nat} {fa : Env → Res (List Val × Env)} {ta : TA} (hC : T.ca c = some C) (h0 : 0 ∈ pins) (ha : RdV T E fa ta) (hl : LenA np (mapV fa)) :
    RdE T E (fun env => (fa env).bind fun (ws, env1) => (cl f (.oi c [] :: ws.map fun w => .fz w.frz)).bind fun (r, outs) => match madeOf c r outs with
      | some fs => .ok (.fz (.ins c fs), env1)
      | none => .bad)
    (fun σ H Q => ta σ H fun vs H1 => ∀ y dx, H1 y = none → H1 dx = none → dx ≠ y → spOf T cl f pins (np + 1) (.ref y :: vs) (upd (upd H1 dx (.own y)) y (.ins C dx [])) (fun v H2 => v = .non ∧ Q (.ref y) H2) E) := fun σ F H env Q st q => by
  refine ha.use σ F H env _ st ((Res.Post.bind q).len' hl |>.mono (fun (ws, env1) ⟨ln, k⟩ vs F1 H1 p1 m1 f1 => ?_) fun _ _ x => x)
  intro y dx hy hdx ne
  obtain ⟨F2, mo2, su2, rz2, g2⟩ := m1.frzs p1.st.sub
  have p2 : Pt T σ F H env F2 H1 env1 := p1.more mo2 su2 fun a n => (g2 a n).imp_right fun z => ⟨(m1.tmp z).2.2, f1 a z⟩
  obtain ⟨fd, od⟩ := p2.st.fresh_not hdx
  obtain ⟨fy, oy⟩ := p2.st.fresh_not hy
  have hy' : (upd H1 dx (.own y)) y = none := by rw [upd_ne (Ne.symm ne)]; exact hy
  have st3 : Stk T F2 (upd (upd H1 dx (.own y)) y (.ins C dx [])) σ env1 := (p2.st.other fd od).other fy oy
  generalize hH : upd (upd H1 dx (.own y)) y (.ins C dx []) = H3 at st3
  have hk : ∀ a o, H1 a = some o → H3 a = some o := fun a o e => by
    rw [← hH]
    exact keep_new hy' a o (keep_new hdx a o e)
  have hHy : H3 y = some (.ins C dx []) := by rw [← hH]; exact upd_same
  have rz3 : Rzs T F2 (ws.map Val.frz) vs := rz2
  obtain ⟨ca, na⟩ := cargs_fz (H := H3) rz3
  rw [List.map_map] at ca na
  have aown : ∀ {a : Addr}, AOwn (.oi c [] :: ws.map (Val.fz ∘ Val.frz)) (.ref y :: vs) a → a = y := fun {a} z => by
    rcases z with ⟨_, e⟩ | z
    · cases e
      rfl
    · exact absurd z (na a)
  refine ⟨.oi c [] :: ws.map (Val.fz ∘ Val.frz), F2, by rw [List.length_cons, List.length_map, ln], st3.sub, ⟨.ref y, vs, rfl, ⟨y, C, dx, [], rfl, hC, hHy, rfl, fy⟩, ca, fun a _ _ z => na a z⟩, (Res.Post.bind k).mono (fun (r, outs) k v F4 H4 pc => ?_) fun cc fs x cls d H4 xc => ?_⟩
  · have k2 : (match madeOf c r outs with
      | some fs => Res.ok (Val.fz (D.ins c fs), env1)
      | none => .bad).Post _ _ := k
    cases em : madeOf c r outs with
    | none =>
      rw [em] at k2
      exact k2.elim
    | some fs =>
        rw [em] at k2
        obtain ⟨rfl, p, rest, rfl⟩ := madeOf_ok em
        refine ⟨pc.sl, ?_⟩
        have so := pc.outs 0 p (.oi c fs) (.ref y) h0 rfl rfl
        obtain ⟨a, C', dx', xs, ea, hC', hH4, rf, hF4⟩ := so
        cases ea
        rw [hC] at hC'
        cases hC'
        -- the caller's state, with the instance done with
        have keep4 : ∀ a o, H1 a = some o → H4 a = some o := fun a o e => by
          refine pc.keep a o (hk a o e) fun z => ?_
          rw [aown z, hy] at e
          cases e
        have grow4 : ∀ a, F2 a = none → F4 a ≠ none → NT H1 a := fun a e n => by
          rcases pc.grow a e n with z | z
          · rw [aown z]
            exact NT.none hy
          · exact fun o e1 => z o (hk a o e1)
        have nw : Nw T F2 H1 (.fz (.ins c fs)) (.ref y) (upd F4 y (.ins C dx' xs)) H4 := by
          refine ⟨pc.mono.trans (sub_add hF4), sub_upd pc.sub hH4, keep4, fun a e n => ?_, ⟨y, C, dx', xs, rfl, hC, upd_same, Rzf.sub (sub_add hF4) fs xs rf⟩, fun hw => by cases hw⟩
          by_cases ha : a = y
          · rw [ha]
            exact NT.none hy
          · rw [upd_ne ha] at n
            exact grow4 a e n
        obtain ⟨p5, m5, f5⟩ := nw.pt p2.st
        exact k2 (.ref y) _ H4 (p2.trans p5) m5 (f5.pre p2)
  · refine x cls d H4 ⟨xc.cls, fun a o e n => ?_, fun a h => ?_, xc.dat⟩
    · have e1 := p1.keep a o e n
      refine xc.keep a o (hk a o e1) fun z => ?_
      rw [aown z, hy] at e1
      cases e1
    · cases e1 : H1 a with
      | none => exact absurd e1 (p1.there a h)
      | some o => exact xc.there a (by rw [hk a o e1]; simp)

/-! ### a def by its body -/
theorem startE_get {pins : List Nat} : ∀ {ws : List Val} {j k : Nat}, (startE pins j ws)[k]? = (ws[k]?).map fun w => Slot.val (pins.contains (j + k)) w
  | [], j, k => by
    show ([] : Env)[k]? = _
    simp
  | w :: ws, j, 0 => rfl
  | w :: ws, j, k + 1 => by
    show (startE pins (j + 1) ws)[k]? = _
    rw [startE_get, List.getElem?_cons_succ, Nat.add_right_comm, Nat.add_assoc]
theorem startE_len {pins : List Nat} : ∀ {ws : List Val} {j : Nat}, (startE pins j ws).length = ws.length
  | [], _ => rfl
  | w :: ws, j => by
    show (startE pins (j + 1) ws).length + 1 = _
    rw [startE_len, List.length_cons]
/-- the places at a def's start -/
theorem stk_start {pins : List Nat} {N : List Str} {ws : List Val} {vs : List V} {m : Nat} (hs : Sub F H) (a : CArgs T F H ws vs) (hm : m = N.length - vs.length) :
    Stk T F H (L2.start N vs) (startE pins 0 ws ++ List.replicate m .emp) ∧ (∀ a, Owns (L2.start N vs) (startE pins 0 ws ++ List.replicate m .emp) a → AOwn ws vs a) ∧ ∀ a, AOwn ws vs a → Owns (L2.start N vs) (startE pins 0 ws ++ List.replicate m .emp) a := by
  have ln := a.len
  have get : ∀ (k : Nat) p w, (startE pins 0 ws ++ List.replicate m Slot.emp)[k]? = some (Slot.val p w) → ws[k]? = some w ∧ ∃ v, vs[k]? = some v ∧ (L2.start N vs)[k]? = some (some v) := fun k p w e => by
    by_cases hk : k < ws.length
    · rw [List.getElem?_append_left (by rw [startE_len]; exact hk), startE_get] at e
      rw [List.getElem?_eq_getElem hk] at e ⊢
      cases e
      refine ⟨rfl, vs[k]'(ln ▸ hk), List.getElem?_eq_getElem _, ?_⟩
      unfold L2.start
      rw [List.getElem?_append_left (by rw [List.length_map]; omega), List.getElem?_map, List.getElem?_eq_getElem (ln ▸ hk)]
      rfl
    · rw [List.getElem?_append_right (by rw [startE_len]; omega), List.getElem?_replicate] at e
      split at e <;> cases e
  have own : ∀ a, Owns (L2.start N vs) (startE pins 0 ws ++ List.replicate m .emp) a → AOwn ws vs a := fun b ⟨k, ⟨p, w, e, hw⟩, eσ⟩ => by
    obtain ⟨h1, v, h2, h3⟩ := get k p w e
    rw [eσ] at h3
    cases h3
    exact (a.get h1 h2).2 b hw rfl
  refine ⟨⟨hs, ?_, fun k p w e => ?_, fun k j b ⟨p, w, e, hw⟩ ⟨p', w', e', hw'⟩ e1 e2 => ?_⟩, own, ?_⟩
  · unfold L2.start
    rw [List.length_append, List.length_append, startE_len, List.length_replicate, List.length_map, List.length_replicate, ln, hm]
  · obtain ⟨h1, v, h2, h3⟩ := get k p w e
    exact ⟨v, h3, (a.get h1 h2).1⟩
  · obtain ⟨h1, v, h2, h3⟩ := get k p w e
    obtain ⟨h1', v', h2', h3'⟩ := get j p' w' e'
    rw [e1] at h3
    rw [e2] at h3'
    cases h3
    cases h3'
    exact a.inj h1 h1' hw hw' h2 h2'
  · have key : ∀ {ws : List Val} {vs : List V} {b : Addr}, AOwn ws vs b → ∃ (k : Nat) (w : Val), ws[k]? = some w ∧ w.isFz = false ∧ vs[k]? = some (V.ref b) := by
      intro ws
      induction ws with
      | nil => intro vs b h; cases vs <;> exact h.elim
      | cons w ws ih =>
        intro vs b h
        cases vs with
        | nil => exact h.elim
        | cons v vs =>
          rcases h with ⟨h1, h2⟩ | h
          · exact ⟨0, w, rfl, h1, by rw [h2]; rfl⟩
          · obtain ⟨k, u, e1, e2, e3⟩ := ih h
            exact ⟨k + 1, u, e1, e2, e3⟩
    intro b hb
    obtain ⟨k, w, e1, e2, e3⟩ := key hb
    have hk : k < ws.length := (List.getElem?_eq_some_iff.mp e1).1
    refine ⟨k, ⟨pins.contains (0 + k), w, ?_, e2⟩, ?_⟩
    · rw [List.getElem?_append_left (by rw [startE_len]; exact hk), startE_get, e1]
      rfl
    · unfold L2.start
      rw [List.getElem?_append_left (by rw [List.length_map]; omega), List.getElem?_map, e3]
      rfl
/-- the promise of a def from its body's reading -/
theorem fn_body {Γ : Tbl} {n : Nat} {f : Str} {fn : Fn} {N : List Str} {t : TS} {vs : List V} {H : Hp} {Q : VK} {E : XK} (hf : Γ.fn f = some fn) (hN : fn.ns = N.length) (hr : RdS T E (evSs Γ (callF Γ n) fn.body) t) (hp : ∀ j ∈ fn.pins, j < fn.np)
    (h : spOf T (callF Γ (n + 1)) f fn.pins fn.np vs H Q E) : t { nx := fun _ H' => Q .non H', rt := Q } (L2.start N vs) H := by
  obtain ⟨ws, F, ln, hs, ca, h⟩ := h
  obtain ⟨st, o1, o2⟩ := stk_start (pins := fn.pins) (N := N) (m := fn.ns - fn.np) hs ca (by rw [hN, ← ln, ca.len])
  have e : callF Γ (n + 1) f ws = (match evSs Γ (callF Γ n) fn.body (startE fn.pins 0 ws ++ List.replicate (fn.ns - fn.np) Slot.emp) with
        | .ok (Fl.nx, env) => .ok (Val.fz D.non, env.take fn.np)
        | .ok (Fl.rt w, env) => .ok (w, env.take fn.np)
        | .exc c fs => .exc c fs
        | _ => .bad) := by
    show (match Γ.fn f with
      | none => Res.bad
      | some fn => if ws.length = fn.np then
          match evSs Γ (callF Γ n) fn.body (startE fn.pins 0 ws ++ List.replicate (fn.ns - fn.np) Slot.emp) with
          | .ok (Fl.nx, env) => .ok (Val.fz D.non, env.take fn.np)
          | .ok (Fl.rt w, env) => .ok (w, env.take fn.np)
          | .exc c fs => .exc c fs
          | _ => .bad
        else .bad) = _
    rw [hf]
    exact if_pos ln
  rw [e] at h
  -- what the caller is told
  have tell : ∀ {σ' : St} {F' H' : Hp} {env' : Env} {w : Val} {v : V}, PtS T (L2.start N vs) F H (startE fn.pins 0 ws ++ List.replicate (fn.ns - fn.np) Slot.emp) σ' F' H' env' → Tm T σ' F' H' env' w v →
      Fresh (L2.start N vs) H (startE fn.pins 0 ws ++ List.replicate (fn.ns - fn.np) Slot.emp) w v → PCall T fn.pins F H ws vs F' H' w v (env'.take fn.np) := fun {σ' F' H' env' w v} p m fr => by
    have slot : ∀ (j : Nat) q u, j ∈ fn.pins → (env'.take fn.np)[j]? = some (Slot.val q u) → env'[j]? = some (Slot.val q u) ∧ σ'[j]? = (L2.start N vs)[j]? := fun j q u hj e => by
      have hj' := hp j hj
      rw [List.getElem?_take_of_lt hj'] at e
      refine ⟨e, p.sig j ?_⟩
      rw [List.getElem?_append_left (by rw [startE_len, ln]; exact hj'), startE_get, List.getElem?_eq_getElem (by rw [ln]; exact hj')]
      show pst (some (Slot.val (fn.pins.contains (0 + j)) _)) ≠ 0
      rw [Nat.zero_add, show fn.pins.contains j = true by simpa using hj]
      exact Nat.one_ne_zero
    have stv : ∀ (j : Nat) (v : V), vs[j]? = some v → (L2.start N vs)[j]? = some (some v) := fun j v e => by
      unfold L2.start
      rw [List.getElem?_append_left (by rw [List.length_map]; exact (List.getElem?_eq_some_iff.mp e).1), List.getElem?_map, e]
      rfl
    refine ⟨p.mono, p.st.sub, fun a e n => (p.grow a e n).imp_left (o1 a), fun a o e n => p.keep a o e fun z => n (o1 a z), p.there, m.sl, fun hw a ea => ⟨(fr hw a ea).imp_right (o1 a), fun j q u hj e hu ev => ?_⟩, fun j q u v hj e ev => ?_⟩
    · obtain ⟨s1, s2⟩ := slot j q u hj e
      exact m.no hw a ea ⟨j, ⟨q, u, s1, hu⟩, by rw [s2, stv j _ ev]⟩
    · obtain ⟨s1, s2⟩ := slot j q u hj e
      obtain ⟨v', ev', sl⟩ := p.st.sl j q u s1
      rw [s2, stv j _ ev] at ev'
      cases ev'
      exact sl
  refine hr.use (L2.start N vs) F H _ _ st ?_
  cases e2 : evSs Γ (callF Γ n) fn.body (startE fn.pins 0 ws ++ List.replicate (fn.ns - fn.np) Slot.emp) with
  | bad =>
    rw [e2] at h
    exact h.elim
  | exc c fs =>
    rw [e2] at h
    exact fun cls d H' x => h cls d H' ⟨x.cls, fun a o e n => x.keep a o e fun z => n (o1 a z), x.there, x.dat⟩
  | ok r =>
    obtain ⟨fl, env'⟩ := r
    rw [e2] at h
    cases fl with
    | nx => exact fun σ' F' H' p => h .non F' H' (tell p (Tm.fz rfl) (Fresh.fz _ _))
    | rt w => exact fun v σ' F' H' p m fr => h v F' H' (tell p m fr)
    | bk => exact h.elim
    | ct => exact h.elim
end
end Rx

set_option Elab.async false
set_option linter.all false
set_option autoImplicit false
set_option maxRecDepth 100000
namespace Rx
open PySem L2
section
variable {T : TX} {F H F' H' : Hp}
/-- what an operation by data asks, by values -/
def rP (T : TX) (op : Op) : List V → Hp → VK → Prop := fun vs H Q => ∃ (ds : List D) (F : Hp) (w : Val), ds.length = vs.length ∧ prim op ds = .ok w ∧ Sub F H ∧ Pks T F H ds vs ∧ ∀ v F' H', Nw T F H w v F' H' → Q v H'
theorem Pks.len : ∀ {ds : List D} {vs : List V}, Pks T F H ds vs → ds.length = vs.length
  | [], _, h => by rw [show _ = ([] : List V) from h]; rfl
  | d :: ds, _, h => by
    obtain ⟨v, r, rfl, _, t⟩ := h
    simp only [List.length_cons, Pks.len t]
theorem ops_P {op : Op} {n : Nat} : OpS T n (prim op) (rP T op) := fun ds vs F H Q w _ e s p q => ⟨ds, F, w, p.len, e, s, p, q⟩
theorem Pks.one {d : D} {vs : List V} (h : Pks T F H [d] vs) : ∃ v, vs = [v] ∧ Pk T F H d v := by
  obtain ⟨v, r, rfl, q, t⟩ := h
  exact ⟨v, by rw [show r = [] from t], q⟩
theorem Pks.two {d e : D} {vs : List V} (h : Pks T F H [d, e] vs) : ∃ v u, vs = [v, u] ∧ Pk T F H d v ∧ Pk T F H e u := by
  obtain ⟨v, r, rfl, q, t⟩ := h
  obtain ⟨u, rfl, q2⟩ := t.one
  exact ⟨v, u, rfl, q, q2⟩
theorem Pks.three {d e g : D} {vs : List V} (h : Pks T F H [d, e, g] vs) : ∃ v u z, vs = [v, u, z] ∧ Pk T F H d v ∧ Pk T F H e u ∧ Pk T F H g z := by
  obtain ⟨v, r, rfl, q, t⟩ := h
  obtain ⟨u, z, rfl, q2, q3⟩ := t.two
  exact ⟨v, u, z, rfl, q, q2, q3⟩
theorem Pk.frz1 {d : D} {v : V} (h : Pk T F H d v) (n1 : ∀ l, d ≠ .lst l) (n2 : ∀ l, d ≠ .dk l) (n4 : ∀ l, d ≠ .dt l) (n3 : ∀ c fs, d ≠ .ins c fs) : Rz T F d v := by
  obtain ⟨w, e, s⟩ := h
  cases w with
  | fz d' => cases e; exact s
  | own l => cases e; exact absurd rfl (n1 l)
  | odk l => cases e; exact absurd rfl (n2 l)
  | odt l => cases e; exact absurd rfl (n4 l)
  | oi c fs => cases e; exact absurd rfl (n3 c fs)
theorem Pk.int {i : Int} {v : V} (h : Pk T F H (.int i) v) : v = .int i := h.frz1 (by simp) (by simp) (by simp) (by simp)
theorem Pk.bl {i : Bool} {v : V} (h : Pk T F H (.bl i) v) : v = .bl i := h.frz1 (by simp) (by simp) (by simp) (by simp)
theorem Pk.str {i : Str} {v : V} (h : Pk T F H (.str i) v) : v = .str i := h.frz1 (by simp) (by simp) (by simp) (by simp)
theorem Pk.non {v : V} (h : Pk T F H .non v) : v = .non := h.frz1 (by simp) (by simp) (by simp) (by simp)
theorem Pk.tupF {l : List D} {v : V} (h : Pk T F H (.tup l) v) : ∃ a xs, v = .ref a ∧ F a = some (.tup xs) ∧ Rzs T F l xs := h.frz1 (by simp) (by simp) (by simp) (by simp)
theorem Pk.tup {l : List D} {v : V} (h : Pk T F H (.tup l) v) : ∃ a xs, v = .ref a ∧ SqT T.K F a xs ∧ Rzs T F l xs := by
  obtain ⟨a, xs, e, q, r⟩ := h.tupF
  exact ⟨a, xs, e, SqT.of q, r⟩
theorem Pk.scr {l : List Int} {v : V} (h : Pk T F H (.scr l) v) : ∃ a, v = .ref a ∧ SqL T.K F a (l.map V.int) := h.frz1 (by simp) (by simp) (by simp) (by simp)
theorem Pk.lst {l : List D} {v : V} (h : Pk T F H (.lst l) v) (hs : Sub F H) : ∃ a xs, v = .ref a ∧ H a = some (.lst xs) ∧ Rzs T F l xs := by
  obtain ⟨w, e, s⟩ := h
  obtain ⟨a, xs, ea, r, k⟩ := Sl.asL (S := fun _ => True) e s hs fun _ _ _ => trivial
  exact ⟨a, xs, ea, k H (KpS.refl hs), r⟩
theorem Pk.ins {c : Str} {fs : List (Str × D)} {v : V} (h : Pk T F H (.ins c fs) v) (hs : Sub F H) : ∃ a C dx xs, v = .ref a ∧ T.ca c = some C ∧ H a = some (.ins C dx xs) ∧ Rzf T F fs xs := by
  obtain ⟨w, e, s⟩ := h
  cases w with
  | fz d =>
    cases e
    obtain ⟨a, C, dx, xs, h1, h2, h3, h4⟩ := s
    exact ⟨a, C, dx, xs, h1, h2, hs _ _ h3, h4⟩
  | own l => cases e
  | odk l => cases e
  | odt l => cases e
  | oi c fs =>
    cases e
    obtain ⟨a, C, dx, xs, h1, h2, h3, h4, _⟩ := s
    exact ⟨a, C, dx, xs, h1, h2, h3, h4⟩
theorem Pk.dk {l : List (DKey × D)} {v : V} (h : Pk T F H (.dk l) v) (hs : Sub F H) : ∃ a xs, v = .ref a ∧ H a = some (.dK xs) ∧ Rzk T F l xs := by
  obtain ⟨w, e, s⟩ := h
  cases w with
  | fz d =>
    cases e
    obtain ⟨a, xs, h1, h3, h4⟩ := s
    exact ⟨a, xs, h1, hs _ _ h3, h4⟩
  | own l => cases e
  | odk l =>
    cases e
    obtain ⟨a, xs, h1, h3, h4, _⟩ := s
    exact ⟨a, xs, h1, h3, h4⟩
  | odt l => cases e
  | oi c fs => cases e
theorem Pk.dt {l : List (List DKey × D)} {v : V} (h : Pk T F H (.dt l) v) (hs : Sub F H) : ∃ a xs, v = .ref a ∧ H a = some (.dT xs) ∧ Rzt T F l xs := by
  obtain ⟨w, e, s⟩ := h
  cases w with
  | fz d =>
    cases e
    obtain ⟨a, xs, h1, h3, h4⟩ := s
    exact ⟨a, xs, h1, hs _ _ h3, h4⟩
  | own l => cases e
  | odk l => cases e
  | odt l =>
    cases e
    obtain ⟨a, xs, h1, h3, h4, _⟩ := s
    exact ⟨a, xs, h1, h3, h4⟩
  | oi c fs => cases e
theorem Pk.rz {d : D} {v : V} (h : Pk T F H d v) (hs : Sub F H) : ∃ F', Sub F F' ∧ Sub F' H ∧ Rz T F' d v := by
  obtain ⟨w, e, s⟩ := h
  obtain ⟨F', h1, h2, h3, _⟩ := s.freeze hs
  exact ⟨F', h1, h2, by rw [← e]; exact h3⟩
theorem OpR.imp {X : Cx} {f : Value → Value → Sem Value} {r r' : R2} (h : OpR X f r) (k : ∀ x y H Q, r' x y H Q → r x y H Q) : OpR X f r' := fun pins s σ H x y v u Q I rx ry q => h pins s σ H x y v u Q I rx ry (k x y H Q q)
theorem CallR.imp {X : Cx} {f : Value} {r r' : List V → Hp → VK → Prop} (h : CallR X f r) (k : ∀ x H Q, r' x H Q → r x H Q) : CallR X f r' := fun pins s σ H x v Q I rx q => h pins s σ H x v Q I rx (k x H Q q)
theorem op2 {X : Cx} {f : Value → Value → Sem Value} {op : Op} {r : R2} (h : OpR X f r) (k : ∀ d e x y F H w Q, prim op [d, e] = .ok w → Sub F H → Pk T F H d x → Pk T F H e y → (∀ v F' H', Nw T F H w v F' H' → Q v H') → r x y H Q) :
    OpR X f (fun x y H Q => rP T op [x, y] H Q) := OpR.imp h fun x y H Q ⟨ds, F, w, ln, e, s, p, q⟩ => by
  obtain ⟨d, d', rfl⟩ := len2 ln
  obtain ⟨v, u, ev, p1, p2⟩ := p.two
  cases ev
  exact k d d' x y F H w Q e s p1 p2 q
theorem cl1 {X : Cx} {f : Value} {op : Op} {r : List V → Hp → VK → Prop} (h : CallR X f r) (k : ∀ d x F H w Q, prim op [d] = .ok w → Sub F H → Pk T F H d x → (∀ v F' H', Nw T F H w v F' H' → Q v H') → r [x] H Q) :
    CallR X f (fun xs H Q => ∃ x, xs = [x] ∧ rP T op [x] H Q) := CallR.imp h fun xs H Q ⟨x, ex, ds, F, w, ln, e, s, p, q⟩ => by
  subst ex
  obtain ⟨d, rfl⟩ := len1 ln
  obtain ⟨v, ev, p1⟩ := p.one
  cases ev
  exact k d x F H w Q e s p1 q
theorem cl2 {X : Cx} {f : Value} {op : Op} {r : List V → Hp → VK → Prop} (h : CallR X f r) (k : ∀ d e x y F H w Q, prim op [d, e] = .ok w → Sub F H → Pk T F H d x → Pk T F H e y → (∀ v F' H', Nw T F H w v F' H' → Q v H') → r [x, y] H Q) :
    CallR X f (fun xs H Q => ∃ x y, xs = [x, y] ∧ rP T op [x, y] H Q) := CallR.imp h fun xs H Q ⟨x, y, ex, ds, F, w, ln, e, s, p, q⟩ => by
  subst ex
  obtain ⟨d, d', rfl⟩ := len2 ln
  obtain ⟨v, u, ev, p1, p2⟩ := p.two
  cases ev
  exact k d d' x y F H w Q e s p1 p2 q
theorem Nw.fzI {F H : Hp} (s : Sub F H) (i : Int) : Nw T F H (.fz (.int i)) (.int i) F H := Nw.fz s rfl
theorem Nw.fzB {F H : Hp} (s : Sub F H) (i : Bool) : Nw T F H (.fz (.bl i)) (.bl i) F H := Nw.fz s rfl
theorem own?_ok {l : List D} {w : Val} (h : own? l = .ok w) : l.length ≤ SL ∧ w = .own l := by
  unfold own? at h
  split at h
  · cases h
    exact ⟨by assumption, rfl⟩
  · cases h
theorem tup?_ok {l : List D} {w : Val} (h : tup? l = .ok w) : l.length ≤ SL ∧ w = .fz (.tup l) := by
  unfold tup? at h
  split at h
  · cases h
    exact ⟨by assumption, rfl⟩
  · cases h
/-! ### arithmetic -/
theorem o_add {X : Cx} (hK : X.K = T.K) : OpR X (binaryOp .Add) (fun x y H Q => rP T .add [x, y] H Q) := by
  refine op2 ((op_add.or op_cat).or op_catA) fun d e x y F H w Q h s p q k => ?_
  cases d with
  | int i =>
    cases e with
    | int j =>
      cases h
      exact .inl (.inl ⟨i, j, p.int, q.int, k _ F H (Nw.fzI s _)⟩)
    | _ => cases h
  | lst l =>
    cases e with
    | lst m =>
      obtain ⟨h1, rfl⟩ := own?_ok h
      obtain ⟨a, xs, rfl, e1, r1⟩ := p.lst s
      obtain ⟨b, ys, rfl, e2, r2⟩ := q.lst s
      refine .inl (.inr ⟨a, b, xs, ys, rfl, rfl, e1, e2, ?_, fun p hp => k _ F _ (Nw.lst s (r1.app r2) hp)⟩)
      rw [← r1.len, ← r2.len, ← SL_line, ← List.length_append]
      exact h1
    | _ => cases h
  | tup l =>
    cases e with
    | tup m =>
      obtain ⟨h1, rfl⟩ := tup?_ok h
      obtain ⟨a, xs, rfl, e1, r1⟩ := p.tupF
      obtain ⟨b, ys, rfl, e2, r2⟩ := q.tupF
      have r3 := r1.app r2
      refine .inr ⟨a, b, xs, ys, rfl, rfl, SqT.of (s _ _ e1), SqT.of (s _ _ e2), ?_, fun z => ?_, fun _ z => ?_, fun _ _ p hp => k _ _ _ (Nw.tup s r3 hp)⟩
      · rw [← r1.len, ← r2.len, ← SL_line, ← List.length_append]
        exact h1
      · subst z
        exact k _ F H (Nw.fz s ⟨b, ys, rfl, e2, r3⟩)
      · subst z
        rw [List.append_nil] at r3
        exact k _ F H (Nw.fz s ⟨a, xs, rfl, e1, r3⟩)
    | _ => cases h
  | _ => cases h
theorem o_sub {X : Cx} : OpR X (binaryOp .Sub) (fun x y H Q => rP T .sub [x, y] H Q) := by
  refine op2 op_sub fun d e x y F H w Q h s p q k => ?_
  cases d with
  | int i =>
    cases e with
    | int j =>
      cases h
      exact ⟨i, j, p.int, q.int, k _ F H (Nw.fzI s _)⟩
    | _ => cases h
  | _ => cases h
theorem ite_ok {α : Type} {c : Bool} {a : Res α} {w : α} (h : (if c = true then a else Res.bad) = .ok w) : c = true ∧ a = .ok w := by
  cases c with
  | true => exact ⟨rfl, h⟩
  | false => cases h
theorem B64_iff {i : Int} : B64 i = true ↔ -(2 ^ 64) < i ∧ i < 2 ^ 64 := by
  unfold B64
  rw [decide_eq_true_iff]
  omega
theorem o_mul {X : Cx} : OpR X (binaryOp .Mult) (fun x y H Q => rP T .mul [x, y] H Q) := by
  refine op2 (op_mul.or op_rep) fun d e x y F H w Q h s p q k => ?_
  cases d with
  | int i =>
    cases e with
    | int j =>
      obtain ⟨c, h⟩ := ite_ok h
      cases h
      exact .inl ⟨i, j, p.int, q.int, (Bool.or_eq_true _ _ ▸ c).imp B64_iff.mp B64_iff.mp, k _ F H (Nw.fzI s _)⟩
    | _ => cases h
  | lst l =>
    cases e with
    | int j =>
      obtain ⟨c, h⟩ := ite_ok h
      obtain ⟨h1, rfl⟩ := own?_ok h
      obtain ⟨a, xs, rfl, e1, r1⟩ := p.lst s
      have c := B62_iff.mp c
      refine .inr ⟨a, j, xs, rfl, q.int, e1, by omega, by omega, ?_, fun p hp => k _ F _ (Nw.lst s (r1.rep _) hp)⟩
      rw [List.length_flatten, List.map_replicate, List.sum_replicate_nat, SL_line] at h1
      rw [← r1.len, Nat.mul_comm]
      exact h1
    | _ => cases h
  | _ => cases h
theorem log_lt {n k : Nat} (h : n < 2 ^ k) (hk : 0 < k) : n.log2 < k := by
  by_cases hn : n = 0
  · subst hn
    simpa using hk
  · exact (Nat.log2_lt hn).mpr h
theorem o_fdiv {X : Cx} : OpR X (binaryOp .FloorDiv) (fun x y H Q => rP T .fdiv [x, y] H Q) := by
  refine op2 op_fdivW fun d e x y F H w Q h s p q k => ?_
  cases d with
  | int i =>
    cases e with
    | int j =>
      obtain ⟨c, h⟩ := ite_ok h
      cases h
      obtain ⟨c1, c2⟩ := Bool.and_eq_true_iff.mp c
      have c1 := of_decide_eq_true c1
      have c2 := B62_iff.mp c2
      exact ⟨i, j, p.int, q.int, ⟨c1, Nat.lt_trans (log_lt (k := 62) (by omega) (by omega)) (by omega)⟩, k _ F H (Nw.fzI s _)⟩
    | _ => cases h
  | _ => cases h
theorem o_mod {X : Cx} : OpR X (binaryOp .Mod) (fun x y H Q => rP T .mod [x, y] H Q) := by
  refine op2 op_mod fun d e x y F H w Q h s p q k => ?_
  cases d with
  | int i =>
    cases e with
    | int j =>
      obtain ⟨c, h⟩ := ite_ok h
      cases h
      exact ⟨i, j, p.int, q.int, of_decide_eq_true c, k _ F H (Nw.fzI s _)⟩
    | _ => cases h
  | _ => cases h
theorem o_pow {X : Cx} : OpR X (binaryOp .Pow) (fun x y H Q => rP T .pow [x, y] H Q) := by
  refine op2 op_pow fun d e x y F H w Q h s p q k => ?_
  cases d with
  | int i =>
    cases e with
    | int j =>
      obtain ⟨c, h⟩ := ite_ok h
      cases h
      obtain ⟨c1, c3⟩ := Bool.and_eq_true_iff.mp c
      obtain ⟨c1, c2⟩ := Bool.and_eq_true_iff.mp c1
      have c1 := of_decide_eq_true c1
      have c2 := of_decide_eq_true c2
      have c3 := B62_iff.mp c3
      exact ⟨i, j, p.int, q.int, ⟨c1, by omega, by omega⟩, k _ F H (Nw.fzI s _)⟩
    | _ => cases h
  | _ => cases h
theorem o_neg {X : Cx} : UnR X (unaryOp .USub) (fun x H Q => rP T .neg [x] H Q) := fun pins s σ H x v Q I rx ⟨ds, F, w, ln, h, hs, p, k⟩ => by
  obtain ⟨d, rfl⟩ := len1 ln
  obtain ⟨y, ev, p⟩ := p.one
  cases ev
  refine un_neg pins s σ H x v Q I rx ?_
  cases d with
  | int i =>
    cases h
    exact ⟨i, p.int, k _ F H (Nw.fzI hs _)⟩
  | _ => cases h
/-! ### comparisons of ints -/
theorem o_le {X : Cx} : OpR X (compareOp .LtE) (fun x y H Q => rP T .le [x, y] H Q) := by
  refine op2 op_le fun d e x y F H w Q h s p q k => ?_
  cases d with
  | int i =>
    cases e with
    | int j =>
      cases h
      exact ⟨i, j, p.int, q.int, k _ F H (Nw.fzB s _)⟩
    | _ => cases h
  | _ => cases h
theorem o_ge {X : Cx} : OpR X (compareOp .GtE) (fun x y H Q => rP T .ge [x, y] H Q) := by
  refine op2 op_ge fun d e x y F H w Q h s p q k => ?_
  cases d with
  | int i =>
    cases e with
    | int j =>
      cases h
      exact ⟨i, j, p.int, q.int, k _ F H (Nw.fzB s _)⟩
    | _ => cases h
  | _ => cases h
/-! ### data as the library reads it -/
mutual
theorem dp_of (hs : Sub F H) : ∀ (d : D) (n : Nat) (v : V), Rz T F d v → d.fit n = true → Dp T.K H v d.py
  | .non, _, _, h, _ => by cases (show _ = V.non from h); exact .non
  | .bl b, _, _, h, _ => by cases (show _ = V.bl b from h); exact .bl b
  | .int b, _, _, h, _ => by cases (show _ = V.int b from h); exact .int b
  | .str b, _, _, h, _ => by cases (show _ = V.str b from h); exact .str b
  | .tup l, 0, _, _, f => by simp [D.fit] at f
  | .tup l, n + 1, _, h, f => by
    obtain ⟨a, xs, rfl, q, r⟩ := h
    exact .tup (SqT.of (hs _ _ q)) (dps_of hs l n xs r (by simpa [D.fit] using f))
  | .lst l, 0, _, _, f => by simp [D.fit] at f
  | .lst l, n + 1, _, h, f => by
    obtain ⟨a, xs, rfl, q, r⟩ := h
    exact .lst (.inl (.inl (hs _ _ q))) (dps_of hs l n xs r (by simpa [D.fit] using f))
  | .dk _, n, _, _, f => by cases n <;> simp [D.fit] at f
  | .dt _, n, _, _, f => by cases n <;> simp [D.fit] at f
  | .ins _ _, n, _, _, f => by cases n <;> simp [D.fit] at f
  | .scr _, n, _, _, f => by cases n <;> simp [D.fit] at f
theorem dps_of (hs : Sub F H) : ∀ (l : List D) (n : Nat) (xs : List V), Rzs T F l xs → D.fits n l = true → DpAll T.K H xs (D.pys l)
  | [], _, _, h, _ => by cases (show _ = ([] : List V) from h); exact .nil
  | d :: l, n, _, h, f => by
    obtain ⟨x, r, rfl, h1, h2⟩ := h
    have f : (d.fit n && D.fits n l) = true := by simpa [D.fits] using f
    obtain ⟨f1, f2⟩ := Bool.and_eq_true_iff.mp f
    exact .cons (dp_of hs d n x h1 f1) (dps_of hs l n r h2 f2)
end
mutual
theorem plain_of : ∀ (d : D) (n : Nat), d.fit n = true → d.py.plain = true ∧ d.py.depth ≤ n
  | .non, _, _ => ⟨rfl, Nat.zero_le _⟩
  | .bl b, _, _ => ⟨rfl, Nat.zero_le _⟩
  | .int b, _, _ => ⟨rfl, Nat.zero_le _⟩
  | .str b, _, _ => ⟨rfl, Nat.zero_le _⟩
  | .tup l, 0, f => by simp [D.fit] at f
  | .tup l, n + 1, f => by
    obtain ⟨h1, h2⟩ := plains_of l n (by simpa [D.fit] using f)
    exact ⟨h1, by simp only [D.py, PyData.depth]; omega⟩
  | .lst l, 0, f => by simp [D.fit] at f
  | .lst l, n + 1, f => by
    obtain ⟨h1, h2⟩ := plains_of l n (by simpa [D.fit] using f)
    exact ⟨h1, by simp only [D.py, PyData.depth]; omega⟩
  | .dk _, n, f => by cases n <;> simp [D.fit] at f
  | .dt _, n, f => by cases n <;> simp [D.fit] at f
  | .ins _ _, n, f => by cases n <;> simp [D.fit] at f
  | .scr _, n, f => by cases n <;> simp [D.fit] at f
theorem plains_of : ∀ (l : List D) (n : Nat), D.fits n l = true → PyData.plainAll (D.pys l) = true ∧ PyData.depthAll (D.pys l) ≤ n
  | [], _, _ => ⟨rfl, Nat.zero_le _⟩
  | d :: l, n, f => by
    have f : (d.fit n && D.fits n l) = true := by simpa [D.fits] using f
    obtain ⟨f1, f2⟩ := Bool.and_eq_true_iff.mp f
    obtain ⟨a1, a2⟩ := plain_of d n f1
    obtain ⟨b1, b2⟩ := plains_of l n f2
    refine ⟨by simp only [D.pys, PyData.plainAll, a1, b1, Bool.and_self], ?_⟩
    simp only [D.pys, PyData.depthAll]
    omega
end
theorem Pk.reads {X : Cx} {pins : List (Addr × Obj)} {σ : L2.St} {s : Shared} {d : D} {x : V} {v : Value} (hK : X.K = T.K) (I : Inv X pins σ H s) (rx : RelV x v) (p : Pk T F H d x) (hs : Sub F H) (n : Nat) (f : d.fit n = true) : ∃ as, Reads s.heap v d.py as := by
  obtain ⟨F', _, h2, h3⟩ := p.rz hs
  exact Dp.reads I d.py x v (by rw [hK]; exact dp_of h2 d n x h3 f) rx
theorem o_eq {X : Cx} (hK : X.K = T.K) (hu : X.A.units + 64 < cLine) : OpR X (compareOp .Eq) (fun x y H Q => rP T .eq [x, y] H Q) := by
  intro pins s σ H x y v u Q I rx ry ⟨ds, F, w, ln, h, hs, p, k⟩
  obtain ⟨d, e, rfl⟩ := len2 ln
  obtain ⟨x', y', ev, p1, p2⟩ := p.two
  cases ev
  have h : (if (d.fit 40 && e.fit 40) = true then rB (d.eqD e) else .bad) = .ok w := h
  obtain ⟨c, h⟩ := ite_ok h
  cases h
  obtain ⟨c1, c2⟩ := Bool.and_eq_true_iff.mp c
  obtain ⟨as, r1⟩ := p1.reads hK I rx hs 40 c1
  obtain ⟨bs, r2⟩ := p2.reads hK I ry hs 40 c2
  have d1 := plain_of d 40 c1
  have d2 := plain_of e 40 c2
  exact PySem.SeqAt.eq_plain r1 r2 d1.1 d2.1 (by have := d1.2; have := d2.2; omega) ⟨.bl _, H, I, rfl, k _ F H (Nw.fzB hs _)⟩
theorem o_ne {X : Cx} (hK : X.K = T.K) (hu : X.A.units + 64 < cLine) : OpR X (compareOp .NotEq) (fun x y H Q => rP T .ne [x, y] H Q) := by
  intro pins s σ H x y v u Q I rx ry ⟨ds, F, w, ln, h, hs, p, k⟩
  obtain ⟨d, e, rfl⟩ := len2 ln
  obtain ⟨x', y', ev, p1, p2⟩ := p.two
  cases ev
  have h : (if (d.fit 40 && e.fit 40) = true then rB (!d.eqD e) else .bad) = .ok w := h
  obtain ⟨c, h⟩ := ite_ok h
  cases h
  obtain ⟨c1, c2⟩ := Bool.and_eq_true_iff.mp c
  obtain ⟨as, r1⟩ := p1.reads hK I rx hs 40 c1
  obtain ⟨bs, r2⟩ := p2.reads hK I ry hs 40 c2
  have d1 := plain_of d 40 c1
  have d2 := plain_of e 40 c2
  exact PySem.SeqAt.ne_plain r1 r2 d1.1 d2.1 (by have := d1.2; have := d2.2; omega) ⟨.bl _, H, I, rfl, k _ F H (Nw.fzB hs _)⟩
theorem o_lt {X : Cx} (hK : X.K = T.K) (hu : X.A.units + 64 < cLine) : OpR X (compareOp .Lt) (fun x y H Q => rP T .lt [x, y] H Q) := by
  intro pins s σ H x y v u Q I rx ry ⟨ds, F, w, ln, h, hs, p, k⟩
  obtain ⟨d, e, rfl⟩ := len2 ln
  obtain ⟨x', y', ev, p1, p2⟩ := p.two
  cases ev
  cases d with
  | int i =>
    cases e with
    | int j =>
      cases h
      exact op_lt pins s σ H _ _ v u Q I rx ry ⟨i, j, p1.int, p2.int, k _ F H (Nw.fzB hs _)⟩
    | _ => cases h
  | tup l =>
    cases e with
    | tup m =>
      obtain ⟨c, h⟩ := ite_ok h
      cases h
      obtain ⟨c1, c3⟩ := Bool.and_eq_true_iff.mp c
      obtain ⟨c1, c2⟩ := Bool.and_eq_true_iff.mp c1
      obtain ⟨as, r1⟩ := p1.reads hK I rx hs 41 (by simpa [D.fit] using c1)
      obtain ⟨bs, r2⟩ := p2.reads hK I ry hs 41 (by simpa [D.fit] using c2)
      have d1 := (plain_of (.tup l) 41 (by simpa [D.fit] using c1)).2
      exact PySem.W.lt_data r1 r2 c3 (fun z => by simp [D.py] at z) (by omega) ⟨.bl _, H, I, rfl, k _ F H (Nw.fzB hs _)⟩
    | _ => cases h
  | _ => cases h
theorem o_gt {X : Cx} (hK : X.K = T.K) (hu : X.A.units + 64 < cLine) : OpR X (compareOp .Gt) (fun x y H Q => rP T .gt [x, y] H Q) := by
  intro pins s σ H x y v u Q I rx ry ⟨ds, F, w, ln, h, hs, p, k⟩
  obtain ⟨d, e, rfl⟩ := len2 ln
  obtain ⟨x', y', ev, p1, p2⟩ := p.two
  cases ev
  cases d with
  | int i =>
    cases e with
    | int j =>
      cases h
      exact op_gt pins s σ H _ _ v u Q I rx ry ⟨i, j, p1.int, p2.int, k _ F H (Nw.fzB hs _)⟩
    | _ => cases h
  | tup l =>
    cases e with
    | tup m =>
      obtain ⟨c, h⟩ := ite_ok h
      cases h
      obtain ⟨c1, c3⟩ := Bool.and_eq_true_iff.mp c
      obtain ⟨c1, c2⟩ := Bool.and_eq_true_iff.mp c1
      obtain ⟨as, r1⟩ := p1.reads hK I rx hs 41 (by simpa [D.fit] using c1)
      obtain ⟨bs, r2⟩ := p2.reads hK I ry hs 41 (by simpa [D.fit] using c2)
      have d1 := (plain_of (.tup l) 41 (by simpa [D.fit] using c1)).2
      exact PySem.W.gt_data r1 r2 c3 (fun z => by simp [D.py] at z) (by omega) ⟨.bl _, H, I, rfl, k _ F H (Nw.fzB hs _)⟩
    | _ => cases h
  | _ => cases h
theorem pys_eq : ∀ l : List D, D.pys l = l.map D.py
  | [] => rfl
  | d :: l => by simp only [D.pys, List.map_cons, pys_eq l]
theorem any_py (l : List D) (a : D) : (D.pys l).any (fun y => PyData.eqv y a.py) = l.any fun b => b.eqD a := by
  rw [pys_eq, List.any_map]
  rfl
theorem o_in {X : Cx} (hK : X.K = T.K) (hu : X.A.units + 64 < cLine) : OpR X (compareOp .In) (fun x y H Q => rP T .inn [x, y] H Q) := by
  intro pins s σ H x y v u Q I rx ry ⟨ds, F, w, ln, h, hs, p, k⟩
  obtain ⟨d, e, rfl⟩ := len2 ln
  obtain ⟨x', y', ev, p1, p2⟩ := p.two
  cases ev
  have key : ∀ l : List D, (e = .tup l ∨ e = .lst l) → (d.fit 40 && D.fits 40 l) = true → w = .fz (.bl (l.any fun b => b.eqD d)) → wpAny (model X.prog X.w) X.A (compareOp .In v u) (EP X pins σ Q) X.xe s := fun l he c hw => by
    subst hw
    obtain ⟨c1, c2⟩ := Bool.and_eq_true_iff.mp c
    obtain ⟨as, r1⟩ := p1.reads hK I rx hs 40 c1
    have d1 := plain_of d 40 c1
    have d2 := plains_of l 40 c2
    rcases he with rfl | rfl
    · obtain ⟨bs, r2⟩ := p2.reads hK I ry hs 41 (by simpa [D.fit] using c2)
      exact PySem.SeqAt.in_tuple_data r2 r1 d2.1 d1.1 (by have := d1.2; have := d2.2; omega) ⟨.bl _, H, I, rfl, by rw [any_py]; exact k _ F H (Nw.fzB hs _)⟩
    · obtain ⟨bs, r2⟩ := p2.reads hK I ry hs 41 (by simpa [D.fit] using c2)
      exact PySem.SeqAt.in_list_data r2 r1 d2.1 d1.1 (by have := d1.2; have := d2.2; omega) ⟨.bl _, H, I, rfl, by rw [any_py]; exact k _ F H (Nw.fzB hs _)⟩
  cases e with
  | tup l =>
    have h : (if (d.fit 40 && D.fits 40 l) = true then rB (l.any fun b => b.eqD d) else .bad) = .ok w := h
    obtain ⟨c, h⟩ := ite_ok h
    cases h
    exact key l (.inl rfl) c rfl
  | lst l =>
    have h : (if (d.fit 40 && D.fits 40 l) = true then rB (l.any fun b => b.eqD d) else .bad) = .ok w := h
    obtain ⟨c, h⟩ := ite_ok h
    cases h
    exact key l (.inr rfl) c rfl
  | _ => cases h
theorem o_nin {X : Cx} (hK : X.K = T.K) (hu : X.A.units + 64 < cLine) : OpR X (compareOp .NotIn) (fun x y H Q => rP T .nin [x, y] H Q) := by
  intro pins s σ H x y v u Q I rx ry ⟨ds, F, w, ln, h, hs, p, k⟩
  obtain ⟨d, e, rfl⟩ := len2 ln
  obtain ⟨x', y', ev, p1, p2⟩ := p.two
  cases ev
  have key : ∀ l : List D, (e = .tup l ∨ e = .lst l) → (d.fit 40 && D.fits 40 l) = true → w = .fz (.bl (!l.any fun b => b.eqD d)) → wpAny (model X.prog X.w) X.A (compareOp .NotIn v u) (EP X pins σ Q) X.xe s := fun l he c hw => by
    subst hw
    obtain ⟨c1, c2⟩ := Bool.and_eq_true_iff.mp c
    obtain ⟨as, r1⟩ := p1.reads hK I rx hs 40 c1
    have d1 := plain_of d 40 c1
    have d2 := plains_of l 40 c2
    rcases he with rfl | rfl
    · obtain ⟨bs, r2⟩ := p2.reads hK I ry hs 41 (by simpa [D.fit] using c2)
      exact PySem.SeqAt.notIn_tuple_data r2 r1 d2.1 d1.1 (by have := d1.2; have := d2.2; omega) ⟨.bl _, H, I, rfl, by rw [any_py]; exact k _ F H (Nw.fzB hs _)⟩
    · obtain ⟨bs, r2⟩ := p2.reads hK I ry hs 41 (by simpa [D.fit] using c2)
      exact PySem.SeqAt.notIn_list_data r2 r1 d2.1 d1.1 (by have := d1.2; have := d2.2; omega) ⟨.bl _, H, I, rfl, by rw [any_py]; exact k _ F H (Nw.fzB hs _)⟩
  cases e with
  | tup l =>
    have h : (if (d.fit 40 && D.fits 40 l) = true then rB (!l.any fun b => b.eqD d) else .bad) = .ok w := h
    obtain ⟨c, h⟩ := ite_ok h
    cases h
    exact key l (.inl rfl) c rfl
  | lst l =>
    have h : (if (d.fit 40 && D.fits 40 l) = true then rB (!l.any fun b => b.eqD d) else .bad) = .ok w := h
    obtain ⟨c, h⟩ := ite_ok h
    cases h
    exact key l (.inr rfl) c rfl
  | _ => cases h
end
end Rx

set_option Elab.async false
set_option linter.all false
set_option autoImplicit false
set_option maxRecDepth 100000
set_option maxHeartbeats 4000000
namespace Rx
open PySem L2
open PySem.Spec
open PyProof.Rows
/-- where a def's body stands -/
structure Amb where
  T : TX
  CX : CXT
  E : XK
  k : Nat
  Γ : Tbl
  cl : Call
structure SC where
  N : List Str
  sc : Scope
  fn : Str → Bool
structure Good (A : Amb) (S : SC) (X : Cx) : Prop where
  prog : X.prog = A.T.P
  w : X.w = A.T.w
  K : X.K = A.T.K
  mg : X.mg = A.T.mg
  base : X.base = A.T.base
  N : X.N = S.N
  sc : X.env.scope = S.sc
  fn : X.fn = S.fn
  calm : X.calm = true
  gd : X.A.guards = some []
  room : Room (A.k + 1) X.A
  po : PassesOwn (model X.prog X.w) X.A X.env X.xe
  px : Passes A.CX X A.E
def kOf (S : SC) (x : Str) : Option NameKind := S.sc.names.lookup x
theorem Good.kind {A : Amb} {S : SC} {X : Cx} (g : Good A S X) (x : Str) : X.env.kindOf x = kOf S x := by
  unfold Env.kindOf kOf
  rw [g.sc]
theorem Good.units {A : Amb} {S : SC} {X : Cx} (g : Good A S X) : X.A.units + 64 < cLine := g.room.units
def ifx : Expr → Bool
  | .IfExp _ _ _ _ => true
  | _ => false
/-- an expression is read by f -/
def BE (A : Amb) (S : SC) (e : Expr) (f : Env → Res (Val × Env)) : Prop := ∃ t : TE, (∀ X, Good A S X → PE X e t ∧ (ifx e = false → PT X e (tB t))) ∧ RdE A.T A.E f t
inductive PEL (A : Amb) (S : SC) : List Expr → List TE → Prop where
  | nil : PEL A S [] []
  | cons {e : Expr} {t : TE} {es : List Expr} {ts : List TE} (h : ∀ X, Good A S X → PE X e t) (r : PEL A S es ts) : PEL A S (e :: es) (t :: ts)
def tAll : List TE → TA
  | [] => tNil
  | t :: ts => tCons t (tAll ts)
def noStar : Expr → Bool
  | .Starred _ _ => false
  | _ => true
def noStars : List Expr → Bool
  | [] => true
  | e :: r => noStar e && noStars r
theorem star_ok {e : Expr} {es : List Expr} {env : PySem.Env} (h : noStar e = true) : starEach (e :: es) env = (false, eval e env) :: starEach es env := by
  cases e <;> first | rfl | cases h
theorem star_any : ∀ {es : List Expr} {env : PySem.Env} {pos : Pos}, noStars es = true → (backTo pos (starEach es env)).any (·.1) = false
  | [], env, pos, _ => rfl
  | e :: es, env, pos, h => by
    obtain ⟨h1, h2⟩ := Bool.and_eq_true_iff.mp (show (noStar e && noStars es) = true from h)
    rw [star_ok h1]
    show (false || (backTo pos (starEach es env)).any (·.1)) = false
    rw [star_any h2] <;> rfl
theorem PEL.pa {A : Amb} {S : SC} {X : Cx} (g : Good A S X) : ∀ {es : List Expr} {ts : List TE}, PEL A S es ts → noStars es = true → PA X es (tAll ts)
  | _, _, .nil, _ => pa_nil
  | _, _, .cons h r, n => by
    obtain ⟨h1, h2⟩ := Bool.and_eq_true_iff.mp (show (noStar _ && noStars _) = true from n)
    exact pa_cons (h X g) (r.pa g h2) (star_ok h1)
/-- arguments -/
def BL (A : Amb) (S : SC) (es : List Expr) (f : Env → Res (List Arg × Env)) : Prop := ∃ ts, PEL A S es ts ∧ RdA A.T A.E f (tAll ts) ∧ LenA es.length f
section
variable {A : Amb} {S : SC}
theorem bl_nil : BL A S [] (fun env => .ok ([], env)) := ⟨[], .nil, rd_nil, fun env as env' h => by cases h; rfl⟩
theorem lenA_cons {n : Nat} {fa : Env → Res (Arg × Env)} {fr : Env → Res (List Arg × Env)} (h : LenA n fr) : LenA (n + 1) (fun env => (fa env).bind fun (a, env1) => (fr env1).bind fun (as, env2) => .ok (a :: as, env2)) := fun env as env' e => by
  cases e1 : fa env with
  | ok r =>
    obtain ⟨a, env1⟩ := r
    simp only [e1, Res.bind_ok] at e
    cases e2 : fr env1 with
    | ok r2 =>
      obtain ⟨as2, env2⟩ := r2
      simp only [e2, Res.bind_ok] at e
      cases e
      rw [List.length_cons, h _ _ _ e2]
    | exc c fs => simp only [e2, Res.bind_exc] at e; cases e
    | bad => simp only [e2, Res.bind_bad] at e; cases e
  | exc c fs => simp only [e1, Res.bind_exc] at e; cases e
  | bad => simp only [e1, Res.bind_bad] at e; cases e
theorem bl_cons {e : Expr} {es : List Expr} {f : Env → Res (Val × Env)} {fr : Env → Res (List Arg × Env)} (h : BE A S e f) (r : BL A S es fr) : BL A S (e :: es) (fun env => (f env).bind fun (w, env1) => (fr env1).bind fun (as, env2) => .ok (.val w :: as, env2)) := by
  obtain ⟨t, h1, h2⟩ := h
  obtain ⟨ts, r1, r2, r3⟩ := r
  refine ⟨t :: ts, .cons (fun X g => (h1 X g).1) r1, ?_, ?_⟩
  · have := rd_cons (RdG.val h2) r2
    refine cast ?_ this
    congr 1
    funext env
    cases f env <;> rfl
  · have := lenA_cons (fa := fun env => (f env).bind fun (w, env1) => .ok (.val w, env1)) r3
    refine cast ?_ this
    congr 1
    funext env
    cases f env <;> rfl
theorem bl_var {i : Nat} {x : Str} {pos : Pos} {es : List Expr} {fr : Env → Res (List Arg × Env)} (h : ∀ X, Good A S X → PE X (.Name x pos) (tVar i)) (r : BL A S es fr) : BL A S (.Name x pos :: es) (fun env => (argVar i env).bind fun (a, env1) => (fr env1).bind fun (as, env2) => .ok (a :: as, env2)) := by
  obtain ⟨ts, r1, r2, r3⟩ := r
  exact ⟨tVar i :: ts, .cons h r1, rd_cons RdG.var r2, lenA_cons r3⟩
/-! ### tests -/
/-- what is tested by its value -/
def tstV : Expr → Bool
  | .UnaryOp .Not _ _ => false
  | .BoolOp _ _ _ => false
  | .IfExp _ _ _ _ => false
  | .Compare _ _ _ _ => false
  | _ => true
theorem tst_ok {e : Expr} {env : PySem.Env} (h : tstV e = true) (whole : Sem Value) : isTrue e env whole = (do let v ← whole; standAt e.pos; holding [v] (truthy v)) := by
  cases e with
  | UnaryOp op a pos => cases op <;> first | rfl | cases h
  | BoolOp _ _ _ => cases h
  | IfExp _ _ _ _ => cases h
  | Compare _ _ _ _ => cases h
  | _ => rfl
theorem BE.mk {e : Expr} {f : Env → Res (Val × Env)} {t : TE} (hp : ∀ X, Good A S X → PE X e t) (hr : RdE A.T A.E f t) (h : tstV e = true) : BE A S e f := ⟨t, fun X g => ⟨hp X g, fun _ => pt_val (hp X g) (fun w => tst_ok h w)⟩, hr⟩
/-! ### names, constants -/
def vis (S : SC) (x : Str) : Bool := match kOf S x with
  | some .local => true
  | some .cell => true
  | some .free => true
  | _ => false
theorem vis_ok {X : Cx} {x : Str} (g : Good A S X) (h : vis S x = true) : Vis X.env.scope x := by
  unfold vis at h
  unfold Vis
  have e : X.env.scope.names.lookup x = kOf S x := g.kind x
  rw [e]
  cases hk : kOf S x with
  | none => rw [hk] at h; cases h
  | some k => cases k <;> first | exact .inl rfl | exact .inr (.inl rfl) | exact .inr (.inr rfl) | (rw [hk] at h; cases h)
def plainN (x : Str) : Bool := !(x == ("__debug__" : Str)) && !(x == ("__classdict__" : Str)) && !(x == ("__name__" : Str))
theorem plainN_ok {x : Str} (h : plainN x = true) : (x == ("__debug__" : Str)) = false ∧ (x == ("__classdict__" : Str)) = false ∧ x ≠ "__name__" := by
  unfold plainN at h
  simp only [Bool.and_eq_true, Bool.not_eq_true'] at h
  exact ⟨h.1.1, h.1.2, fun e => by rw [e] at h; simp at h⟩
theorem pe_varG {i : Nat} {x : Str} {pos : Pos} (hN : S.N[i]? = some x) (hv : vis S x = true) (hx : plainN x = true) : ∀ X, Good A S X → PE X (.Name x pos) (tVar i) := fun X g =>
  pe_var (by rw [g.N]; exact hN) (vis_ok g hv) (plainN_ok hx).1 (plainN_ok hx).2.1
theorem be_var {i : Nat} {x : Str} {pos : Pos} (hN : S.N[i]? = some x) (hv : vis S x = true) (hx : plainN x = true) : BE A S (.Name x pos) (rdVar i) := BE.mk (pe_varG hN hv hx) rd_var rfl
theorem be_int {i : Int} {j : Nat} {pos : Pos} : BE A S (.Constant (.int i) j pos) (fun env => .ok (.fz (.int i), env)) := BE.mk (fun X g => pe_int) (rd_con fun F => rfl) rfl
theorem be_bl {i : Bool} {j : Nat} {pos : Pos} : BE A S (.Constant (.bool i) j pos) (fun env => .ok (.fz (.bl i), env)) := BE.mk (fun X g => pe_bl) (rd_con fun F => rfl) rfl
theorem be_str {i : Str} {j : Nat} {pos : Pos} : BE A S (.Constant (.str i) j pos) (fun env => .ok (.fz (.str i), env)) := BE.mk (fun X g => pe_str) (rd_con fun F => rfl) rfl
theorem be_non {j : Nat} {pos : Pos} : BE A S (.Constant .none j pos) (fun env => .ok (.fz .non, env)) := BE.mk (fun X g => pe_non) (rd_con fun F => rfl) rfl
def glob (S : SC) (x : Str) : Bool := match kOf S x with
  | some .globalImplicit => true
  | _ => false
theorem glob_ok {X : Cx} {x : Str} (g : Good A S X) (h : glob S x = true) : Gl X x := by
  unfold glob at h
  unfold Gl
  rw [g.kind]
  cases hk : kOf S x with
  | none => rw [hk] at h; cases h
  | some k => cases k <;> first | rfl | (rw [hk] at h; cases h)
theorem be_glob {x : Str} {d : D} {u : Value} {v : V} {pos : Pos} (hg : glob S x = true) (hx : plainN x = true) (hm : A.T.mg x = some u) (r : RelV v u) (hz : ∀ F, Rz A.T F d v) : BE A S (.Name x pos) (fun env => .ok (.fz d, env)) :=
  BE.mk (fun X g => pe_glob (glob_ok g hg) (by rw [g.mg]; exact hm) r (plainN_ok hx).1) (rd_con hz) rfl
/-! ### and, or, not, if -/
variable {X : Cx} {a b c : Expr} {ta tb : TE} {rest : List Expr} {pos : Pos}
theorem pw_bool {op : BoolOp} {l : List Expr} {t : TT} (h : PT X (.BoolOp op l pos) t) : PW X (.BoolOp op l pos) t := ⟨fun wh pins s σ H Q I q => h.run pins s σ H Q I q⟩
theorem ptb_and1 (h : PE X b tb ∧ PT X b (tB tb)) : PE X (.BoolOp .And [b] pos) tb ∧ PT X (.BoolOp .And [b] pos) (tB tb) := ⟨pe_one h.1, (pw_and1 h.2).pt⟩
theorem ptb_or1 (h : PE X b tb ∧ PT X b (tB tb)) : PE X (.BoolOp .Or [b] pos) tb ∧ PT X (.BoolOp .Or [b] pos) (tB tb) := ⟨pe_one h.1, (pw_or1 h.2).pt⟩
theorem ptb_and (ha : PE X a ta ∧ PT X a (tB ta)) (hb : PE X (.BoolOp .And (b :: rest) pos) tb ∧ PT X (.BoolOp .And (b :: rest) pos) (tB tb)) :
    PE X (.BoolOp .And (a :: b :: rest) pos) (tAndV ta tb) ∧ PT X (.BoolOp .And (a :: b :: rest) pos) (tB (tAndV ta tb)) := by
  refine ⟨pe_and ha.1 hb.1, ⟨fun pins s σ H Q I h => ?_⟩⟩
  refine isTrue_and (thn (ha.2.run pins s σ H (fun c H1 => if c = true then tB tb σ H1 Q else ∃ c', V.bl false = .bl c' ∧ Q c' H1) I ?_) fun c s1 ⟨H1, I1, q1⟩ => ?_)
  · exact h
  · cases c with
    | true => exact (pw_bool hb.2).run _ pins s1 σ H1 Q I1 q1
    | false =>
      obtain ⟨c', e, q⟩ := (show ∃ c', V.bl false = .bl c' ∧ Q c' H1 from q1)
      cases e
      exact ⟨H1, I1, q⟩
theorem ptb_or (ha : PE X a ta ∧ PT X a (tB ta)) (hb : PE X (.BoolOp .Or (b :: rest) pos) tb ∧ PT X (.BoolOp .Or (b :: rest) pos) (tB tb)) :
    PE X (.BoolOp .Or (a :: b :: rest) pos) (tOrV ta tb) ∧ PT X (.BoolOp .Or (a :: b :: rest) pos) (tB (tOrV ta tb)) := by
  refine ⟨pe_or ha.1 hb.1, ⟨fun pins s σ H Q I h => ?_⟩⟩
  refine isTrue_or (thn (ha.2.run pins s σ H (fun c H1 => if c = true then ∃ c', V.bl true = .bl c' ∧ Q c' H1 else tB tb σ H1 Q) I ?_) fun c s1 ⟨H1, I1, q1⟩ => ?_)
  · exact h
  · cases c with
    | false => exact (pw_bool hb.2).run _ pins s1 σ H1 Q I1 q1
    | true =>
      obtain ⟨c', e, q⟩ := (show ∃ c', V.bl true = .bl c' ∧ Q c' H1 from q1)
      cases e
      exact ⟨H1, I1, q⟩
theorem ptb_not (ha : PE X a ta ∧ PT X a (tB ta)) : PE X (.UnaryOp .Not a pos) (tNotV ta) ∧ PT X (.UnaryOp .Not a pos) (tB (tNotV ta)) := by
  refine ⟨pe_not ha.1, ⟨fun pins s σ H Q I h => ?_⟩⟩
  refine isTrue_not (ha.2.run pins s σ H (fun c H1 => Q (!c) H1) I ?_)
  refine cast ?_ h
  unfold tB tNotV
  congr 1
  funext x H1
  refine propext ⟨?_, ?_⟩
  · rintro ⟨c, rfl, c', e, z⟩
    cases e
    exact ⟨c, rfl, z⟩
  · rintro ⟨c, rfl, z⟩
    exact ⟨c, rfl, _, rfl, z⟩
variable {fa fb fc : Env → Res (Val × Env)} {ts : List TE}
theorem be_and1 (nb : ifx b = false) (h : BE A S b fb) : BE A S (.BoolOp .And [b] pos) fb := by
  obtain ⟨t, h1, h2⟩ := h
  exact ⟨t, fun X g => have z := ptb_and1 ⟨(h1 X g).1, (h1 X g).2 nb⟩; ⟨z.1, fun _ => z.2⟩, h2⟩
theorem be_or1 (nb : ifx b = false) (h : BE A S b fb) : BE A S (.BoolOp .Or [b] pos) fb := by
  obtain ⟨t, h1, h2⟩ := h
  exact ⟨t, fun X g => have z := ptb_or1 ⟨(h1 X g).1, (h1 X g).2 nb⟩; ⟨z.1, fun _ => z.2⟩, h2⟩
theorem be_and (na : ifx a = false) (ha : BE A S a fa) (hb : BE A S (.BoolOp .And (b :: rest) pos) fb) : BE A S (.BoolOp .And (a :: b :: rest) pos) (fun env => (fa env).bind fun (w, env1) => match w with
    | .fz (.bl true) => fb env1
    | .fz (.bl false) => .ok (.fz (.bl false), env1)
    | _ => .bad) := by
  obtain ⟨ta, a1, a2⟩ := ha
  obtain ⟨tb, b1, b2⟩ := hb
  exact ⟨_, fun X g => have z := ptb_and ⟨(a1 X g).1, (a1 X g).2 na⟩ ⟨(b1 X g).1, (b1 X g).2 rfl⟩; ⟨z.1, fun _ => z.2⟩, rd_andV a2 b2⟩
theorem be_or (na : ifx a = false) (ha : BE A S a fa) (hb : BE A S (.BoolOp .Or (b :: rest) pos) fb) : BE A S (.BoolOp .Or (a :: b :: rest) pos) (fun env => (fa env).bind fun (w, env1) => match w with
    | .fz (.bl true) => .ok (.fz (.bl true), env1)
    | .fz (.bl false) => fb env1
    | _ => .bad) := by
  obtain ⟨ta, a1, a2⟩ := ha
  obtain ⟨tb, b1, b2⟩ := hb
  exact ⟨_, fun X g => have z := ptb_or ⟨(a1 X g).1, (a1 X g).2 na⟩ ⟨(b1 X g).1, (b1 X g).2 rfl⟩; ⟨z.1, fun _ => z.2⟩, rd_orV a2 b2⟩
theorem be_not (na : ifx a = false) (ha : BE A S a fa) : BE A S (.UnaryOp .Not a pos) (fun env => (fa env).bind fun (w, env1) => match w with
    | .fz (.bl c) => .ok (.fz (.bl (!c)), env1)
    | _ => .bad) := by
  obtain ⟨ta, a1, a2⟩ := ha
  exact ⟨_, fun X g => have z := ptb_not ⟨(a1 X g).1, (a1 X g).2 na⟩; ⟨z.1, fun _ => z.2⟩, rd_notV a2⟩
theorem be_ite (nc : ifx c = false) (hc : BE A S c fc) (ha : BE A S a fa) (hb : BE A S b fb) : BE A S (.IfExp c a b pos) (fun env => (fc env).bind fun (w, env1) => match w with
    | .fz (.bl true) => fa env1
    | .fz (.bl false) => fb env1
    | _ => .bad) := by
  obtain ⟨tc, c1, c2⟩ := hc
  obtain ⟨ta, a1, a2⟩ := ha
  obtain ⟨tb, b1, b2⟩ := hb
  exact ⟨_, fun X g => ⟨pe_ifExp ((c1 X g).2 nc) (a1 X g).1 (b1 X g).1, fun h => by cases h⟩, rd_ite (RdT.of c2) a2 b2⟩
/-! ### operations -/
def primF (op : Op) (fa : Env → Res (List Arg × Env)) (env : Env) : Res (Val × Env) := (fa env).bind fun (as, env1) => (pkArgs env1 as).bind fun ds => (prim op ds).bind fun w => .ok (w, env1)
theorem rangeOf_noexc {ds : List D} {c : Str} {fs : List (Str × D)} : rangeOf ds ≠ .exc c fs := by
  intro h
  unfold rangeOf at h
  split at h <;> first | cases h | (split at h <;> cases h)
theorem own?_noexc {l : List D} {c : Str} {fs : List (Str × D)} : own? l ≠ .exc c fs := by
  intro h
  unfold own? at h
  split at h <;> cases h
theorem tup?_noexc {l : List D} {c : Str} {fs : List (Str × D)} : tup? l ≠ .exc c fs := by
  intro h
  unfold tup? at h
  split at h <;> cases h
theorem ite_noexc {α : Type} {p : Prop} [Decidable p] {a : Res α} {c : Str} {fs : List (Str × D)} (ha : a ≠ .exc c fs) : (if p then a else .bad) ≠ .exc c fs := by
  intro h
  split at h
  · exact ha h
  · cases h
theorem ok_noexc {α : Type} {a : α} {c : Str} {fs : List (Str × D)} : (Res.ok a : Res α) ≠ .exc c fs := fun h => by cases h

theorem primB_noexc {op : Op} : NoExc (primB op) := by
  intro ds c fs h
  unfold primB at h
  split at h <;> first
    | (cases h; done)
    | exact ite_noexc ok_noexc h
    | (split at h <;> first | (cases h; done) | exact ite_noexc ok_noexc h)
theorem prim_noexc {op : Op} : NoExc (prim op) := by
  intro ds c fs h
  unfold prim at h
  split at h <;> first
    | (cases h; done)
    | exact primB_noexc _ _ _ h
    | exact ok_noexc h
    | exact own?_noexc h
    | exact tup?_noexc h
    | exact ite_noexc ok_noexc h
    | exact ite_noexc own?_noexc h
    | (split at h <;> first | (cases h; done) | exact own?_noexc h | exact ite_noexc ok_noexc h)
    | (cases e : rangeOf _ with
       | ok l => rw [e] at h; first | exact own?_noexc h | exact tup?_noexc h
       | exc c fs => exact rangeOf_noexc e
       | bad => rw [e] at h; cases h)
theorem rd_primF {op : Op} {f : Env → Res (List Arg × Env)} {ts : List TE} {n : Nat} (h : RdA A.T A.E f (tAll ts)) (l : LenA n f) : RdE A.T A.E (primF op f) (tCB (rP A.T op) (tAll ts)) := rd_prim h l ops_P prim_noexc
/-- how an operation stands in the text: e does op on es -/
def PrimV (A : Amb) (S : SC) (op : Op) (e : Expr) (es : List Expr) : Prop := ∀ ts, PEL A S es ts → ∀ X, Good A S X → PE X e (tCB (rP A.T op) (tAll ts)) ∧ (ifx e = false → PT X e (tB (tCB (rP A.T op) (tAll ts))))
theorem be_prim {op : Op} {e : Expr} {es : List Expr} {f : Env → Res (List Arg × Env)} (v : PrimV A S op e es) (h : BL A S es f) : BE A S e (primF op f) := by
  obtain ⟨ts, h1, h2, h3⟩ := h
  exact ⟨_, v ts h1, rd_primF h2 h3⟩
theorem PEL.one (h : PEL A S [a] ts) : ∃ t, ts = [t] ∧ ∀ X, Good A S X → PE X a t := by
  cases h with
  | cons h r =>
    cases r
    exact ⟨_, rfl, h⟩
theorem PEL.two (h : PEL A S [a, b] ts) : ∃ t u, ts = [t, u] ∧ (∀ X, Good A S X → PE X a t) ∧ ∀ X, Good A S X → PE X b u := by
  cases h with
  | cons h r =>
    cases r with
    | cons h2 r2 =>
      cases r2
      exact ⟨_, _, rfl, h, h2⟩
theorem PEL.three (h : PEL A S [a, b, c] ts) : ∃ t u z, ts = [t, u, z] ∧ (∀ X, Good A S X → PE X a t) ∧ (∀ X, Good A S X → PE X b u) ∧ ∀ X, Good A S X → PE X c z := by
  cases h with
  | cons h r =>
    obtain ⟨t, u, rfl, h1, h2⟩ := r.two
    exact ⟨_, _, _, rfl, h, h1, h2⟩
theorem PrimV.mk {op : Op} {e : Expr} {es : List Expr} (h : ∀ ts, PEL A S es ts → ∀ X, Good A S X → PE X e (tCB (rP A.T op) (tAll ts))) (ht : tstV e = true) : PrimV A S op e es := fun ts p X g => ⟨h ts p X g, fun _ => pt_val (h ts p X g) (fun w => tst_ok ht w)⟩
theorem pv_bin {op : Op} {o : Operator} (h : ∀ X, Good A S X → OpR X (binaryOp o) (fun x y H Q => rP A.T op [x, y] H Q)) : PrimV A S op (.BinOp a o b pos) [a, b] := PrimV.mk (fun ts p X g => by
  obtain ⟨t, u, rfl, h1, h2⟩ := p.two
  exact pe_op (h X g) (h1 X g) (h2 X g)) rfl
def binO : Op → Operator → Bool
  | .add, .Add => true
  | .sub, .Sub => true
  | .mul, .Mult => true
  | .fdiv, .FloorDiv => true
  | .mod, .Mod => true
  | .pow, .Pow => true
  | _, _ => false
theorem pv_binO {op : Op} {o : Operator} (h : binO op o = true) : PrimV A S op (.BinOp a o b pos) [a, b] := by
  cases op with
  | add => cases o with
    | Add => exact pv_bin fun X g => o_add g.K
    | _ => exact absurd h Bool.false_ne_true
  | sub => cases o with
    | Sub => exact pv_bin fun X g => o_sub
    | _ => exact absurd h Bool.false_ne_true
  | mul => cases o with
    | Mult => exact pv_bin fun X g => o_mul
    | _ => exact absurd h Bool.false_ne_true
  | fdiv => cases o with
    | FloorDiv => exact pv_bin fun X g => o_fdiv
    | _ => exact absurd h Bool.false_ne_true
  | mod => cases o with
    | Mod => exact pv_bin fun X g => o_mod
    | _ => exact absurd h Bool.false_ne_true
  | pow => cases o with
    | Pow => exact pv_bin fun X g => o_pow
    | _ => exact absurd h Bool.false_ne_true
  | _ => exact absurd h Bool.false_ne_true
theorem pv_neg : PrimV A S .neg (.UnaryOp .USub a pos) [a] := PrimV.mk (fun ts p X g => by
  obtain ⟨t, rfl, h1⟩ := p.one
  exact pe_un o_neg (h1 X g)) rfl
theorem pv_cmp {op : Op} {o : CmpOp} (h : ∀ X, Good A S X → OpR X (compareOp o) (fun x y H Q => rP A.T op [x, y] H Q)) (hm : behindInMarks o b = false) : PrimV A S op (.Compare a [o] [b] pos) [a, b] := fun ts p X g => by
  obtain ⟨t, u, rfl, h1, h2⟩ := p.two
  exact ⟨pe_cmpR (h X g) (h1 X g) (h2 X g) hm, fun _ => pt_cmpR (h X g) (h1 X g) (h2 X g) hm⟩
def cmpO : Op → CmpOp → Bool
  | .eq, .Eq => true
  | .ne, .NotEq => true
  | .lt, .Lt => true
  | .le, .LtE => true
  | .gt, .Gt => true
  | .ge, .GtE => true
  | .inn, .In => true
  | .nin, .NotIn => true
  | _, _ => false
theorem cmpO_ok {op : Op} {o : CmpOp} (h : cmpO op o = true) : ∀ X, Good A S X → OpR X (compareOp o) (fun x y H Q => rP A.T op [x, y] H Q) := by
  cases op with
  | eq => cases o with
    | Eq => exact fun X g => o_eq g.K g.units
    | _ => exact absurd h Bool.false_ne_true
  | ne => cases o with
    | NotEq => exact fun X g => o_ne g.K g.units
    | _ => exact absurd h Bool.false_ne_true
  | lt => cases o with
    | Lt => exact fun X g => o_lt g.K g.units
    | _ => exact absurd h Bool.false_ne_true
  | le => cases o with
    | LtE => exact fun X g => o_le
    | _ => exact absurd h Bool.false_ne_true
  | gt => cases o with
    | Gt => exact fun X g => o_gt g.K g.units
    | _ => exact absurd h Bool.false_ne_true
  | ge => cases o with
    | GtE => exact fun X g => o_ge
    | _ => exact absurd h Bool.false_ne_true
  | inn => cases o with
    | In => exact fun X g => o_in g.K g.units
    | _ => exact absurd h Bool.false_ne_true
  | nin => cases o with
    | NotIn => exact fun X g => o_nin g.K g.units
    | _ => exact absurd h Bool.false_ne_true
  | _ => exact absurd h Bool.false_ne_true
def noSet : Expr → Bool
  | .Set _ _ _ => false
  | _ => true
theorem marks_ok {o : CmpOp} (h : noSet b = true) : behindInMarks o b = false := by
  cases b <;> first | rfl | cases h
theorem pv_cmpO {op : Op} {o : CmpOp} (h : cmpO op o = true) (hb : noSet b = true) : PrimV A S op (.Compare a [o] [b] pos) [a, b] := pv_cmp (cmpO_ok h) (marks_ok hb)
end
end Rx

set_option Elab.async false
set_option linter.all false
set_option autoImplicit false
set_option maxRecDepth 100000
namespace Rx
open PySem L2
open PySem.Spec
open PyProof.Rows
/-- what is known of the text's classes and of the names that it leaves alone -/
structure Facts (A : Amb) (fld : List Str) (bn : List Str) : Prop where
  cls : ∀ c C, A.T.ca c = some C → Cls A.T.K C
  noat : ∀ c C, A.T.ca c = some C → ∀ f ∈ fld, NoAttr A.T.K C f
  bn : ∀ x ∈ bn, A.T.mg x = none
section
variable {A : Amb} {S : SC} {X : Cx} {a b c e : Expr} {es : List Expr} {ta tb : TE} {pos p p2 apos : Pos} {ts : List TE} {T : TX} {F H : Hp}
/-- t, its end weakened -/
def mono (t : TE) : TE := fun σ H Q => ∃ R : VK, t σ H R ∧ ∀ x H1, R x H1 → Q x H1
theorem pe_mono (h : PE X e ta) : PE X e (mono ta) := ⟨fun pins s σ H Q I ⟨R, h1, h2⟩ => thn (h.run pins s σ H R I h1) fun v s1 ⟨x, H1, I1, r, q⟩ => ⟨x, H1, I1, r, h2 x H1 q⟩⟩
theorem pe_imp {t t' : TE} (h : PE X e t') (k : ∀ σ H Q, t σ H Q → t' σ H Q) : PE X e t := ⟨fun pins s σ H Q I q => h.run pins s σ H Q I (k σ H Q q)⟩
theorem pt_imp {t t' : TT} (h : PT X e t') (k : ∀ σ H Q, t σ H Q → t' σ H Q) : PT X e t := ⟨fun pins s σ H Q I q => h.run pins s σ H Q I (k σ H Q q)⟩
/-! ### is -/
theorem pv_isC {op : Op} {o : CmpOp} {y0 : V} {r : R2} (ho : ∀ X, Good A S X → OpR X (compareOp o) r) (hb : ∀ X, PE X b (tC y0)) (hm : noSet b = true)
    (k : ∀ x H Q, rP A.T op [x] H Q → r x y0 H Q) : PrimV A S op (.Compare a [o] [b] pos) [a] := fun ts p X g => by
  obtain ⟨t, rfl, h1⟩ := p.one
  exact ⟨pe_imp (pe_cmpR (ho X g) (pe_mono (h1 X g)) (hb X) (marks_ok hm)) fun σ H Q h => ⟨_, h, fun x H1 q => k x H1 Q q⟩, fun _ => pt_imp (pt_cmpR (ho X g) (pe_mono (h1 X g)) (hb X) (marks_ok hm)) fun σ H Q h => ⟨_, h, fun x H1 q => k x H1 _ q⟩⟩
theorem rP_one {op : Op} {x : V} {H : Hp} {Q : VK} (h : rP T op [x] H Q) : ∃ d F w, prim op [d] = .ok w ∧ Sub F H ∧ Pk T F H d x ∧ ∀ v F' H', Nw T F H w v F' H' → Q v H' := by
  obtain ⟨ds, F, w, ln, e, s, p, k⟩ := h
  obtain ⟨d, rfl⟩ := len1 ln
  obtain ⟨v, ev, q⟩ := p.one
  cases ev
  exact ⟨d, F, w, e, s, q, k⟩
theorem Pk.notNon {d : D} {x : V} (p : Pk T F H d x) (hs : Sub F H) (n : d ≠ .non) : x ≠ .non := fun e => by
  subst e
  cases d with
  | non => exact n rfl
  | bl b => cases p.bl
  | int b => cases p.int
  | str b => cases p.str
  | tup l => obtain ⟨_, _, e, _⟩ := p.tup; cases e
  | lst l => obtain ⟨_, _, e, _⟩ := p.lst hs; cases e
  | scr l => obtain ⟨_, e, _⟩ := p.scr; cases e
  | ins c fs => obtain ⟨_, _, _, _, e, _⟩ := p.ins hs; cases e
  | dk l => obtain ⟨_, _, e, _⟩ := p.dk hs; cases e
  | dt l => obtain ⟨_, _, e, _⟩ := p.dt hs; cases e
def isNonD : D → Bool
  | .non => true
  | _ => false
theorem isN_ok {d : D} {w : Val} (h : prim .isN [d] = .ok w) : w = .fz (.bl (isNonD d)) := by
  cases d <;> cases h <;> rfl
theorem notN_ok {d : D} {w : Val} (h : prim .notN [d] = .ok w) : w = .fz (.bl (!isNonD d)) := by
  cases d <;> cases h <;> rfl
theorem Pk.isNon {d : D} {x : V} (p : Pk T F H d x) (hs : Sub F H) : decide (x = .non) = isNonD d := by
  by_cases n : d = .non
  · subst n
    cases p.non
    rfl
  · rw [decide_eq_false (p.notNon hs n)]
    cases d <;> first | rfl | exact absurd rfl n
theorem pv_isN {j : Nat} : PrimV A S .isN (.Compare a [.Is] [.Constant .none j p] pos) [a] := pv_isC (fun X g => op_isN) (fun X => pe_non) rfl fun x H Q h => by
  obtain ⟨d, F, w, e, s, q, k⟩ := rP_one h
  rw [isN_ok e] at k
  exact ⟨rfl, by rw [q.isNon s]; exact k _ F H (Nw.fzB s _)⟩
theorem pv_notN {j : Nat} : PrimV A S .notN (.Compare a [.IsNot] [.Constant .none j p] pos) [a] := pv_isC (fun X g => op_notN) (fun X => pe_non) rfl fun x H Q h => by
  obtain ⟨d, F, w, e, s, q, k⟩ := rP_one h
  rw [notN_ok e] at k
  exact ⟨rfl, by rw [q.isNon s]; exact k _ F H (Nw.fzB s _)⟩
theorem pv_isB {j : Nat} {v : Bool} : PrimV A S (.isB v) (.Compare a [.Is] [.Constant (.bool v) j p] pos) [a] := pv_isC (fun X g => op_isBl) (fun X => pe_bl) rfl fun x H Q h => by
  obtain ⟨d, F, w, e, s, q, k⟩ := rP_one h
  cases d with
  | bl z =>
    cases e
    refine ⟨z, v, q.bl, rfl, ?_⟩
    have : decide (z = v) = (v == z) := by cases z <;> cases v <;> rfl
    rw [this]
    exact k _ F H (Nw.fzB s _)
  | _ => cases e
theorem pv_notB {j : Nat} {v : Bool} : PrimV A S (.notB v) (.Compare a [.IsNot] [.Constant (.bool v) j p] pos) [a] := pv_isC (fun X g => op_notBl) (fun X => pe_bl) rfl fun x H Q h => by
  obtain ⟨d, F, w, e, s, q, k⟩ := rP_one h
  cases d with
  | bl z =>
    cases e
    refine ⟨z, v, q.bl, rfl, ?_⟩
    have : (!decide (z = v)) = (!(v == z)) := by cases z <;> cases v <;> rfl
    rw [this]
    exact k _ F H (Nw.fzB s _)
  | _ => cases e
/-! ### subscripts -/
def noSlice : Expr → Bool
  | .Slice _ _ _ _ => false
  | _ => true
theorem plainIx_ok (h : noSlice b = true) : PlainIx b := fun o i => by
  cases b <;> first | rfl | cases h
theorem Rzs.atI {l : List D} {xs : List V} {i : Int} {d : D} (r : Rzs T F l xs) (h : atI l i = some d) : ∃ x, atI xs i = some x ∧ Rz T F d x := by
  unfold L2.atI at h ⊢
  rw [← r.len]
  cases e : ixN l.length i with
  | none => rw [e] at h; cases h
  | some j =>
    rw [e] at h
    exact r.get h
theorem o_idx (hK : X.K = T.K) : IxR X (fun x y H Q => rP T .idx [x, y] H Q) := fun value slice pins s σ H x y v u Q I rx ry ⟨ds, F, w, ln, h, hs, p, k⟩ hp => by
  obtain ⟨d, e, rfl⟩ := len2 ln
  obtain ⟨x', y', ev, p1, p2⟩ := p.two
  cases ev
  cases d with
  | tup l =>
    cases e with
    | int i =>
      have h : (match L2.atI l i with | some d => Res.ok (Val.fz d) | none => .bad) = .ok w := h
      cases e1 : L2.atI l i with
      | none => rw [e1] at h; cases h
      | some d =>
        rw [e1] at h
        cases h
        obtain ⟨a, xs, rfl, q1, r1⟩ := p1.tup
        obtain ⟨z, e2, rz⟩ := r1.atI e1
        exact ix_tup value slice pins s σ H _ _ v u Q I rx ry ⟨a, xs, i, z, rfl, p2.int, by rw [hK]; exact SqT.sub hs q1, e2, k _ F H (Nw.fz hs rz)⟩ hp
    | _ => cases h
  | lst l =>
    cases e with
    | int i =>
      have h : (match L2.atI l i with | some d => Res.ok (Val.fz d) | none => .bad) = .ok w := h
      cases e1 : L2.atI l i with
      | none => rw [e1] at h; cases h
      | some d =>
        rw [e1] at h
        cases h
        obtain ⟨a, xs, rfl, q1, r1⟩ := p1.lst hs
        obtain ⟨z, e2, rz⟩ := r1.atI e1
        exact ix_list value slice pins s σ H _ _ v u Q I rx ry ⟨a, xs, i, z, rfl, p2.int, .inl (.inl q1), e2, k _ F H (Nw.fz hs rz)⟩ hp
    | _ => cases h
  | _ => cases h
theorem pv_idx (h : noSlice b = true) : PrimV A S .idx (.Subscript a b pos) [a, b] := PrimV.mk (fun ts p X g => by
  obtain ⟨t, u, rfl, h1, h2⟩ := p.two
  exact pe_ix (o_idx g.K) (h1 X g) (h2 X g) (plainIx_ok h)) rfl
theorem scr_cut {l : List Int} {F H : Hp} (hs : Sub F H) (lo hi : Option Int) : Rzs T F ((cut l lo hi).map D.int) (cutV (l.map V.int) lo hi) := by
  have e : cutV (l.map V.int) lo hi = (cut l lo hi).map V.int := by
    unfold cutV cut
    rw [List.length_map, List.map_take, List.map_drop]
  rw [e]
  exact Rzs.ofInts _
def optI : Option Int → List V
  | none => []
  | some i => [.int i]
theorem o_sliceT (hK : X.K = T.K) {lo hi : Option Int} {pins : List (Addr × Obj)} {s : Shared} {σ : L2.St} {H F : Hp} {v vl vu : Value} {sl : Addr} {Q : VK} {l : List D} {x : V} (I : Inv X pins σ H s) (rx : RelV x v) (hsl : s.heap.IsSliceOf sl vl vu .none) (pl : IsPart vl lo) (pu : IsPart vu hi)
    (hs : Sub F H) (p : Pk T F H (.tup l) x) (k : ∀ v F' H', Nw T F H (.fz (.tup (cut l lo hi))) v F' H' → Q v H') :
    ∃ T id, typeLookup (.type T) "__getitem__" = pure (some (.builtin id)) ∧ s.TypeIs v T ∧ wpAny (model X.prog X.w) X.A (getItem v (.ref sl)) (EP X pins σ Q) X.xe s := by
  obtain ⟨a, xs, rfl, q1, r1⟩ := p.tupF
  refine sl_tupA pins s σ H _ v vl vu lo hi sl Q I rx hsl pl pu ⟨a, xs, rfl, SqT.of (hs _ _ q1), fun z => ?_, fun z p hp => k _ _ _ (Nw.tup hs (r1.cut lo hi) hp)⟩
  have e : cut l lo hi = l := by
    unfold cut
    rw [r1.len, z.1, z.2, ← r1.len]
    simp
  rw [e] at k
  exact k _ F H (Nw.fz hs ⟨a, xs, rfl, q1, r1⟩)
theorem o_sliceL {lo hi : Option Int} {pins : List (Addr × Obj)} {s : Shared} {σ : L2.St} {H F : Hp} {v vl vu : Value} {sl : Addr} {Q : VK} {l : List D} {x : V} (I : Inv X pins σ H s) (rx : RelV x v) (hsl : s.heap.IsSliceOf sl vl vu .none) (pl : IsPart vl lo) (pu : IsPart vu hi)
    (hs : Sub F H) (p : Pk T F H (.lst l) x) (k : ∀ v F' H', Nw T F H (.own (cut l lo hi)) v F' H' → Q v H') :
    ∃ T id, typeLookup (.type T) "__getitem__" = pure (some (.builtin id)) ∧ s.TypeIs v T ∧ wpAny (model X.prog X.w) X.A (getItem v (.ref sl)) (EP X pins σ Q) X.xe s := by
  obtain ⟨a, xs, rfl, q1, r1⟩ := p.lst hs
  exact sl_list pins s σ H _ v vl vu lo hi sl Q I rx hsl pl pu ⟨a, xs, rfl, .inl (.inl q1), fun p hp => k _ _ _ (Nw.lst hs (r1.cut lo hi) hp)⟩
theorem o_sliceS (hK : X.K = T.K) {lo hi : Option Int} {pins : List (Addr × Obj)} {s : Shared} {σ : L2.St} {H F : Hp} {v vl vu : Value} {sl : Addr} {Q : VK} {l : List Int} {x : V} (I : Inv X pins σ H s) (rx : RelV x v) (hsl : s.heap.IsSliceOf sl vl vu .none) (pl : IsPart vl lo) (pu : IsPart vu hi)
    (hs : Sub F H) (p : Pk T F H (.scr l) x) (k : ∀ v F' H', Nw T F H (.own ((cut l lo hi).map D.int)) v F' H' → Q v H') :
    ∃ T id, typeLookup (.type T) "__getitem__" = pure (some (.builtin id)) ∧ s.TypeIs v T ∧ wpAny (model X.prog X.w) X.A (getItem v (.ref sl)) (EP X pins σ Q) X.xe s := by
  obtain ⟨a, rfl, q1⟩ := p.scr
  exact sl_list pins s σ H _ v vl vu lo hi sl Q I rx hsl pl pu ⟨a, _, rfl, by rw [hK]; exact SqL.sub hs q1, fun p hp => k _ _ _ (Nw.lst hs (scr_cut hs lo hi) hp)⟩
theorem Pks.one' {d : D} {v : V} (h : Pks T F H [d] [v]) : Pk T F H d v := by
  obtain ⟨v', e, q⟩ := h.one
  cases e
  exact q
theorem Pks.two' {d e : D} {v u : V} (h : Pks T F H [d, e] [v, u]) : Pk T F H d v ∧ Pk T F H e u := by
  obtain ⟨v', u', e, q⟩ := h.two
  cases e
  exact q
theorem Pks.three' {d e g : D} {v u z : V} (h : Pks T F H [d, e, g] [v, u, z]) : Pk T F H d v ∧ Pk T F H e u ∧ Pk T F H g z := by
  obtain ⟨v', u', z', e, q⟩ := h.three
  cases e
  exact q
theorem V.int_inj {i j : Int} (h : V.int i = V.int j) : i = j := by cases h; rfl
theorem o_slice (hK : X.K = T.K) : SlR X (fun x lo hi H Q => rP T (.slice lo.isSome hi.isSome) (x :: (optI lo ++ optI hi)) H Q) := fun pins s σ H x v vl vu lo hi sl Q I rx hsl pl pu ⟨ds, F, w, ln, h, hs, p, k⟩ => by
  cases lo with
  | none =>
    cases hi with
    | none =>
      obtain ⟨d, rfl⟩ := len1 ln
      have p1 := p.one'
      cases d with
      | tup l => cases h; exact o_sliceT hK I rx hsl pl pu hs p1 k
      | lst l => cases h; exact o_sliceL I rx hsl pl pu hs p1 k
      | _ => cases h
    | some j =>
      obtain ⟨d, e, rfl⟩ := len2 ln
      obtain ⟨p1, p2⟩ := p.two'
      cases e with
      | int i =>
        obtain rfl := V.int_inj p2.int
        cases d with
        | tup l => cases h; exact o_sliceT hK I rx hsl pl pu hs p1 k
        | lst l => cases h; exact o_sliceL I rx hsl pl pu hs p1 k
        | scr l => cases h; exact o_sliceS hK I rx hsl pl pu hs p1 k
        | _ => cases h
      | _ => cases d <;> cases h
  | some i =>
    cases hi with
    | none =>
      obtain ⟨d, e, rfl⟩ := len2 ln
      obtain ⟨p1, p2⟩ := p.two'
      cases e with
      | int i =>
        obtain rfl := V.int_inj p2.int
        cases d with
        | tup l => cases h; exact o_sliceT hK I rx hsl pl pu hs p1 k
        | lst l => cases h; exact o_sliceL I rx hsl pl pu hs p1 k
        | _ => cases h
      | _ => cases d <;> cases h
    | some j =>
      obtain ⟨d, e, g, rfl⟩ := len3 ln
      obtain ⟨p1, p2, p3⟩ := p.three'
      cases e with
      | int i =>
        cases g with
        | int j =>
          obtain rfl := V.int_inj p2.int
          obtain rfl := V.int_inj p3.int
          cases d with
          | tup l => cases h; exact o_sliceT hK I rx hsl pl pu hs p1 k
          | lst l => cases h; exact o_sliceL I rx hsl pl pu hs p1 k
          | _ => cases h
        | _ => cases d <;> cases h
      | _ => cases d <;> cases h
theorem rP_int2 {b : Bool} {x y : V} {Q : VK} (h : rP T (.slice b (!b)) [x, y] H Q) : ∃ i, y = .int i := by
  obtain ⟨ds, F, w, ln, h, hs, p, k⟩ := h
  obtain ⟨d, e, rfl⟩ := len2 ln
  obtain ⟨p1, p2⟩ := p.two'
  cases e with
  | int i => exact ⟨i, p2.int⟩
  | _ => cases b <;> cases d <;> cases h
theorem rP_int3 {x y z : V} {Q : VK} (h : rP T (.slice true true) [x, y, z] H Q) : ∃ i j, y = .int i ∧ z = .int j := by
  obtain ⟨ds, F, w, ln, h, hs, p, k⟩ := h
  obtain ⟨d, e, g, rfl⟩ := len3 ln
  obtain ⟨p1, p2, p3⟩ := p.three'
  cases e with
  | int i =>
    cases g with
    | int j => exact ⟨i, j, p2.int, p3.int⟩
    | _ => cases d <;> cases h
  | _ => cases d <;> cases h
theorem pv_sl0 : PrimV A S (.slice false false) (.Subscript a (.Slice none none none p) pos) [a] := PrimV.mk (fun ts p X g => by
  obtain ⟨t, rfl, h1⟩ := p.one
  exact pe_slice (o_slice g.K) (h1 X g) po_none po_none) rfl
/-- a slice, its bounds any values -/
theorem pe_sliceV {te tl th : TE} {r : V → V → V → Hp → VK → Prop} (hr : SlR X (fun x lo hi H Q => r x (lo.elim .non V.int) (hi.elim .non V.int) H Q)) (hi3 : ∀ x y z H Q, r x y z H Q → (∃ i, y = .int i) ∧ ∃ j, z = .int j) (he : PE X a te) (hl : PE X b tl) (hu : PE X c th) :
    PE X (.Subscript a (.Slice (some b) (some c) none p2) pos) (fun σ H Q => te σ H fun x H1 => tl σ H1 fun y H2 => th σ H2 fun z H3 => r x y z H3 Q) := by
  refine ⟨fun pins s σ H Q I h => ?_⟩
  refine Subscript_ (thn (he.run pins s σ H _ I h) fun v s1 ⟨x, H1, I1, r1, q1⟩ => ?_)
  refine wpAny_Slice ?_
  rw [evalPart_some]
  refine thn (hl.run pins s1 σ H1 _ I1 q1) fun vl s2 ⟨l, H2, I2, pl, q2⟩ => ?_
  rw [evalPart_some]
  refine thn (hu.run pins s2 σ H2 _ I2 q2) fun vu s3 ⟨u, H3, I3, pu, q3⟩ => ?_
  obtain ⟨⟨i, rfl⟩, j, rfl⟩ := hi3 _ _ _ _ _ q3
  obtain ⟨t, rfl⟩ := pl
  obtain ⟨t', rfl⟩ := pu
  rw [evalPart_none]
  refine wpAny_pure ?_
  have I4 : Inv X pins σ H3 { s3 with heap := s3.heap.push { cls := .type "slice", data := .fields #[.int i t, .int j t', .none] } } := I3.kept (t' := s3.toks) fun b ob q => Heap.get?_push_of_some _ q
  obtain ⟨T, id, hT, ht, hg⟩ := hr pins { s3 with heap := s3.heap.push { cls := .type "slice", data := .fields #[.int i t, .int j t', .none] } } σ H3 x v _ _ (some i) (some j) s3.heap.objs.size Q I4 r1 (Heap.IsSliceOf.new ..) (.int i t) (.int j t') q3
  show wpAny (model X.prog X.w) X.A (subscriptTail a (.Slice (some b) (some c) none p2) v (.ref s3.heap.objs.size)) (EP X pins σ Q) X.xe { s3 with heap := s3.heap.push { cls := .type "slice", data := .fields #[.int i t, .int j t', .none] } }
  exact tail_any (ops := [.ref s3.heap.objs.size, v]) ht hT hg (by with_unfolding_all rfl)
theorem SlR.imp {r r' : V → Option Int → Option Int → Hp → VK → Prop} (h : SlR X r) (k : ∀ x lo hi H Q, r' x lo hi H Q → r x lo hi H Q) : SlR X r' := fun pins s σ H x v vl vu lo hi sl Q I rx hsl pl pu q => h pins s σ H x v vl vu lo hi sl Q I rx hsl pl pu (k x lo hi H Q q)
theorem pv_slL : PrimV A S (.slice true false) (.Subscript a (.Slice (some b) none none p) pos) [a, b] := PrimV.mk (fun ts p X g => by
  obtain ⟨t, u, rfl, h1, h2⟩ := p.two
  refine pe_imp (pe_slice (o_slice g.K) (pe_mono (h1 X g)) (po_some (pe_mono (h2 X g))) po_none) fun σ H Q h => ⟨_, h, fun x H1 q => ⟨_, q, fun y H2 r => ?_⟩⟩
  obtain ⟨i, rfl⟩ := rP_int2 (b := true) r
  exact ⟨i, rfl, r⟩) rfl
theorem pv_slH : PrimV A S (.slice false true) (.Subscript a (.Slice none (some b) none p) pos) [a, b] := PrimV.mk (fun ts p X g => by
  obtain ⟨t, u, rfl, h1, h2⟩ := p.two
  refine pe_imp (pe_slice (o_slice g.K) (pe_mono (h1 X g)) po_none (po_some (pe_mono (h2 X g)))) fun σ H Q h => ⟨_, h, fun x H1 q => ⟨_, q, fun y H2 r => ?_⟩⟩
  obtain ⟨i, rfl⟩ := rP_int2 (b := false) r
  exact ⟨i, rfl, r⟩) rfl
theorem pv_slB : PrimV A S (.slice true true) (.Subscript a (.Slice (some b) (some c) none p) pos) [a, b, c] := PrimV.mk (fun ts p X g => by
  obtain ⟨t, u, z, rfl, h1, h2, h3⟩ := p.three
  refine pe_sliceV (r := fun x y z H Q => rP A.T (.slice true true) [x, y, z] H Q) (SlR.imp (o_slice g.K) fun x lo hi H Q h => ?_) (fun x y z H Q h => ?_) (h1 X g) (h2 X g) (h3 X g)
  · obtain ⟨i, j, e1, e2⟩ := rP_int3 h
    cases lo with
    | none => cases e1
    | some i =>
      cases hi with
      | none => cases e2
      | some j => exact h
  · obtain ⟨i, j, e1, e2⟩ := rP_int3 h
    exact ⟨⟨i, e1⟩, j, e2⟩) rfl
end
end Rx

set_option Elab.async false
set_option linter.all false
set_option autoImplicit false
set_option maxRecDepth 100000
/-! enumerate of a tuple -/
namespace Rx
open PySem PySem.Spec PyProof.Rows L2
open PySem.AutoSeq1 (wpAny_loadPart')
set_option maxHeartbeats 1000000 in
theorem meets_enumerate_newT (l : Addr) (items : Array Value) (n : Nat) (dct : Option Addr) (sl : Array (Option Value)) :
    Meets (Builtin.«enumerate.__new__» ⟨[.type "enumerate", .ref l], []⟩) (fun _ R s => s.heap.get? l = some { cls := .type "tuple", dict := dct, data := .seq items n, slots := sl } ∧
      R (.ok (.ret (.ref (s.heap.push { cls := .type "tuple_iterator", data := .fields #[.ref l, .int 0 0] }).objs.size)))
        { s with heap := (s.heap.push { cls := .type "tuple_iterator", data := .fields #[.ref l, .int 0 0] }).push { cls := .type "enumerate", data := .fields #[.none, .bool false, .ref s.heap.objs.size, rawInt 0, .none, .none] } }) :=
  .of_wp fun prog w A R s h => by
    obtain ⟨hp, g, d, tk, os⟩ := s; obtain ⟨hl, h⟩ := h
    have hsub := sub_enumerate
    have hL : Heap.IsTuple (Shared.heap ⟨hp, g, d, tk, os⟩) l items := ⟨_, hl, rfl, n, rfl⟩
    wp_walk using wpAny_loadPart' hl
    refine wpAny_stack_any fun st => wpAny_pure ?_
    split
    · rename_i c _ _ _ _ _
      cases (c == Value.type "enumerate")
      · wp_walk using wpAny_loadPart' hl, wpAny_pyIter_tuple hL
        exact ⟨_, rfl, h⟩
      · wp_walk using wpAny_loadPart' hl, wpAny_pyIter_tuple hL
        exact ⟨_, rfl, h⟩
    · wp_walk using wpAny_loadPart' hl, wpAny_pyIter_tuple hL
      exact ⟨_, rfl, h⟩
section
variable {prog : Program} {w : World} {A : Around} {E : Value → Shared → Prop} {s : Shared}
theorem call_enumerate_tuple {l : Addr} {items : Array Value} {Q : Value → Shared → Prop} (hL : s.heap.IsTuple l items)
    (h : ∀ h', IsEnum h' (s.heap.objs.size + 1) s.heap.objs.size 0 .none → h'.IsTupleIter s.heap.objs.size l 0 → h'.objs.size = s.heap.objs.size + 2 →
      (∀ b o, s.heap.get? b = some o → h'.get? b = some o) → Q (.ref (s.heap.objs.size + 1)) { s with heap := h' }) :
    wpAny (model prog w) A (call (.type "enumerate") [.ref l]) Q E s := by
  obtain ⟨⟨c, dct, dt, sl⟩, hl, hc, n, hd⟩ := hL
  replace hc : c = .type "tuple" := hc
  replace hd : dt = .seq items n := hd
  subst hc hd
  refine callType_new F.called_enumerate (by decide) (F.typeCall_enumerate_1 _) (F.newCall_enumerate_1 _) (fun obj => F.args_object_init_2 obj _) F.entry_enumerate_new
    (meets_enumerate_newT l items n dct sl) ⟨hl, ?_⟩
  have hz : (s.heap.push { cls := .type "tuple_iterator", data := .fields #[.ref l, .int 0 0] }).objs.size = s.heap.objs.size + 1 := Heap.size_push ..
  show _ ∧ _
  rw [hz]
  have he : IsEnum ((s.heap.push { cls := .type "tuple_iterator", data := .fields #[.ref l, .int 0 0] }).push
      { cls := .type "enumerate", data := .fields #[.none, .bool false, .ref s.heap.objs.size, rawInt 0, .none, .none] }) (s.heap.objs.size + 1) s.heap.objs.size 0 .none := by
    have := Heap.get?_push_size (s.heap.push { cls := .type "tuple_iterator", data := .fields #[.ref l, .int 0 0] })
      (o := { cls := .type "enumerate", data := .fields #[.none, .bool false, .ref s.heap.objs.size, rawInt 0, .none, .none] }) rfl
    rw [hz] at this; exact this
  refine ⟨⟨_, he, rfl⟩, h _ he ⟨_, Heap.get?_push_of_some _ (Heap.get?_push_size _ rfl), rfl, rfl⟩ (by rw [Heap.size_push, hz]) fun b o x => Heap.get?_push_of_some _ (Heap.get?_push_of_some _ x)⟩
end
theorem pyNext_enumT_end {prog : Program} {w : World} {A : Around} {E : Value → Shared → Prop} {s : Shared} {e it a : Addr} {i : Nat} {k : Int} {items : Array Value} {old : Value} {Q : Option Value → Shared → Prop} (hh : A.handled = none)
    (he : IsEnum s.heap e it k old) (hit : s.heap.IsTupleIter it a i) (p : s.heap.IsTuple a items) (hx : items[i]? = none)
    (hQ : ∀ h', Heap.ExtBut it s.heap h' → Q none { s with heap := h' }) : wpAny (model prog w) A (pyNext (.ref e)) Q E s := by
  have hT : s.TypeIs (.ref e) "enumerate" := ⟨_, he, rfl⟩
  unfold pyNext
  refine wpAny_bind (wpAny_attempt (wpAny_callSpecial?_slot (name := Str.ofString "__next__") hT F.slot_enumerate_next
    (wpAny_call_entry F.slot_enumerate_next hT F.entry_enumerate_next ?_ (F.args_enumerate_next_1 _))))
  show wpAny _ _ (field (.ref e) 2 >>= _) _ _ _
  refine wpAny_bind (wpAny_field he rfl (x := .ref it) rfl ?_)
  refine wpAny_bind (wpAny_nextOf_tuple_end (A := A.in1) hh hit p hx fun h' x he' hx' => ?_)
  obtain ⟨o, ho, hc⟩ := hx'
  refine wpAny_bind (wpAny_isInstance (T := "StopIteration") (b := true) ⟨o, ho, hc⟩ isSubtype_stop ?_)
  exact wpAny_pure (hQ _ he')
/-- the tuple at a, each item in a new pair -/
def IteT (K : PySem.W.Frag) (a : Addr) : It :=
  ⟨fun i H => ∃ (xs : List V) (x : V), SqT K H a xs ∧ xs[i]? = some x, fun i H v H' => ∃ T x, v = .ref T ∧ H T = none ∧ H' = upd H T (.tup [.int (i : Nat), x]) ∧ ∀ xs, SqT K H a xs → xs[i]? = some x, fun i H => ∃ xs : List V, SqT K H a xs ∧ xs.length ≤ i⟩
theorem turn_enumT {P : Program} {w : World} {K : PySem.W.Frag} {elts : List Expr} {kk : Nat} {tpos : Pos} (a e it : Addr) :
    Turn P w K (.Tuple elts kk tpos) (IteT K a) [e, it] e (fun i h => (∃ old, IsEnum h e it ((i : Nat) : Int) old) ∧ h.IsTupleIter it a i ∧ e ≠ it ∧ a ≠ it ∧ a ≠ e) where
  mem := by simp
  obj := fun i h st b hb => by
    obtain ⟨⟨old, he⟩, ⟨o, ho, hc, hd⟩, _⟩ := st
    have e' : b = e ∨ b = it := by simpa using hb
    rcases e' with z | z
    · rw [z]; exact ⟨_, he, fun v q => nomatch q⟩
    · rw [z]; exact ⟨o, ho, fun v q => by rw [hd] at q; cases q⟩
  keep := fun i h h' st k => let ⟨⟨old, he⟩, hi, hne⟩ := st; ⟨⟨old, k e (by simp) _ he⟩, hi.at fun o q => k it (by simp) o q, hne⟩
  item := by
    intro X hP hw hK hc i pins s σ H E I hf st hg
    subst hP hw hK
    obtain ⟨⟨old, he⟩, hit, hne, hna, hnae⟩ := st
    obtain ⟨xs, x, hq, hx⟩ := hg
    obtain ⟨its, rv, p, hz⟩ := I.tuple hq
    obtain ⟨u, hu, ru⟩ := rv.get hx
    have hel : e < s.heap.objs.size := Heap.lt_size he
    have hil : it < s.heap.objs.size := by obtain ⟨_, q, _⟩ := hit; exact Heap.lt_size q
    have hlt : i < its.toArray.size := by
      have := (List.getElem?_eq_some_iff.mp hu).1
      simpa using this
    refine wpAny_pyNext_enum_itemD (Draws.tuple (A := X.A.in1) (I.ok.hd hc) it a hna its.toArray) he ⟨hit, p⟩ hlt hne (fun z => by
        have e' : e = it ∨ e = a := by simpa using z
        rcases e' with z | z
        · exact hne z
        · exact hnae z.symm) fun u' h' tk hu' ho hst' hT hsz hk => ?_
    have eu : u' = u := by
      have h1 : its.toArray[i]? = some u' := hu'
      have h2 : its.toArray[i]? = some u := by simpa using hu
      rw [h1] at h2
      exact Option.some.inj h2
    subst eu
    refine ⟨_, rfl, wpAny_letOwnedTupleGo_enum (s := { s with heap := h', toks := tk + 1 }) ho fun h'' he' sb => ?_⟩
    have hT2 : h''.get? s.heap.objs.size = some { cls := .type "tuple", data := .seq #[.int i tk, u'] } := (sb.2 _ (Nat.ne_of_gt hel)).trans hT
    have new : ObjOk X.prog X.w (upd H s.heap.objs.size (.tup [.int (i : Nat), x])) h'' s.heap.objs.size (.tup [.int (i : Nat), x]) :=
      ⟨by show 2 ≤ sizeLine; decide, [.int i tk, u'], .cons ⟨_, rfl⟩ (.cons ru .nil), ⟨_, hT2, rfl, _, rfl⟩⟩
    have I1 : Inv X pins σ (upd H s.heap.objs.size (.tup [.int (i : Nat), x])) { s with heap := h'', toks := tk + 1 } :=
      I.turnedNew (ch := [e, it]) (fun b ob hb q => (sb.2 b (fun z => hb (by simp [z]))).trans (hk b ob (fun z => hb (by simp [z])) (fun z => hb (by simp [z])) q)) hf (Nat.le_refl _) new
    refine ⟨.ref s.heap.objs.size, _, I1, rfl, ⟨_, x, rfl, I.hok.fresh (Nat.le_refl _), rfl, fun ys hy => by rw [I.tuple_inj hy hq]; exact hx⟩, ⟨⟨u', ?_⟩, hst'.1.at fun o q => (sb.2 it (Ne.symm hne)).trans q, hne, hna, hnae⟩, fun b hb => ?_⟩
    · have e1 : ((i + 1 : Nat) : Int) = (i : Int) + 1 := by omega
      rw [e1]; exact he'
    · have hb' : b < s.heap.objs.size := by
        have e' : b = e ∨ b = it := by simpa using hb
        rcases e' with z | z
        · rw [z]; exact hel
        · rw [z]; exact hil
      rw [upd_ne (Nat.ne_of_lt hb')]
      exact (hf b hb).1
  done := by
    intro X hP hw hK hc i pins s σ H E I hf st hg
    subst hP hw hK
    obtain ⟨⟨old, he⟩, hit, hne, hna, hnae⟩ := st
    obtain ⟨xs, hq, hx⟩ := hg
    obtain ⟨its, rv, p, hz⟩ := I.tuple hq
    obtain ⟨f0, f1, f2, f3, f4, f5⟩ := hf it (by simp)
    have hl := rv.length
    exact pyNext_enumT_end (I.ok.hd hc) he hit p (by simp; omega) fun h' eb => ⟨rfl, I.turned (t' := s.toks) (fun b o hb q => eb b o hb q) f0 f1 f3 f4 f5⟩
  self := fun A i s Q E st h => let ⟨⟨_, he⟩, _⟩ := st; wpAny_pyIter_enum he h
def iEnumA (K : PySem.W.Frag) (ta : TA) : TI := fun σ H R => ta σ H fun vs H1 => ∃ a xs, vs = [.ref a] ∧ ((SqL K H1 a xs ∧ R (Ite K a) H1) ∨ (SqT K H1 a xs ∧ R (IteT K a) H1))
theorem pi_enumA {X : Cx} {e : Expr} {ta : TA} {p pos tpos : Pos} {elts : List Expr} {kk : Nat} (hg : Gl X "enumerate") (hm : X.mg "enumerate" = none) (ha : PA X [e] ta) (hs : starEach [e] X.env = [(false, eval e X.env)] := by rfl) :
    PI X (.Tuple elts kk tpos) (.Call (.Name "enumerate" p) [e] [] pos) (iEnumA X.K ta) := by
  refine ⟨fun pins s σ H R I h => ?_⟩
  refine Call_ (ld_blt I hg hm boot_enumerate (PyProof.Rows.callWith_type1 (thn (ha.run pos pins s σ H _ I h) fun us s1 ⟨vs, H1, I1, r1, q1⟩ => ?_) hs rfl))
  obtain ⟨a, xs, ex, q1⟩ := q1
  subst ex
  cases r1 with
  | cons r rr =>
    cases rr
    cases r
    have fr : ∀ b, b ∈ [s1.heap.objs.size + 1, s1.heap.objs.size] → FpOk X pins H1 b := fun b hb => by
      have e' : b = s1.heap.objs.size + 1 ∨ b = s1.heap.objs.size := by simpa using hb
      have hle : s1.heap.objs.size ≤ b := by
        rcases e' with z | z
        · rw [z]; exact Nat.le_add_right _ _
        · rw [z]; exact Nat.le_refl _
      exact I1.fpOk hle (I1.hok.fresh hle)
    rcases q1 with ⟨hq, q⟩ | ⟨hq, q⟩
    · obtain ⟨its, rv, p', hz⟩ := I1.list hq
      refine call_enumerate_list p'.isList fun h' he hit hsz hk => wpAny_pyIter_enum he ?_
      have I2 : Inv X pins σ H1 { s1 with heap := h' } := I1.kept (t' := s1.toks) hk
      exact ⟨s1.heap.objs.size + 1, [s1.heap.objs.size + 1, s1.heap.objs.size], _, _, H1, rfl, I2, turn_enum a (s1.heap.objs.size + 1) s1.heap.objs.size, ⟨⟨.none, he⟩, hit, Nat.succ_ne_self _⟩, fr, q⟩
    · obtain ⟨its, rv, p', hz⟩ := I1.tuple hq
      have hl : a < s1.heap.objs.size := by
        obtain ⟨_, q, _⟩ := id p'
        exact Heap.lt_size q
      refine call_enumerate_tuple p' fun h' he hit hsz hk => wpAny_pyIter_enum he ?_
      have I2 : Inv X pins σ H1 { s1 with heap := h' } := I1.kept (t' := s1.toks) hk
      exact ⟨s1.heap.objs.size + 1, [s1.heap.objs.size + 1, s1.heap.objs.size], _, _, H1, rfl, I2, turn_enumT a (s1.heap.objs.size + 1) s1.heap.objs.size, ⟨⟨.none, he⟩, hit, Nat.succ_ne_self _, Nat.ne_of_lt hl, Nat.ne_of_lt (Nat.lt_succ_of_lt hl)⟩, fr, q⟩
end Rx

set_option Elab.async false
set_option linter.all false
set_option autoImplicit false
set_option maxRecDepth 100000
/-! dicts, by values -/
namespace Rx
open PySem L2
open PySem.Spec
open PyProof.Rows
section
variable {T : TX} {F F' H H' : Hp} {κ : Type} [DecidableEq κ]
theorem Rzg.len : ∀ {l : List (κ × D)} {xs : List (κ × V)}, Rzg T F l xs → l.length = xs.length
  | [], _, h => by rw [show _ = ([] : List (κ × V)) from h]; rfl
  | (f, d) :: l, _, h => by
    obtain ⟨x, r, rfl, _, t⟩ := h
    simp only [List.length_cons, Rzg.len t]
theorem Rzg.sub (s : Sub F F') : ∀ {l : List (κ × D)} {xs : List (κ × V)}, Rzg T F l xs → Rzg T F' l xs
  | [], _, h => h
  | (f, d) :: l, _, h => by
    obtain ⟨x, r, e, q, t⟩ := h
    exact ⟨x, r, e, Rz.sub s d x q, Rzg.sub s t⟩
theorem Rzg.look {k : κ} : ∀ {l : List (κ × D)} {xs : List (κ × V)}, Rzg T F l xs → (∃ d x, dLook l k = some d ∧ valV xs k = some x ∧ Rz T F d x) ∨ (dLook l k = none ∧ valV xs k = none)
  | [], _, h => by
    rw [show _ = ([] : List (κ × V)) from h]
    exact .inr ⟨rfl, rfl⟩
  | (f, d) :: l, _, h => by
    obtain ⟨x, r, rfl, q, t⟩ := h
    by_cases e : f = k
    · refine .inl ⟨d, x, ?_, valV_pos e, q⟩
      simp [dLook, List.find?_cons, e]
    · rw [valV_neg (p := (f, x)) e]
      have e2 : dLook ((f, d) :: l) k = dLook l k := by simp [dLook, List.find?_cons, e]
      rw [e2]
      exact Rzg.look t
theorem Rzg.any {k : κ} : ∀ {l : List (κ × D)} {xs : List (κ × V)}, Rzg T F l xs → (l.any fun kv => decide (kv.1 = k)) = (xs.any fun kv => decide (kv.1 = k))
  | [], _, h => by rw [show _ = ([] : List (κ × V)) from h]; rfl
  | (f, d) :: l, _, h => by
    obtain ⟨x, r, rfl, q, t⟩ := h
    simp only [List.any_cons, Rzg.any t]
theorem Rzg.repl {k : κ} {d : D} {x : V} (hx : Rz T F d x) : ∀ {l : List (κ × D)} {xs : List (κ × V)}, Rzg T F l xs → Rzg T F (l.map fun kv => if kv.1 = k then (kv.1, d) else kv) (xs.map fun kv => if kv.1 = k then (kv.1, x) else kv)
  | [], _, h => by rw [show _ = ([] : List (κ × V)) from h]; rfl
  | (f, e) :: l, _, h => by
    obtain ⟨y, r, rfl, q, t⟩ := h
    rw [List.map_cons, List.map_cons]
    by_cases c : f = k
    · rw [if_pos c, if_pos c]
      exact ⟨x, _, rfl, hx, Rzg.repl hx t⟩
    · rw [if_neg c, if_neg c]
      exact ⟨y, _, rfl, q, Rzg.repl hx t⟩
theorem Rzg.snoc {k : κ} {d : D} {x : V} (hx : Rz T F d x) : ∀ {l : List (κ × D)} {xs : List (κ × V)}, Rzg T F l xs → Rzg T F (l ++ [(k, d)]) (xs ++ [(k, x)])
  | [], _, h => by
    rw [show _ = ([] : List (κ × V)) from h]
    exact ⟨x, [], rfl, hx, rfl⟩
  | (f, e) :: l, _, h => by
    obtain ⟨y, r, rfl, q, t⟩ := h
    exact ⟨y, _, rfl, q, Rzg.snoc hx t⟩
theorem Rzg.put {k : κ} {d : D} {x : V} {l : List (κ × D)} {xs : List (κ × V)} (h : Rzg T F l xs) (hx : Rz T F d x) : Rzg T F (dPut l k d) (putK xs k x) := by
  unfold dPut putK
  rw [h.any]
  split
  · exact h.repl hx
  · exact h.snoc hx
theorem dPut_len (l : List (κ × D)) (k : κ) (d : D) : (dPut l k d).length ≤ l.length + 1 := by
  unfold dPut
  split
  · rw [List.length_map]; omega
  · rw [List.length_append, List.length_singleton]; omega
end
section
variable {T : TX} {F F' H H' : Hp}
theorem keyK_ok {d : D} {k : DKey} {v : V} (h : keyK? d = some k) (r : Rz T F d v) : v = kV k := by
  cases d with
  | int i => cases h; exact r
  | str i => cases h; exact r
  | _ => cases h
theorem keysK_ok : ∀ {l : List D} {ks : List DKey} {xs : List V}, keysK? l = some ks → Rzs T F l xs → xs = ks.map kV
  | [], _, _, h, r => by cases h; exact r
  | d :: l, ks, _, h, r => by
    obtain ⟨x, r', rfl, q, t⟩ := r
    have h : ((keyK? d).bind fun k => (keysK? l).map (k :: ·)) = some ks := h
    cases e1 : keyK? d with
    | none => rw [e1] at h; cases h
    | some k =>
      cases e2 : keysK? l with
      | none => rw [e1, e2] at h; cases h
      | some ks' =>
        rw [e1, e2] at h
        cases h
        rw [keyK_ok e1 q, keysK_ok e2 t, List.map_cons]
theorem keyD_rz (k : DKey) : Rz T F (keyD k) (kV k) := by cases k <;> rfl
theorem keysD_rzs : ∀ {l : List (DKey × D)} {xs : List (Key × V)}, Rzk T F l xs → Rzs T F (keysD l) (xs.map fun kv => kV kv.1)
  | [], _, h => by rw [show _ = ([] : List (Key × V)) from h]; rfl
  | (f, d) :: l, _, h => by
    obtain ⟨x, r, rfl, q, t⟩ := h
    exact ⟨_, _, rfl, keyD_rz f, keysD_rzs t⟩
theorem keyDs_rzs : ∀ (ks : List DKey), Rzs T F (ks.map keyD) (ks.map kV)
  | [] => rfl
  | k :: ks => ⟨_, _, rfl, keyD_rz k, keyDs_rzs ks⟩
/-- all tuples that stand are done with -/
def tupAll (F H : Hp) : Hp := fun a => match F a with
  | some o => some o
  | none => match H a with
    | some (.tup xs) => some (.tup xs)
    | _ => none
theorem tupAll_mono : Sub F (tupAll F H) := fun a o e => by unfold tupAll; rw [e]
theorem tupAll_get {b : Addr} {xs : List V} (s : Sub F H) (h : H b = some (.tup xs)) : tupAll F H b = some (.tup xs) := by
  unfold tupAll
  cases e : F b with
  | some o =>
    have := s b o e
    rw [h] at this
    cases this
    rfl
  | none => rw [h]
theorem tupAll_out {a : Addr} {o : HO} (s : Sub F H) (h : tupAll F H a = some o) : H a = some o ∧ (F a = none → ∃ xs, o = .tup xs) := by
  unfold tupAll at h
  cases e : F a with
  | some u =>
    rw [e] at h
    cases h
    exact ⟨s a _ e, fun z => by cases z⟩
  | none =>
    rw [e] at h
    cases e2 : H a with
    | none => rw [e2] at h; cases h
    | some u =>
      rw [e2] at h
      cases u with
      | tup xs => cases h; exact ⟨rfl, fun _ => ⟨xs, rfl⟩⟩
      | _ => cases h
theorem tupAll_sub (s : Sub F H) : Sub (tupAll F H) H := fun a o h => (tupAll_out s h).1
theorem tupAll_nt (s : Sub F H) (a : Addr) (f : F a = Option.none) (n : tupAll F H a ≠ Option.none) : NT H a := fun o ho => by
  cases e : tupAll F H a with
  | none => exact absurd e n
  | some u =>
    obtain ⟨h1, h2⟩ := tupAll_out s e
    rw [ho] at h1
    cases h1
    exact h2 f
/-- the key tuples of a dict -/
theorem keysT_rzs (s : Sub F H) : ∀ {l : List (List DKey × D)} {xs : List (List Key × V)} {bs : List Addr}, Rzt T F l xs → IsKeys H xs bs → Rzs T (tupAll F H) (keysT l) (bs.map V.ref)
  | [], _, bs, h, q => by
    rw [show _ = ([] : List (List Key × V)) from h] at q
    cases q
    rfl
  | (f, d) :: l, _, bs, h, q => by
    obtain ⟨x, r, rfl, _, t⟩ := h
    cases q with
    | cons h1 h2 => exact ⟨_, _, rfl, ⟨_, _, rfl, tupAll_get s h1, keyDs_rzs f⟩, keysT_rzs s t h2⟩
theorem Nw.lstA {l : List D} {xs : List V} {p : Addr} (m : Sub F F') (s : Sub F' H) (g : ∀ a, F a = Option.none → F' a ≠ Option.none → NT H a) (h : Rzs T F' l xs) (hp : H p = Option.none) : Nw T F H (.own l) (.ref p) F' (upd H p (.lst xs)) :=
  ⟨m, fun a o e => keep_new hp a o (s a o e), keep_new hp, g, ⟨p, xs, rfl, upd_same, h, none_sub s hp⟩, fun _ a e => by
    cases e
    exact hp⟩
/-- what a dict holds at a key -/
theorem dget_of {c k : D} {x y : V} {o : Option D} (hs : Sub F H) (pc : Pk T F H c x) (pk : Pk T F H k y) (h : dLookD c k = some o) : ∃ a ov, x = .ref a ∧ DGet H a y ov ∧ ((∃ d v, o = some d ∧ ov = some v ∧ Rz T F d v) ∨ (o = none ∧ ov = none)) := by
  cases c with
  | dk l =>
    obtain ⟨a, xs, rfl, h1, h2⟩ := pc.dk hs
    have h : (keyK? k).map (dLook l) = some o := h
    cases e : keyK? k with
    | none => rw [e] at h; cases h
    | some kk =>
      rw [e] at h
      cases h
      have ey : y = kV kk := by
        cases k with
        | int i => cases e; exact pk.int
        | str i => cases e; exact pk.str
        | _ => cases e
      subst ey
      refine ⟨a, _, rfl, DGet.k (k := kk) h1, ?_⟩
      rcases (Rzk.g.mp h2).look (k := kk) with ⟨d, v, e1, e2, e3⟩ | ⟨e1, e2⟩
      · exact .inl ⟨d, v, e1, e2, e3⟩
      · exact .inr ⟨e1, e2⟩
  | dt l =>
    obtain ⟨a, xs, rfl, h1, h2⟩ := pc.dt hs
    cases k with
    | tup ks =>
      have h : (keysK? ks).map (dLook l) = some o := h
      cases e : keysK? ks with
      | none => rw [e] at h; cases h
      | some kk =>
        rw [e] at h
        cases h
        obtain ⟨b, zs, rfl, q1, r1⟩ := pk.tupF
        cases keysK_ok e r1
        refine ⟨a, _, rfl, DGet.t (k := kk) h1 (hs _ _ q1), ?_⟩
        rcases (Rzt.g.mp h2).look (k := kk) with ⟨d, v, e1, e2, e3⟩ | ⟨e1, e2⟩
        · exact .inl ⟨d, v, e1, e2, e3⟩
        · exact .inr ⟨e1, e2⟩
    | _ => cases h
  | _ => cases h
end
section
variable {A : Amb} {S : SC} {X : Cx} {a b c e : Expr} {pos : Pos} {T : TX} {ts : List TE}
theorem Good.units1 {A : Amb} {S : SC} {X : Cx} (g : Good A S X) : X.A.units + 1 < cLine := by have := g.units; omega
theorem noSl_ok (h : noSlice b = true) : NoSl b := by cases b <;> first | (intro ov iv; rfl) | cases h
/-- d[k] -/
theorem pv_dget (hs : noSlice b = true) : PrimV A S .dget (.Subscript a b pos) [a, b] := PrimV.mk (fun ts p X g => by
  obtain ⟨t, u, rfl, h1, h2⟩ := p.two
  refine pe_imp (pe_dget g.units1 (pe_mono (h1 X g)) (pe_mono (h2 X g)) (noSl_ok hs)) fun σ H Q h => ⟨_, h, fun x H1 q => ⟨_, q, fun y H2 r => ?_⟩⟩
  obtain ⟨ds, F, w, ln, h, hs, q, k⟩ := r
  obtain ⟨d, e, rfl⟩ := len2 ln
  obtain ⟨v, u, ev, p1, p2⟩ := q.two
  cases ev
  have h : (match dLookD d e with | some (some d) => Res.ok (Val.fz d) | _ => .bad) = .ok w := h
  cases e1 : dLookD d e with
  | none => rw [e1] at h; cases h
  | some o =>
    obtain ⟨a', ov, rfl, g1, g2⟩ := dget_of hs p1 p2 e1
    rcases g2 with ⟨d', v, rfl, rfl, r⟩ | ⟨rfl, rfl⟩
    · rw [e1] at h
      cases h
      exact ⟨a', v, rfl, g1, k _ F H2 (Nw.fz hs r)⟩
    · rw [e1] at h
      cases h) rfl
theorem pc_imp {o : CmpOp} {t t' : TE} (h : PC X o a b t') (k : ∀ σ H Q, t σ H Q → t' σ H Q) : PC X o a b t := ⟨fun pins s σ H Q I q => h.run pins s σ H Q I (k σ H Q q)⟩
/-- k in d, k not in d -/
theorem pv_din (hb : noSet b = true) : PrimV A S .din (.Compare a [.In] [b] pos) [a, b] := fun ts p X g => by
  obtain ⟨t, u, rfl, h1, h2⟩ := p.two
  have key : PC X .In a b (tCB (rP A.T .din) (tAll [t, u])) := by
    refine pc_imp (pc_din g.units1 (pe_mono (h1 X g)) (pe_mono (h2 X g))) fun σ H Q h => ⟨_, h, fun x H1 q => ⟨_, q, fun y H2 r => ?_⟩⟩
    obtain ⟨ds, F, w, ln, h, hs, q, k⟩ := r
    obtain ⟨d, e, rfl⟩ := len2 ln
    obtain ⟨v, u, ev, p1, p2⟩ := q.two
    cases ev
    have h : (match dLookD e d with | some o => rB o.isSome | _ => .bad) = Res.ok w := h
    cases e1 : dLookD e d with
    | none => rw [e1] at h; cases h
    | some o =>
      obtain ⟨a', ov, rfl, g1, g2⟩ := dget_of hs p2 p1 e1
      rw [e1] at h
      cases h
      rcases g2 with ⟨d', v, rfl, rfl, r⟩ | ⟨rfl, rfl⟩
      · exact ⟨a', _, rfl, g1, k _ F H2 (Nw.fz hs rfl)⟩
      · exact ⟨a', _, rfl, g1, k _ F H2 (Nw.fz hs rfl)⟩
  exact ⟨pe_cmp key (marks_ok hb), fun _ => pt_cmp key (marks_ok hb)⟩
theorem pv_dnin (hb : noSet b = true) : PrimV A S .dnin (.Compare a [.NotIn] [b] pos) [a, b] := fun ts p X g => by
  obtain ⟨t, u, rfl, h1, h2⟩ := p.two
  have key : PC X .NotIn a b (tCB (rP A.T .dnin) (tAll [t, u])) := by
    refine pc_imp (pc_dnotin g.units1 (pe_mono (h1 X g)) (pe_mono (h2 X g))) fun σ H Q h => ⟨_, h, fun x H1 q => ⟨_, q, fun y H2 r => ?_⟩⟩
    obtain ⟨ds, F, w, ln, h, hs, q, k⟩ := r
    obtain ⟨d, e, rfl⟩ := len2 ln
    obtain ⟨v, u, ev, p1, p2⟩ := q.two
    cases ev
    have h : (match dLookD e d with | some o => rB (!o.isSome) | _ => .bad) = Res.ok w := h
    cases e1 : dLookD e d with
    | none => rw [e1] at h; cases h
    | some o =>
      obtain ⟨a', ov, rfl, g1, g2⟩ := dget_of hs p2 p1 e1
      rw [e1] at h
      cases h
      rcases g2 with ⟨d', v, rfl, rfl, r⟩ | ⟨rfl, rfl⟩
      · exact ⟨a', _, rfl, g1, k _ F H2 (Nw.fz hs rfl)⟩
      · exact ⟨a', _, rfl, g1, k _ F H2 (Nw.fz hs rfl)⟩
  exact ⟨pe_cmp key (marks_ok hb), fun _ => pt_cmp key (marks_ok hb)⟩
theorem PEL.no (h : PEL A S [] ts) : ts = [] := by
  cases h
  rfl
/-- {} -/
theorem pv_dnewK : PrimV A S .dnewK (.Dict [] [] pos) [] := PrimV.mk (fun ts p X g => by
  obtain rfl := p.no
  refine pe_imp pe_dnewK fun σ H Q h => fun q hq => ?_
  obtain ⟨ds, F, w, ln, h, hs, z, k⟩ := (show rP A.T .dnewK [] H Q from h)
  obtain rfl : ds = [] := List.eq_nil_of_length_eq_zero ln
  cases h
  exact k _ F _ ⟨Sub.refl _, fun a o e => keep_new hq a o (hs a o e), keep_new hq, fun a e n => absurd e n, ⟨q, [], rfl, upd_same, rfl, none_sub hs hq⟩, fun _ a e => by
    cases e
    exact hq⟩) rfl
theorem pv_dnewT : PrimV A S .dnewT (.Dict [] [] pos) [] := PrimV.mk (fun ts p X g => by
  obtain rfl := p.no
  refine pe_imp pe_dnewT fun σ H Q h => fun q hq => ?_
  obtain ⟨ds, F, w, ln, h, hs, z, k⟩ := (show rP A.T .dnewT [] H Q from h)
  obtain rfl : ds = [] := List.eq_nil_of_length_eq_zero ln
  cases h
  exact k _ F _ ⟨Sub.refl _, fun a o e => keep_new hq a o (hs a o e), keep_new hq, fun a e n => absurd e n, ⟨q, [], rfl, upd_same, rfl, none_sub hs hq⟩, fun _ a e => by
    cases e
    exact hq⟩) rfl
end
/-! ### d[k] = v -/
section
variable {T : TX} {E : XK} {σ : St} {F H F' H' : Hp} {env env' : Env}
theorem dPutV_noexc {w : Val} {k v : D} {c : Str} {fs : List (Str × D)} : dPutV w k v ≠ .exc c fs := by
  intro h
  unfold dPutV at h
  split at h
  · split at h
    · exact ite_noexc ok_noexc h
    · cases h
  · split at h
    · exact ite_noexc ok_noexc h
    · cases h
  · cases h
/-- what the dict at a is behind a store -/
theorem dput_of {u u' : Val} {k d : D} {a : Addr} {y v : V} (hs : Sub F H) (h : dPutV u k d = .ok u') (sl : Sl T F H u (.ref a)) (hf : F a = none) (rk : Rz T F k y) (rv : Rz T F d v) :
    ∃ o, DPut H a y v (upd H a o) ∧ Sl T F (upd H a o) u' (.ref a) ∧ u.isFz = false ∧ u'.isFz = false ∧ H a ≠ none := by
  cases u with
  | odk l =>
    obtain ⟨b, xs, eb, h1, h2, h3⟩ := sl
    cases eb
    have h : (match keyK? k with
      | some kk => if l.length < SL then Res.ok (Val.odk (dPut l kk d)) else .bad
      | none => .bad) = .ok u' := h
    cases e : keyK? k with
    | none => rw [e] at h; cases h
    | some kk =>
      rw [e] at h
      have h : (if l.length < SL then Res.ok (Val.odk (dPut l kk d)) else .bad) = .ok u' := h
      by_cases hl : l.length < SL
      case neg => rw [if_neg hl] at h; cases h
      rw [if_pos hl] at h
      cases h
      have := keyK_ok e rk
      subst this
      have g := Rzk.g.mp h2
      have gl := g.len
      exact ⟨.dK (putK xs kk v), DPut.k h1 (by rw [← gl, ← SL_line]; exact hl), ⟨a, _, rfl, upd_same, Rzk.g.mpr (g.put rv), hf⟩, rfl, rfl, by rw [h1]; simp⟩
  | odt l =>
    obtain ⟨b, xs, eb, h1, h2, h3⟩ := sl
    cases eb
    cases k with
    | tup ks =>
      have h : (match keysK? ks with
        | some kk => if l.length < SL then Res.ok (Val.odt (dPut l kk d)) else .bad
        | none => .bad) = .ok u' := h
      cases e : keysK? ks with
      | none => rw [e] at h; cases h
      | some kk =>
        rw [e] at h
        have h : (if l.length < SL then Res.ok (Val.odt (dPut l kk d)) else .bad) = .ok u' := h
        by_cases hl : l.length < SL
        case neg => rw [if_neg hl] at h; cases h
        rw [if_pos hl] at h
        cases h
        obtain ⟨c, zs, rfl, q1, r1⟩ := rk
        cases keysK_ok e r1
        have g := Rzt.g.mp h2
        have gl := g.len
        exact ⟨.dT (putK xs kk v), DPut.t h1 (hs _ _ q1) (by rw [← gl, ← SL_line]; exact hl), ⟨a, _, rfl, upd_same, Rzt.g.mpr (g.put rv), hf⟩, rfl, rfl, by rw [h1]; simp⟩
    | _ => cases h
  | _ => cases h
/-- what is stored to a place's dict -/
def dputF (i : Nat) (fa : Env → Res (List Val × Env)) (env : Env) : Res (Fl × Env) := (fa env).bind fun (ws, env1) => (mutSlot i env1 fun u => match ws with
      | [w, k] => (dPutV u k.frz w.frz).bind fun u' => .ok ((), u')
      | _ => .bad).bind fun (_, env2) => .ok (.nx, env2)
def sDPutM (i : Nat) (t : TA) : TS := fun D σ H => ∃ a, σ[i]? = some (some (.ref a)) ∧ t σ H fun vs H1 => ∃ v y H4, vs = [v, y] ∧ DPut H1 a y v H4 ∧ D.nx σ H4
theorem rd_dput {i : Nat} {fa : Env → Res (List Val × Env)} {t : TA} (ha : RdV T E fa t) (hl : LenA 2 (mapV fa)) : RdS T E (fun env => match env[i]? with
    | some (.val _ (.odk _)) => dputF i fa env
    | some (.val _ (.odt _)) => dputF i fa env
    | _ => .bad) (sDPutM i t) := RdS.mk fun σ F H env D st q => by
  have main : ∀ (p : Bool) (w0 : Val) (a : Addr), env[i]? = some (Slot.val p w0) → w0.isFz = false → σ[i]? = some (some (.ref a)) → (dputF i fa env).Post (FlK T σ F H env D) (XW T E σ H env) → sDPutM i t D σ H := fun p w0 a e hw0 ev q => by
    refine ⟨a, ev, ha.use σ F H env _ st ((Res.Post.bind (x := fa env) q).len' hl |>.mono (fun (ws, env1) ⟨ln, k⟩ vs F1 H1 p1 m1 f1 => ?_) fun _ _ x => x)⟩
    obtain ⟨F2, mo2, su2, rz2, g2⟩ := m1.frzs p1.st.sub
    have p2 : Pt T σ F H env F2 H1 env1 := p1.more mo2 su2 fun a n => (g2 a n).imp_right fun z => ⟨(m1.tmp z).2.2, f1 a z⟩
    obtain ⟨w, kw, rfl⟩ := len2 (show ws.length = 2 from ln)
    obtain ⟨v, y, rfl, rv, ry⟩ := rzs2 rz2
    have k := Res.Post.bind k
    unfold mutSlot at k
    cases e1 : env1[i]? with
    | none =>
      rw [e1] at k
      exact k.elim
    | some s =>
      rw [e1] at k
      cases s with
      | emp => exact k.elim
      | lck => exact k.elim
      | val p1' u =>
        have k := Res.Post.bind (x := (dPutV u kw.frz w.frz).bind fun u' => Res.ok ((), u')) k
        cases e2 : dPutV u kw.frz w.frz with
        | exc c fs => exact absurd e2 dPutV_noexc
        | bad =>
          rw [e2] at k
          exact k.elim
        | ok u' =>
          rw [e2] at k
          obtain ⟨v1, ev1, sl1⟩ := p2.st.sl i p1' _ e1
          rw [ev] at ev1
          cases ev1
          have huf : u.isFz = false := by
            cases u with
            | fz d => cases e2
            | _ => rfl
          obtain ⟨b, eb, hb, hf⟩ := sl1.ref huf
          cases eb
          obtain ⟨o, g1, g2, g3, g4, g5⟩ := dput_of p2.st.sub e2 sl1 hf ry rv
          have p3 := p2.st.write (o := o) e1 g3 g4 ev g5 hf g2
          exact ⟨v, y, _, rfl, g1, k σ F2 _ ((p2.trans p3).toS st)⟩
  have fin : ∀ (p : Bool) (w0 : Val), env[i]? = some (Slot.val p w0) → w0.isFz = false → (dputF i fa env).Post (FlK T σ F H env D) (XW T E σ H env) → sDPutM i t D σ H := fun p w0 e hw0 q => by
    obtain ⟨v, ev, sl⟩ := st.sl i p w0 e
    obtain ⟨a, ea, _⟩ := sl.ref hw0
    exact main p w0 a e hw0 (by rw [ev, ea]) q
  have q : (match env[i]? with
    | some (Slot.val _ (.odk _)) => dputF i fa env
    | some (Slot.val _ (.odt _)) => dputF i fa env
    | _ => .bad).Post (FlK T σ F H env D) (XW T E σ H env) := q
  cases e : env[i]? with
  | none =>
    rw [e] at q
    exact q.elim
  | some s =>
    rw [e] at q
    cases s with
    | emp => exact q.elim
    | lck => exact q.elim
    | val p w =>
      cases w with
      | odk l => exact fin p _ e rfl q
      | odt l => exact fin p _ e rfl q
      | _ => exact q.elim
theorem ps_dputM {X : Cx} {o i value : Expr} {pos pos' : Pos} {j : Nat} {ty tv : TE} (hu : X.A.units + 1 < cLine) (ho : PE X o (tVar j)) (hi : PE X i ty) (hv : PE X value tv) (hs : swapsWith value (some (.Subscript o i pos')) pos.line X.env = pure false) :
    PS X (.Assign [.Subscript o i pos'] value pos) (sDPutM j (tAll [tv, ty])) := ⟨fun pins s σ H D I ⟨a, e, h⟩ => (ps_dput hu ho (pe_mono hi) (pe_mono hv) hs).run pins s σ H D I
  ⟨_, h, fun v H1 q => ⟨.ref a, e, ⟨_, q, fun y H2 ⟨v', y', H4, ev, g, k⟩ => by
    cases ev
    exact ⟨a, H4, rfl, g, k⟩⟩⟩⟩⟩
end
end Rx

set_option Elab.async false
set_option linter.all false
set_option autoImplicit false
set_option maxRecDepth 100000
namespace Rx
open PySem L2
open PySem.Spec
open PyProof.Rows
section
variable {A : Amb} {S : SC} {X : Cx} {a b c e : Expr} {es : List Expr} {ta tb : TE} {pos p p2 apos : Pos} {ts : List TE} {T : TX} {F H : Hp}
theorem pv_callB {op : Op} {id : String} {x : Str} (hc : ∀ X, Good A S X → CallR X (.builtin id) (rP A.T op)) (hv : bootBuiltins x = some (.builtin id)) (hg : glob S x = true) (hm : A.T.mg x = none) (hx : plainN x = true) (hn : noStars (e :: es) = true) :
    PrimV A S op (.Call (.Name x p) (e :: es) [] pos) (e :: es) := PrimV.mk (fun ts q X g => by
  obtain ⟨n1, n2⟩ := Bool.and_eq_true_iff.mp (show (noStar e && noStars es) = true from hn)
  exact pe_callB (hc X g) (glob_ok g hg) (by rw [g.mg]; exact hm) hv (q.pa g hn) (plainN_ok hx).2.2 (plainN_ok hx).1 (star_ok n1) (star_any n2)) rfl
theorem pv_callT {op : Op} {id : String} {x : Str} (hc : ∀ X, Good A S X → CallR X (.type id) (rP A.T op)) (hv : bootBuiltins x = some (.type id)) (hg : glob S x = true) (hm : A.T.mg x = none) (hx : plainN x = true) (hn : noStars (e :: es) = true) :
    PrimV A S op (.Call (.Name x p) (e :: es) [] pos) (e :: es) := PrimV.mk (fun ts q X g => by
  obtain ⟨n1, n2⟩ := Bool.and_eq_true_iff.mp (show (noStar e && noStars es) = true from hn)
  exact pe_callTy (hc X g) (glob_ok g hg) (by rw [g.mg]; exact hm) hv (q.pa g hn) (plainN_ok hx).2.2 (plainN_ok hx).1 (star_ok n1) (star_any n2)) rfl
/-- what asks for one argument -/
def ar1 : Op → Bool
  | .len | .tuple | .list | .int | .abs | .sum | .sorted | .any | .all | .repr => true
  | _ => false
theorem prim_one {op : Op} (ho : ar1 op = true) : ∀ {ds : List D} {w : Val}, prim op ds = .ok w → ∃ d, ds = [d]
  | [d], _, _ => ⟨d, rfl⟩
  | [], _, h => by cases op <;> first | exact absurd ho Bool.false_ne_true | cases h
  | d :: d2 :: r, _, h => by cases op <;> first | exact absurd ho Bool.false_ne_true | (cases d <;> cases h)
theorem rP_ar1 {op : Op} (ho : ar1 op = true) {xs : List V} {Q : VK} (h : rP T op xs H Q) : ∃ d x F w, xs = [x] ∧ prim op [d] = .ok w ∧ Sub F H ∧ Pk T F H d x ∧ ∀ v F' H', Nw T F H w v F' H' → Q v H' := by
  obtain ⟨ds, F, w, ln, h, hs, q, k⟩ := h
  obtain ⟨d, rfl⟩ := prim_one ho h
  obtain ⟨x, rfl, q1⟩ := q.one
  exact ⟨d, x, F, w, rfl, h, hs, q1, k⟩
theorem c_len (hK : X.K = T.K) : CallR X (.builtin "len") (rP T .len) := CallR.imp ((call_len.or call_lenD).or call_len_dT) fun xs H Q h => by
  obtain ⟨d, x, F, w, rfl, h, hs, q, k⟩ := rP_ar1 rfl h
  cases d with
  | tup l =>
    cases h
    obtain ⟨a, xs, rfl, q1, r1⟩ := q.tup
    rw [r1.len] at k
    exact .inl (.inl ⟨_, xs.length, rfl, .inr ⟨xs, by rw [hK]; exact SqT.sub hs q1, rfl⟩, k _ F H (Nw.fzI hs _)⟩)
  | lst l =>
    cases h
    obtain ⟨a, xs, rfl, q1, r1⟩ := q.lst hs
    rw [r1.len] at k
    exact .inl (.inl ⟨_, xs.length, rfl, .inl ⟨xs, .inl (.inl q1), rfl⟩, k _ F H (Nw.fzI hs _)⟩)
  | dk l =>
    cases h
    obtain ⟨a, xs, rfl, q1, r1⟩ := q.dk hs
    rw [Rzg.len (Rzk.g.mp r1)] at k
    exact .inl (.inr ⟨a, xs, rfl, q1, k _ F H (Nw.fzI hs _)⟩)
  | dt l =>
    cases h
    obtain ⟨a, xs, rfl, q1, r1⟩ := q.dt hs
    rw [Rzg.len (Rzt.g.mp r1)] at k
    exact .inr ⟨a, xs, rfl, q1, k _ F H (Nw.fzI hs _)⟩
  | _ => cases h
theorem c_tuple (hK : X.K = T.K) : CallR X (.type "tuple") (rP T .tuple) := CallR.imp call_tuple_of fun xs H Q h => by
  obtain ⟨d, x, F, w, rfl, h, hs, q, k⟩ := rP_ar1 rfl h
  cases d with
  | tup l =>
    cases h
    obtain ⟨a, xs, rfl, q1, r1⟩ := q.tupF
    exact ⟨a, xs, rfl, .inr ⟨SqT.of (hs _ _ q1), k _ F H (Nw.fz hs ⟨a, xs, rfl, q1, r1⟩)⟩⟩
  | lst l =>
    cases h
    obtain ⟨a, xs, rfl, q1, r1⟩ := q.lst hs
    exact ⟨a, xs, rfl, .inl ⟨.inl (.inl q1), fun p hp => k _ _ _ (Nw.tup hs r1 hp)⟩⟩
  | _ => cases h
theorem c_list (hc : X.calm = true) (hK : X.K = T.K) : CallR X (.type "list") (rP T .list) := CallR.imp ((call_list_of.or (call_list_dK hc)).or (call_list_dT hc)) fun xs H Q h => by
  obtain ⟨d, x, F, w, rfl, h, hs, q, k⟩ := rP_ar1 rfl h
  cases d with
  | tup l =>
    cases h
    obtain ⟨a, xs, rfl, q1, r1⟩ := q.tup
    exact .inl (.inl ⟨a, xs, rfl, .inr (by rw [hK]; exact SqT.sub hs q1), fun p hp => k _ _ _ (Nw.lst hs r1 hp)⟩)
  | lst l =>
    cases h
    obtain ⟨a, xs, rfl, q1, r1⟩ := q.lst hs
    exact .inl (.inl ⟨a, xs, rfl, .inl (.inl (.inl q1)), fun p hp => k _ _ _ (Nw.lst hs r1 hp)⟩)
  | dk l =>
    cases h
    obtain ⟨a, xs, rfl, q1, r1⟩ := q.dk hs
    exact .inl (.inr ⟨a, xs, rfl, q1, fun p hp => k _ _ _ (Nw.lst hs (keysD_rzs r1) hp)⟩)
  | dt l =>
    cases h
    obtain ⟨a, xs, rfl, q1, r1⟩ := q.dt hs
    exact .inr ⟨a, xs, rfl, .inl q1, fun p bs hp hb => k _ _ _ (Nw.lstA tupAll_mono (tupAll_sub hs) (tupAll_nt hs) (keysT_rzs hs r1 hb) hp)⟩
  | _ => cases h
theorem c_int : CallR X (.type "int") (rP T .int) := CallR.imp call_int1 fun xs H Q h => by
  obtain ⟨d, x, F, w, rfl, h, hs, q, k⟩ := rP_ar1 rfl h
  cases d with
  | int i =>
    cases h
    exact .inl ⟨i, by rw [q.int], k _ F H (Nw.fzI hs _)⟩
  | bl i =>
    cases h
    exact .inr ⟨i, by rw [q.bl], k _ F H (Nw.fzI hs _)⟩
  | _ => cases h
theorem c_abs : CallR X (.builtin "abs") (rP T .abs) := CallR.imp call_abs fun xs H Q h => by
  obtain ⟨d, x, F, w, rfl, h, hs, q, k⟩ := rP_ar1 rfl h
  cases d with
  | int i =>
    cases h
    exact ⟨i, by rw [q.int], k _ F H (Nw.fzI hs _)⟩
  | _ => cases h
theorem ints?_ok : ∀ {l : List D} {ns : List Int}, ints? l = some ns → l = ns.map D.int
  | [], _, h => by cases h; rfl
  | .int i :: r, ns, h => by
    have h : (ints? r).map (i :: ·) = some ns := h
    cases e : ints? r with
    | none => rw [e] at h; cases h
    | some m =>
      rw [e] at h
      cases h
      rw [ints?_ok e, List.map_cons]
  | .non :: r, _, h => by cases h
  | .bl _ :: r, _, h => by cases h
  | .str _ :: r, _, h => by cases h
  | .tup _ :: r, _, h => by cases h
  | .lst _ :: r, _, h => by cases h
  | .dk _ :: r, _, h => by cases h
  | .dt _ :: r, _, h => by cases h
  | .ins _ _ :: r, _, h => by cases h
  | .scr _ :: r, _, h => by cases h
theorem bls?_ok : ∀ {l : List D} {ns : List Bool}, bls? l = some ns → l = ns.map D.bl
  | [], _, h => by cases h; rfl
  | .bl i :: r, ns, h => by
    have h : (bls? r).map (i :: ·) = some ns := h
    cases e : bls? r with
    | none => rw [e] at h; cases h
    | some m =>
      rw [e] at h
      cases h
      rw [bls?_ok e, List.map_cons]
  | .non :: r, _, h => by cases h
  | .int _ :: r, _, h => by cases h
  | .str _ :: r, _, h => by cases h
  | .tup _ :: r, _, h => by cases h
  | .lst _ :: r, _, h => by cases h
  | .dk _ :: r, _, h => by cases h
  | .dt _ :: r, _, h => by cases h
  | .ins _ _ :: r, _, h => by cases h
  | .scr _ :: r, _, h => by cases h
theorem Rzs.bls : ∀ {ns : List Bool} {xs : List V}, Rzs T F (ns.map D.bl) xs → xs = ns.map V.bl
  | [], _, h => h
  | n :: ns, _, h => by
    obtain ⟨x, r, rfl, h1, h2⟩ := h
    cases (show x = V.bl n from h1)
    rw [Rzs.bls h2, List.map_cons]
theorem c_sum (hc : X.calm = true) : CallR X (.builtin "sum") (rP T .sum) := CallR.imp (cr_sum hc) fun xs H Q h => by
  obtain ⟨d, x, F, w, rfl, h, hs, q, k⟩ := rP_ar1 rfl h
  cases d with
  | lst l =>
    have h : (match ints? l with | some r => rI r.sum | _ => .bad) = Res.ok w := h
    cases e : ints? l with
    | none => rw [e] at h; cases h
    | some ns =>
      rw [e] at h
      cases h
      cases ints?_ok e
      obtain ⟨a, xs, rfl, q1, r1⟩ := q.lst hs
      cases Rzs.ints r1
      exact ⟨a, ns, rfl, .inl (.inl q1), k _ F H (Nw.fzI hs _)⟩
  | _ => cases h
theorem c_all (hc : X.calm = true) : CallR X (.builtin "all") (rP T .all) := CallR.imp (cr_all hc) fun xs H Q h => by
  obtain ⟨d, x, F, w, rfl, h, hs, q, k⟩ := rP_ar1 rfl h
  cases d with
  | lst l =>
    have h : (match bls? l with | some r => rB (r.all id) | _ => .bad) = Res.ok w := h
    cases e : bls? l with
    | none => rw [e] at h; cases h
    | some ns =>
      rw [e] at h
      cases h
      cases bls?_ok e
      obtain ⟨a, xs, rfl, q1, r1⟩ := q.lst hs
      cases Rzs.bls r1
      exact ⟨a, ns, rfl, .inl (.inl q1), k _ F H (Nw.fzB hs _)⟩
  | _ => cases h
theorem c_any (hc : X.calm = true) : CallR X (.builtin "any") (rP T .any) := CallR.imp (cr_any hc) fun xs H Q h => by
  obtain ⟨d, x, F, w, rfl, h, hs, q, k⟩ := rP_ar1 rfl h
  cases d with
  | lst l =>
    have h : (match bls? l with | some r => rB (r.any id) | _ => .bad) = Res.ok w := h
    cases e : bls? l with
    | none => rw [e] at h; cases h
    | some ns =>
      rw [e] at h
      cases h
      cases bls?_ok e
      obtain ⟨a, xs, rfl, q1, r1⟩ := q.lst hs
      cases Rzs.bls r1
      exact ⟨a, ns, rfl, .inl (.inl q1), k _ F H (Nw.fzB hs _)⟩
  | _ => cases h
theorem maxI_spec : ∀ (r : List Int) (x : Int), maxI x r ∈ x :: r ∧ ∀ y ∈ x :: r, y ≤ maxI x r
  | [], x => ⟨List.mem_singleton.mpr rfl, fun y hy => by rw [List.mem_singleton.mp hy]; exact Int.le_refl _⟩
  | z :: r, x => by
    obtain ⟨h1, h2⟩ := maxI_spec r (if x < z then z else x)
    show maxI (if x < z then z else x) r ∈ _ ∧ ∀ y ∈ _, y ≤ maxI (if x < z then z else x) r
    refine ⟨?_, fun y hy => ?_⟩
    · rcases List.mem_cons.mp h1 with e | m
      · rw [e]
        split <;> simp
      · exact List.mem_cons_of_mem _ (List.mem_cons_of_mem _ m)
    · have h0 := h2 (if x < z then z else x) List.mem_cons_self
      rcases List.mem_cons.mp hy with e | m
      · rw [e]
        refine Int.le_trans ?_ h0
        split <;> omega
      · rcases List.mem_cons.mp m with e | m
        · rw [e]
          refine Int.le_trans ?_ h0
          split <;> omega
        · exact h2 y (List.mem_cons_of_mem _ m)
theorem minI_spec : ∀ (r : List Int) (x : Int), minI x r ∈ x :: r ∧ ∀ y ∈ x :: r, minI x r ≤ y
  | [], x => ⟨List.mem_singleton.mpr rfl, fun y hy => by rw [List.mem_singleton.mp hy]; exact Int.le_refl _⟩
  | z :: r, x => by
    obtain ⟨h1, h2⟩ := minI_spec r (if z < x then z else x)
    show minI (if z < x then z else x) r ∈ _ ∧ ∀ y ∈ _, minI (if z < x then z else x) r ≤ y
    refine ⟨?_, fun y hy => ?_⟩
    · rcases List.mem_cons.mp h1 with e | m
      · rw [e]
        split <;> simp
      · exact List.mem_cons_of_mem _ (List.mem_cons_of_mem _ m)
    · have h0 := h2 (if z < x then z else x) List.mem_cons_self
      rcases List.mem_cons.mp hy with e | m
      · rw [e]
        refine Int.le_trans h0 ?_
        split <;> omega
      · rcases List.mem_cons.mp m with e | m
        · rw [e]
          refine Int.le_trans h0 ?_
          split <;> omega
        · exact h2 y (List.mem_cons_of_mem _ m)
theorem c_max (hc : X.calm = true) : CallR X (.builtin "max") (rP T .max) := CallR.imp ((call_max2 hc).or (cr_max hc)) fun xs H Q h => by
  obtain ⟨ds, F, w, ln, h, hs, q, k⟩ := h
  match ds, h with
  | [.int i, .int j], h =>
    cases h
    obtain ⟨v, u, rfl, q1, q2⟩ := q.two
    exact .inl ⟨i, j, by rw [q1.int, q2.int], k _ F H (Nw.fzI hs _)⟩
  | [.lst l], h =>
    have h : (match ints? l with | some (x :: r) => rI (maxI x r) | _ => .bad) = Res.ok w := h
    cases e : ints? l with
    | none => rw [e] at h; cases h
    | some ns =>
      rw [e] at h
      cases ns with
      | nil => cases h
      | cons x r =>
        cases h
        cases ints?_ok e
        obtain ⟨v, rfl, q0⟩ := q.one
        obtain ⟨a, xs, rfl, q1, r1⟩ := q0.lst hs
        cases Rzs.ints r1
        refine .inr ⟨a, x :: r, rfl, .inl (.inl q1), Nat.succ_pos _, fun m h1 h2 => ?_⟩
        obtain ⟨s1, s2⟩ := maxI_spec r x
        rw [Int.le_antisymm (s2 m h1) (h2 _ s1)]
        exact k _ F H (Nw.fzI hs _)
theorem c_min (hc : X.calm = true) : CallR X (.builtin "min") (rP T .min) := CallR.imp ((call_min2 hc).or (cr_min hc)) fun xs H Q h => by
  obtain ⟨ds, F, w, ln, h, hs, q, k⟩ := h
  match ds, h with
  | [.int i, .int j], h =>
    cases h
    obtain ⟨v, u, rfl, q1, q2⟩ := q.two
    exact .inl ⟨i, j, by rw [q1.int, q2.int], k _ F H (Nw.fzI hs _)⟩
  | [.lst l], h =>
    have h : (match ints? l with | some (x :: r) => rI (minI x r) | _ => .bad) = Res.ok w := h
    cases e : ints? l with
    | none => rw [e] at h; cases h
    | some ns =>
      rw [e] at h
      cases ns with
      | nil => cases h
      | cons x r =>
        cases h
        cases ints?_ok e
        obtain ⟨v, rfl, q0⟩ := q.one
        obtain ⟨a, xs, rfl, q1, r1⟩ := q0.lst hs
        cases Rzs.ints r1
        refine .inr ⟨a, x :: r, rfl, .inl (.inl q1), Nat.succ_pos _, fun m h1 h2 => ?_⟩
        obtain ⟨s1, s2⟩ := minI_spec r x
        rw [Int.le_antisymm (h2 _ s1) (s2 m h1)]
        exact k _ F H (Nw.fzI hs _)
end
end Rx

set_option Elab.async false
set_option linter.all false
set_option autoImplicit false
set_option maxRecDepth 100000
/-! sets of ints: len(set(l)), sorted(set(l)) -/
namespace Rx
open PySem L2
open PySem.Spec
open PyProof.Rows
section
variable {P : Program} {w : World} {A : Around} {E : Value → Shared → Prop} {s : Shared}
set_option maxRecDepth 100000 in
set_option maxHeartbeats 3200000 in
theorem call_set_lstI {l : Addr} {items : Array Value} (ns : List Int) {Q : Value → Shared → Prop} (hh : A.handled = none) (hl : s.heap.IsList l items) (hit : IntsAre items.toList ns) (hb : ns.length + 1 < scanBound)
    (h : ∀ (h' : Heap) (tk c : Nat), SetR w h' s.heap.objs.size (fun j => decide (j ∈ ns)) c → c ≤ ns.length → (∀ b o, s.heap.get? b = some o → h'.get? b = some o) → Q (.ref s.heap.objs.size) { s with heap := h', toks := tk }) :
    wpAny (model P w) A (call (.type "set") [.ref l]) Q E s := by
  have hisz : items.size = ns.length := by
    have q := IntsAre.length hit
    rw [Array.length_toList] at q
    exact q
  obtain ⟨c, tl, hmro⟩ := F.called_set.mro
  have hmade := F.called_set.made
  have hsub := F.called_set.sub
  refine wpAny_call (codeAny_of_tree ?_)
  show wpAny _ _ (callAny (.type "set") _) _ _ _
  refine wpAny_pure ⟨Code.quiet_builtin _ (by decide +kernel), codeAny_builtin F.entry_type_call ?_⟩
  rw [Around.under_plain (weight_type_call_type "set" [.ref l] []) rfl]
  have h1 := F.called_set.notType
  have h2 := F.called_set.canCreate
  have hct := F.typeCall_set_1 (.ref l)
  repeat (any_goals (first | assumption | wp_step))

  refine codeAny_mono (code_set_led1 (.ref l) (E := E) (Q₁ := fun obj s₁ => obj = .ref s.heap.objs.size ∧ s₁ = { s with heap := s.heap.push { cls := .type "set", dict := none, data := .set #[] 0 (.fresh 0 0 (!w.params.followText "set-order")) } }) ⟨rfl, rfl⟩) fun r s₁ hr => ?_
  cases r with
  | error e => exact hr
  | ok fl =>
    cases fl with
    | ret obj =>
      obtain ⟨rfl, rfl⟩ := hr
      have hS : (s.heap.push { cls := .type "set", dict := none, data := .set #[] 0 (.fresh 0 0 (!w.params.followText "set-order")) }).get? s.heap.objs.size = some { cls := .type "set", dict := none, data := .set #[] 0 (.fresh 0 0 (!w.params.followText "set-order")) } := Heap.get?_push_size _ rfl
      have hT : Shared.TypeIs { s with heap := s.heap.push { cls := .type "set", dict := none, data := .set #[] 0 (.fresh 0 0 (!w.params.followText "set-order")) } } (.ref s.heap.objs.size) "set" := ⟨_, hS, rfl⟩
      have hli := F.called_set.init.lookup
      have hbi := F.called_set.init.bind (.ref s.heap.objs.size)
      repeat (any_goals (first | assumption | wp_step))

      refine codeAny_mono (codeAny_call_builtin (R := wants (fun r s₂ => r = .none ∧ ∃ h' tk c, s₂ = { s with heap := h', toks := tk } ∧ SetR w h' s.heap.objs.size (fun j => decide (j ∈ ns)) c ∧ c ≤ ns.length ∧
          (∀ b o, s.heap.get? b = some o → h'.get? b = some o)) E) F.called_set.init.plain F.entry_set_init (check_set_init_1 hT ?_)) fun r₂ s₂ hr₂ => ?_
      · obtain ⟨ol, hol, hcl, nl, hdl⟩ := hl
        obtain ⟨ocls, odict, odata, oslots⟩ := ol
        simp only at hcl hdl
        subst hcl; subst hdl
        have hol' : (s.heap.push { cls := .type "set", dict := none, data := .set #[] 0 (.fresh 0 0 (!w.params.followText "set-order")) }).get? l = some { cls := .type "list", dict := odict, data := .seq items nl, slots := oslots } := Heap.get?_push_of_some _ hol
        have hsls := F.sub_list_set
        have hslf := F.sub_list_frozenset
        have hne : (Value.type "list" == Value.type "dict") = false := by decide
        have hl1 : (s.heap.push { cls := .type "set", dict := none, data := .set #[] 0 (.fresh 0 0 (!w.params.followText "set-order")) }).IsList l items := ⟨_, hol', rfl, nl, rfl⟩
        unfold Builtin.«set.__init__» noKeywords Builtin.Frozenset.updateFrom
        generalize hPI : pyIter = PI
        wp_walk
        subst hPI

        refine wpAny_pyIter_list hl1 ?_
        refine wpAny_bind (wpAny_runValue ?_)
        have hlS : l < s.heap.objs.size := Heap.lt_size hol
        have hh3 : A.in1.in1.in1.handled = none := by simp [hh]
        have hz1 : (s.heap.push { cls := .type "set", dict := none, data := .set #[] 0 (.fresh 0 0 (!w.params.followText "set-order")) }).objs.size = s.heap.objs.size + 1 := Heap.size_push ..
        have hneI : l ≠ (s.heap.push { cls := .type "set", dict := none, data := .set #[] 0 (.fresh 0 0 (!w.params.followText "set-order")) }).objs.size := by
          rw [Heap.size_push]; exact Nat.ne_of_lt (Nat.lt_succ_of_lt hlS)
        have hSf : s.heap.objs.size ∉ [(s.heap.push { cls := .type "set", dict := none, data := .set #[] 0 (.fresh 0 0 (!w.params.followText "set-order")) }).objs.size, l] := by
          rw [Heap.size_push]; simp only [List.mem_cons, List.mem_singleton, List.not_mem_nil, or_false, not_or]
          exact ⟨Nat.ne_of_lt (Nat.lt_succ_self _), Nat.ne_of_gt hlS⟩
        have hval : ∀ (i : Nat) (v : Value), items[i]? = some v → ∃ k t, ns[i]? = some k ∧ v = .int k t := fun i v hv => by
          have hi : i < ns.length := by rw [← hisz]; exact (Array.getElem?_eq_some_iff.mp hv).1
          obtain ⟨t, e⟩ := PyProof.Rows.IntsAre.int_at hit i v (by rw [Array.getElem?_toList]; exact hv)
          refine ⟨ns[i], t, List.getElem?_eq_getElem hi, ?_⟩
          rw [e, List.getD_eq_getElem?_getD, List.getElem?_eq_getElem hi] <;> rfl
        refine set_update_ints ((Walks.list hh3 _ l hneI items).toS) s.heap.objs.size
          hSf ns hisz hb hval (items.size - 0) 0 _ (by omega) (Nat.zero_le _)
          ⟨⟨_, Heap.get?_push_size _ rfl, rfl, rfl⟩, (hl1.push _)⟩ ?hS0 ?hR
        case hS0 =>
          have hget : ((s.heap.push { cls := .type "set", dict := none, data := .set #[] 0 (.fresh 0 0 (!w.params.followText "set-order")) }).push { cls := .type "list_iterator", data := .fields #[.ref l, .int 0 0] }).get? s.heap.objs.size
              = some { cls := .type "set", dict := none, data := .set #[] 0 (.fresh 0 0 (!w.params.followText "set-order")) } := Heap.get?_push_of_some _ hS
          exact ⟨0, Nat.le_refl 0, setR_new_at hget⟩
        case hR =>
          intro s' c' hm hc' hS'
          obtain ⟨h', g2, d', tk', os'⟩ := s'
          have eg : g2 = s.gens := hm.gens
          have ed : d' = s.drawn := hm.drawn
          have eo : os' = s.os := hm.os
          subst eg; subst ed; subst eo
          show wpAny _ _ _ _ _ _
          refine wpAny_pure ?_
          show wpAny _ _ (ret Value.none) _ _ _
          rw [hisz] at hc'
          refine wpAny_pure ⟨rfl, h', tk', c', rfl, hS', hc', fun b o e => ?_⟩
          have hb0 : b < s.heap.objs.size := Heap.lt_size e
          have hb1 : b ≠ s.heap.objs.size := Nat.ne_of_lt hb0
          have hb2 : b ≠ (s.heap.push { cls := .type "set", dict := none, data := .set #[] 0 (.fresh 0 0 (!w.params.followText "set-order")) }).objs.size := by
            rw [Heap.size_push]; exact Nat.ne_of_lt (Nat.lt_succ_of_lt hb0)
          exact hm.heap b o (by simp only [List.mem_cons, List.mem_singleton, List.not_mem_nil, or_false, not_or]; exact ⟨hb1, hb2⟩) (Heap.get?_push_of_some _ (Heap.get?_push_of_some _ e))

      · cases r₂ with
        | error e => exact hr₂
        | ok fl₂ =>
          cases fl₂ with
          | ret r =>
            obtain ⟨rfl, h', tk, c', rfl, hS', hc', hk'⟩ := hr₂
            repeat (any_goals (first | assumption | wp_step))
            exact h _ _ _ hS' hc' hk'
          | _ => exact hr₂.elim
    | _ => exact hr.elim

end
theorem eraseDups_nodup : ∀ (n : Nat) (l : List Int), l.length ≤ n → l.eraseDups.Nodup
  | _, [], _ => by simp [List.eraseDups]
  | n + 1, x :: l, h => by
    rw [List.eraseDups_cons]
    refine List.nodup_cons.mpr ⟨fun m => ?_, eraseDups_nodup n _ (Nat.le_trans (List.length_filter_le _ _) (Nat.le_of_succ_le_succ h))⟩
    have := (List.mem_filter.mp (List.mem_eraseDups.mp m)).2
    simp at this
theorem setOfI_mem {l : List Int} {k : Int} : k ∈ setOfI l ↔ k ∈ l := by
  unfold setOfI
  rw [List.mem_mergeSort, List.mem_eraseDups]
theorem setOfI_nodup (l : List Int) : (setOfI l).Nodup := (List.mergeSort_perm _ _).nodup_iff.mpr (eraseDups_nodup l.length l (Nat.le_refl _))
theorem setOfI_asc (l : List Int) : (setOfI l).Pairwise (· < ·) := by
  refine lt_of_le_nodup _ ?_ (setOfI_nodup l)
  have := List.pairwise_mergeSort (le := fun a b : Int => decide (a ≤ b)) (fun a b c h1 h2 => by simp at *; omega) (fun a b => by simp; omega) l.eraseDups
  exact this.imp fun h => of_decide_eq_true h
theorem asc_eq : ∀ {l m : List Int}, l.Pairwise (· < ·) → m.Pairwise (· < ·) → (∀ k, k ∈ l ↔ k ∈ m) → l = m
  | [], [], _, _, _ => rfl
  | [], y :: m, _, _, h => absurd ((h y).mpr List.mem_cons_self) (by simp)
  | x :: l, [], _, _, h => absurd ((h x).mp List.mem_cons_self) (by simp)
  | x :: l, y :: m, p, q, h => by
    obtain ⟨p1, p2⟩ := List.pairwise_cons.mp p
    obtain ⟨q1, q2⟩ := List.pairwise_cons.mp q
    have e : x = y := by
      have a : x = y ∨ x ∈ m := List.mem_cons.mp ((h x).mp List.mem_cons_self)
      have b : y = x ∨ y ∈ l := List.mem_cons.mp ((h y).mpr List.mem_cons_self)
      rcases a with a | a
      · exact a
      · rcases b with b | b
        · exact b.symm
        · have := q1 x a
          have := p1 y b
          omega
    subst e
    rw [asc_eq p2 q2 fun k => ?_]
    constructor
    · intro hk
      rcases List.mem_cons.mp ((h k).mp (List.mem_cons_of_mem _ hk)) with e | m
      · have := p1 k hk; omega
      · exact m
    · intro hk
      rcases List.mem_cons.mp ((h k).mpr (List.mem_cons_of_mem _ hk)) with e | m
      · have := q1 k hk; omega
      · exact m
theorem len_of_nodup {l m : List Int} (hl : l.Nodup) (hm : m.Nodup) (h : ∀ k, k ∈ l ↔ k ∈ m) : l.length = m.length := by
  have srt : ∀ x : List Int, x.Nodup → (x.mergeSort fun a b => decide (a ≤ b)).Pairwise (· < ·) := fun x hx => by
    refine lt_of_le_nodup _ ?_ ((List.mergeSort_perm _ _).nodup_iff.mpr hx)
    have := List.pairwise_mergeSort (le := fun a b : Int => decide (a ≤ b)) (fun a b c h1 h2 => by simp at *; omega) (fun a b => by simp; omega) x
    exact this.imp fun h => of_decide_eq_true h
  rw [← List.length_mergeSort (le := fun a b : Int => decide (a ≤ b)) l, ← List.length_mergeSort (le := fun a b : Int => decide (a ≤ b)) m, asc_eq (srt l hl) (srt m hm) fun k => by rw [List.mem_mergeSort, List.mem_mergeSort]; exact h k]
theorem ite_okP {α : Type} {c : Prop} [Decidable c] {a : Res α} {w : α} (h : (if c then a else Res.bad) = .ok w) : c ∧ a = .ok w := by
  by_cases hc : c
  · rw [if_pos hc] at h; exact ⟨hc, h⟩
  · rw [if_neg hc] at h; cases h
theorem Rzs.of_ints {T : TX} {F : Hp} : ∀ (ns : List Int), Rzs T F (ns.map D.int) (ns.map V.int)
  | [] => rfl
  | n :: ns => ⟨_, _, rfl, rfl, Rzs.of_ints ns⟩
def tLenSet (T : PySem.W.Frag) (ta : TE) : TE := fun σ H Q => ta σ H fun x H1 => ∃ (l : Addr) (ns : List Int), x = .ref l ∧ SqL T H1 l (ns.map V.int) ∧ ns.length ≤ 4000 ∧ Q (.int ((setOfI ns).length : Nat)) H1
theorem setLen {w : World} {h : Heap} {a : Addr} {ns : List Int} {c : Nat} (R : SetR w h a (fun j => decide (j ∈ ns)) c) : c = (setOfI ns).length := by
  obtain ⟨o, es, ep, t, ho, hex, hd, g, nd, hm, hb, hf, hn, hr, hl⟩ := R
  have h1 : (es.toList.map keyOf).length = c := by rw [List.length_map, Array.length_toList]; exact hn
  rw [← h1]
  exact len_of_nodup nd (setOfI_nodup ns) fun k => by rw [← hm k, setOfI_mem]; simp
section
variable {X : Cx} {a : Expr} {ta : TE} {p p2 q pos : Pos}
theorem pe_lenSet (hg : Gl X "len") (hm : X.mg "len" = none) (hg2 : Gl X "set") (hm2 : X.mg "set" = none) (ha : PE X a ta) (hc : X.calm = true)
    (na : starEach [a] X.env = (false, eval a X.env) :: starEach [] X.env) : PE X (.Call (.Name "len" p) [.Call (.Name "set" p2) [a] [] q] [] pos) (tLenSet X.K ta) := by
  refine ⟨fun pins s σ H Q I h => ?_⟩
  refine Call_ (ld_blt I hg hm boot_len ?_)
  refine PyProof.Rows.callWith_builtin1 (PyProof.Rows.args_cons ?_ rfl) rfl rfl
  refine Call_ (ld_blt I hg2 hm2 boot_set ?_)
  refine PyProof.Rows.callWith_type1 (PyProof.Rows.args_cons (thn (ha.run pins s σ H _ I h) fun v s1 ⟨x, H1, I1, r1, q1⟩ => PyProof.Rows.args_nil ?_) na) na rfl
  obtain ⟨l, ns, rfl, hq, hl, q1⟩ := q1
  cases r1
  obtain ⟨its, r, pl, hz⟩ := I1.list hq
  refine call_set_lstI ns (I1.ok.hd hc) pl.isList (by simpa using RZ.intsAre_vals r) (by unfold scanBound; omega) fun h' tk c hS hcl hk => ?_
  refine PyProof.Rows.args_nil ?_
  have ec := setLen hS
  obtain ⟨o, es, ep, t, ho, hex, hd, _, _, _, _, hf, hn, _, _⟩ := hS
  have I2 : Inv X pins σ H1 { s1 with heap := h', toks := tk } := I1.kept hk
  exact call_len_set ho hex hd hf (by rw [hn] <;> omega) ⟨.int (setOfI ns).length, H1, I2.tok _, ⟨_, by rw [hn, ec]⟩, q1⟩
def tSortedSet (T : PySem.W.Frag) (ta : TE) : TE := fun σ H Q => ta σ H fun x H1 => ∃ (l : Addr) (ns : List Int), x = .ref l ∧ SqL T H1 l (ns.map V.int) ∧ ns.length ≤ 4000 ∧ (setOfI ns).length < 64 ∧ ∀ p, H1 p = none → Q (.ref p) (upd H1 p (.lst ((setOfI ns).map V.int)))
theorem pe_sortedSet (hg : Gl X "sorted") (hm : X.mg "sorted" = none) (hg2 : Gl X "set") (hm2 : X.mg "set" = none) (ha : PE X a ta) (hc : X.calm = true)
    (na : starEach [a] X.env = (false, eval a X.env) :: starEach [] X.env) : PE X (.Call (.Name "sorted" p) [.Call (.Name "set" p2) [a] [] q] [] pos) (tSortedSet X.K ta) := by
  refine ⟨fun pins s σ H Q I h => ?_⟩
  refine Call_ (ld_blt I hg hm boot_sorted ?_)
  refine PyProof.Rows.callWith_builtin1 (PyProof.Rows.args_cons ?_ rfl) rfl rfl
  refine Call_ (ld_blt I hg2 hm2 boot_set ?_)
  refine PyProof.Rows.callWith_type1 (PyProof.Rows.args_cons (thn (ha.run pins s σ H _ I h) fun v s1 ⟨x, H1, I1, r1, q1⟩ => PyProof.Rows.args_nil ?_) na) na rfl
  obtain ⟨l, ns, rfl, hq, hl, h64, q1⟩ := q1
  cases r1
  obtain ⟨its, r, pl, hz⟩ := I1.list hq
  refine call_set_lstI ns (I1.ok.hd hc) pl.isList (by simpa using RZ.intsAre_vals r) (by unfold scanBound; omega) fun h' tk c hS hcl hk => ?_
  refine PyProof.Rows.args_nil ?_
  have ec := setLen hS
  have I2 : Inv X pins σ H1 { s1 with heap := h', toks := tk } := I1.kept hk
  refine sorted_set hS (I2.ok.hd hc) (by omega) fun s' p out c' ms k g o hp hgt hi hs hm' hlen' => ?_
  have em : ms = setOfI ns := asc_eq hs (setOfI_asc ns) fun k => by rw [hm' k, setOfI_mem]; simp
  subst em
  have hlen : ((setOfI ns).map V.int).length ≤ sizeLine := by rw [List.length_map, sizeLine_eq]; omega
  have hn : H1 p = none := I2.hok.fresh hp
  have J : Inv X pins σ (upd H1 p (.lst ((setOfI ns).map V.int))) { s1 with heap := s'.heap, gens := s'.gens, drawn := s'.drawn, toks := s'.toks } :=
    I2.call (s := { s1 with heap := h', toks := tk }) (ch := []) (Un.laid k hp hn) (I2.hok.laid k hp ⟨hlen, out.toList, c', vals_of_ints hi, hgt⟩) (by rw [g]; exact I2.bare) (fun _ z => nomatch z)
  have e : s' = { s1 with heap := s'.heap, gens := s'.gens, drawn := s'.drawn, toks := s'.toks } := by
    cases s'
    cases s1
    cases o
    rfl
  rw [e]
  exact ⟨.ref p, _, J, rfl, q1 p hn⟩
end
section
variable {A : Amb} {S : SC} {X : Cx} {a b c e : Expr} {pos p p2 q apos : Pos} {T : TX} {F H : Hp}
theorem pv_lenSet (hg : glob S "len" = true) (hm : A.T.mg "len" = none) (hg2 : glob S "set" = true) (hm2 : A.T.mg "set" = none) (hn : noStar a = true) : PrimV A S .lenSet (.Call (.Name "len" p) [.Call (.Name "set" p2) [a] [] q] [] pos) [a] := PrimV.mk (fun ts z X g => by
  obtain ⟨t, rfl, h1⟩ := z.one
  refine pe_imp (pe_lenSet (glob_ok g hg) (by rw [g.mg]; exact hm) (glob_ok g hg2) (by rw [g.mg]; exact hm2) (pe_mono (h1 X g)) g.calm (star_ok hn)) fun σ H Q h => ⟨_, h, fun x H1 r => ?_⟩
  obtain ⟨ds, F, w, ln, h, hs, q, k⟩ := r
  obtain ⟨d, rfl⟩ := len1 ln
  obtain ⟨v, ev, p1⟩ := q.one
  cases ev
  cases d with
  | lst l =>
    have h : (match ints? l with | some ns => if l.length ≤ 1000 then rI (setOfI ns).length else .bad | none => .bad) = Res.ok w := h
    cases e : ints? l with
    | none => rw [e] at h; cases h
    | some ns =>
      rw [e] at h
      obtain ⟨z1, h⟩ := ite_okP (show (if l.length ≤ 1000 then rI (setOfI ns).length else .bad) = .ok w from h)
      cases h
      cases ints?_ok e
      obtain ⟨a, xs, rfl, q1, r1⟩ := p1.lst hs
      cases Rzs.ints r1
      rw [List.length_map] at z1
      exact ⟨a, ns, rfl, .inl (.inl q1), by omega, k _ F H1 (Nw.fzI hs _)⟩
  | _ => cases h) rfl
theorem pv_sortedSet (hg : glob S "sorted" = true) (hm : A.T.mg "sorted" = none) (hg2 : glob S "set" = true) (hm2 : A.T.mg "set" = none) (hn : noStar a = true) : PrimV A S .sortedSet (.Call (.Name "sorted" p) [.Call (.Name "set" p2) [a] [] q] [] pos) [a] := PrimV.mk (fun ts z X g => by
  obtain ⟨t, rfl, h1⟩ := z.one
  refine pe_imp (pe_sortedSet (glob_ok g hg) (by rw [g.mg]; exact hm) (glob_ok g hg2) (by rw [g.mg]; exact hm2) (pe_mono (h1 X g)) g.calm (star_ok hn)) fun σ H Q h => ⟨_, h, fun x H1 r => ?_⟩
  obtain ⟨ds, F, w, ln, h, hs, q, k⟩ := r
  obtain ⟨d, rfl⟩ := len1 ln
  obtain ⟨v, ev, p1⟩ := q.one
  cases ev
  cases d with
  | lst l =>
    have h : (match ints? l with | some ns => if (decide (l.length ≤ 1000) && decide ((setOfI ns).length < 64)) = true then .ok (.own ((setOfI ns).map D.int)) else .bad | none => .bad) = Res.ok w := h
    cases e : ints? l with
    | none => rw [e] at h; cases h
    | some ns =>
      rw [e] at h
      obtain ⟨z1, h⟩ := ite_ok (show (if (decide (l.length ≤ 1000) && decide ((setOfI ns).length < 64)) = true then Res.ok (Val.own ((setOfI ns).map D.int)) else .bad) = .ok w from h)
      obtain ⟨z1, z2⟩ := Bool.and_eq_true_iff.mp z1
      have z1 := of_decide_eq_true z1
      cases h
      cases ints?_ok e
      obtain ⟨a, xs, rfl, q1, r1⟩ := p1.lst hs
      cases Rzs.ints r1
      rw [List.length_map] at z1
      exact ⟨a, ns, rfl, .inl (.inl q1), by omega, of_decide_eq_true z2, fun p hp => k _ _ _ (Nw.lst hs (Rzs.of_ints _) hp)⟩
  | _ => cases h) rfl
end
end Rx

set_option Elab.async false
set_option linter.all false
set_option autoImplicit false
set_option maxRecDepth 100000
namespace Rx
open PySem L2
open PySem.Spec
open PyProof.Rows
section
variable {prog : Program} {w : World} {A : Around} {E : Value → Shared → Prop} {s : Shared}
/-- the items of a list or a tuple, collected -/
theorem collectT {l : Addr} {vs : List Value} {o : Obj} {n : Nat} {T : String} {Q : List Value → Shared → Prop} (ho : s.heap.get? l = some o) (hc : o.cls = .type T) (hT : T = "list" ∨ T = "tuple") (hd : o.data = .seq vs.toArray n)
    (h : Q vs { s with heap := (s.heap.push (seqObj "list" #[] 0)).update s.heap.objs.size (Obj.mapSeq (· ++ vs.toArray)) }) (hsz : vs.length ≤ sizeLine) :
    wpAny (model prog w) A (collect (.ref l)) Q E s := by
  unfold collect
  refine wpAny_bind (wpAny_runValue (codeAny_builtin entry_proto_collect' ?_))
  show wpAny _ _ (do again (.builtin "list.__iadd__" ⟨[← newList [], .ref l], []⟩)) _ _ s
  refine wpAny_bind (wpAny_newList (wpAny_pure ⟨Code.quiet_builtin _ (by decide +kernel), codeAny_builtin entry_list_iadd' ?_⟩))
  show wpAny _ _ (Builtin.List.listExtendWith (.ref s.heap.objs.size) (.ref l) (.ref s.heap.objs.size)) _ _ { s with heap := s.heap.push (seqObj "list" #[] 0) }
  unfold Builtin.List.listExtendWith
  have ho' : (s.heap.push (seqObj "list" #[] 0)).get? l = some o := Heap.get?_push_of_some _ ho
  refine wpAny_bind (wpAny_typeOf (T := T) ⟨o, ho', hc⟩ ?_)
  rw [if_pos (by rcases hT with rfl | rfl <;> simp)]
  refine wpAny_bind (listItems_at ho' hd ?_)
  refine wpAny_bind (listItems_at (xs := #[]) (n := 0) (Heap.get?_push_size _ rfl) rfl ?_)
  rw [if_neg (by simp)]
  refine wpAny_bind (listUpdate_at (xs := #[]) (n := 0) (Heap.get?_push_size _ rfl) rfl ?_ (Nat.zero_le _) (by show (#[] ++ vs.toArray).size ≤ sizeLine + 1; simp only [Array.size_append, List.size_toArray, List.length_nil]; omega))
  refine wpAny_pure ?_
  show wpAny (model prog w) A (do
      let o ← load s.heap.objs.size
      match o.data with
      | .seq xs _ => pure xs.toList
      | _ => unsupported "internal:collect") Q E { s with heap := (s.heap.push (seqObj "list" #[] 0)).update s.heap.objs.size (Obj.mapSeq (· ++ vs.toArray)) }
  refine wpAny_bind (wpAny_load (get?_update_seq (Heap.get?_push_size _ rfl) _) ?_)
  show wpAny _ _ (pure ((#[] : Array Value) ++ vs.toArray).toList) Q E _
  rw [show ((#[] : Array Value) ++ vs.toArray).toList = vs by simp]
  exact wpAny_pure h
theorem sortedT {l : Addr} {vs : List Value} {o : Obj} {n : Nat} {T : String} {κ : PyProof.Rows.KeyKind} {Q : Value → Shared → Prop} (ho : s.heap.get? l = some o) (hc : o.cls = .type T) (hT : T = "list" ∨ T = "tuple") (hd : o.data = .seq vs.toArray n)
    (S : PySem.W.SortsAt prog w A.in1.in1 { s with heap := PySem.W.sortingHeap (PySem.W.copyHeap s.heap vs) (s.heap.objs.size + 1) vs } κ vs) (hL : vs.length ≤ sizeLine)
    (h : Q (.ref (s.heap.objs.size + 1)) { s with heap := sortedAll s.heap vs (PySem.W.sortVals κ false vs vs).toArray }) : wpAny (model prog w) A (call (.builtin "sorted") [.ref l]) Q E s := by
  refine PySem.Calls.call_function_entry kind_sorted plain_sorted entry_sorted (args_sorted1 _) ?_
  unfold Builtin.«sorted»
  refine wpAny_bind (m := checkCount "sorted" 1 1 _) (wpAny_pure ?_)
  refine wpAny_bind (collectT ho hc hT hd ?_ hL)
  refine wpAny_bind (wpAny_newList ?_ hL)
  have hsz : ((s.heap.push (seqObj "list" #[] 0)).update s.heap.objs.size (Obj.mapSeq (· ++ vs.toArray))).objs.size = s.heap.objs.size + 1 := by
    rw [Heap.size_update, size_push']
  show wpAny _ _ _ _ _ { s with heap := PySem.W.copyHeap s.heap vs }
  rw [hsz]
  refine wpAny_bind (wpAny_holding (wpAny_call_entry slot_list_sort ⟨_, PySem.W.copyHeap_at s.heap vs, rfl⟩ entry_list_sort ?body (args_list_sort _)))
  case body =>
    show wpAny (model prog w) A.in1.in1 (Builtin.«list.sort» ⟨[.ref (s.heap.objs.size + 1)], []⟩) _ _ _
    refine wpAny_mono (PySem.W.list_sort_vals (P := fun f s' => f = .done (.ret .none) ∧ Q (.ref (s.heap.objs.size + 1)) s') (s := { s with heap := PySem.W.copyHeap s.heap vs }) (PySem.W.copyHeap_at s.heap vs) S hL ⟨rfl, h⟩) (fun f s' hf => ?_) fun _ _ e => e
    obtain ⟨rfl, hq⟩ := hf
    exact ⟨_, rfl, wpAny_pure ⟨_, rfl, hq⟩⟩
/-- sorted of what `collect` walks -/
theorem sortedC {u : Value} {P : List Value → Heap → Nat → Prop} {Q : Value → Shared → Prop}
    (hcol : ∀ (R : List Value → Shared → Prop) (E' : Value → Shared → Prop), (∀ vs h' tk, P vs h' tk → R vs { s with heap := h', toks := tk }) → wpAny (model prog w) A.in1 (collect u) R E' s)
    (h : ∀ vs h' tk, P vs h' tk → vs.length ≤ sizeLine ∧ ∃ κ, PySem.W.SortsAt prog w A.in1.in1 { s with heap := PySem.W.sortingHeap (h'.push (seqObj "list" vs.toArray 0)) h'.objs.size vs, toks := tk } κ vs ∧
      Q (.ref h'.objs.size) { s with heap := sortedHeap (h'.push (seqObj "list" vs.toArray 0)) h'.objs.size vs (PySem.W.sortVals κ false vs vs).toArray, toks := tk }) :
    wpAny (model prog w) A (call (.builtin "sorted") [u]) Q E s := by
  refine PySem.Calls.call_function_entry kind_sorted plain_sorted entry_sorted (args_sorted1 _) ?_
  unfold Builtin.«sorted»
  refine wpAny_bind (m := checkCount "sorted" 1 1 _) (wpAny_pure ?_)
  refine wpAny_bind (hcol _ _ fun vs h' tk hp => ?_)
  obtain ⟨hL, κ, S, hq⟩ := h vs h' tk hp
  refine wpAny_bind (wpAny_newList ?_ hL)
  have hoL : (h'.push (seqObj "list" vs.toArray 0)).get? h'.objs.size = some (seqObj "list" vs.toArray 0) := Heap.get?_push_size _ rfl
  show wpAny _ _ _ _ _ { s with heap := h'.push (seqObj "list" vs.toArray 0), toks := tk }
  refine wpAny_bind (wpAny_holding (wpAny_call_entry slot_list_sort ⟨_, hoL, rfl⟩ entry_list_sort ?body (args_list_sort _)))
  case body =>
    show wpAny (model prog w) A.in1.in1 (Builtin.«list.sort» ⟨[.ref h'.objs.size], []⟩) _ _ _
    refine wpAny_mono (PySem.W.list_sort_vals (P := fun f s' => f = .done (.ret .none) ∧ Q (.ref h'.objs.size) s') (s := { s with heap := h'.push (seqObj "list" vs.toArray 0), toks := tk }) hoL S hL ⟨rfl, hq⟩) (fun f s' hf => ?_) fun _ _ e => e
    obtain ⟨rfl, hq⟩ := hf
    exact ⟨_, rfl, wpAny_pure ⟨_, rfl, hq⟩⟩
end
section
variable {A : Amb} {S : SC} {X : Cx} {a b c e : Expr} {es : List Expr} {ta tb : TE} {pos p p2 apos : Pos} {ts : List TE} {T : TX} {F H : Hp}
def RV (T : TX) (F : Hp) (v : Value) (d : D) : Prop := ∃ x, RelV x v ∧ Rz T F d x
theorem each_of : ∀ {l : List D} {xs : List V} {vs : List Value}, Rzs T F l xs → Vals xs vs → PySem.W.EachIs (RV T F) vs l
  | [], _, _, h, r => by
    cases (show _ = ([] : List V) from h)
    cases r
    exact .nil
  | d :: l, _, _, h, r => by
    obtain ⟨x, xs, rfl, h1, h2⟩ := h
    cases r with
    | cons r1 r2 => exact .cons ⟨x, r1, h1⟩ (each_of h2 r2)
theorem of_each : ∀ {l : List D} {vs : List Value}, PySem.W.EachIs (RV T F) vs l → ∃ xs, Rzs T F l xs ∧ Vals xs vs
  | _, _, .nil => ⟨[], rfl, .nil⟩
  | _, _, .cons ⟨x, r1, h1⟩ t => by
    obtain ⟨xs, h2, r2⟩ := of_each t
    exact ⟨x :: xs, ⟨x, xs, rfl, h1, h2⟩, .cons r1 r2⟩
theorem fits_mem : ∀ {l : List D} {n : Nat} {d : D}, D.fits n l = true → d ∈ l → d.fit n = true
  | d :: l, n, d', h, m => by
    have h : (d.fit n && D.fits n l) = true := by simpa [D.fits] using h
    obtain ⟨h1, h2⟩ := Bool.and_eq_true_iff.mp h
    rcases List.mem_cons.mp m with e | m
    · rw [e]; exact h1
    · exact fits_mem h2 m
theorem each_reads {pins : List (Addr × Obj)} {σ : L2.St} {s : Shared} (hK : X.K = T.K) (I : Inv X pins σ H s) (hs : Sub F H) : ∀ {l : List D} {vs : List Value}, PySem.W.EachIs (RV T F) vs l → D.fits 40 l = true → PySem.W.EachIs (fun v d => ∃ as, Reads s.heap v (D.py d) as) vs l
  | _, _, .nil, _ => .nil
  | d :: l, _, .cons ⟨x, r1, h1⟩ t, h => by
    have h : (d.fit 40 && D.fits 40 l) = true := by simpa [D.fits] using h
    obtain ⟨f1, f2⟩ := Bool.and_eq_true_iff.mp h
    exact .cons (Dp.reads I d.py x _ (by rw [hK]; exact dp_of hs d 40 x h1 f1) r1) (each_reads hK I hs t f2)
theorem sortable_ok {l : List D} (hso : sortable l = true) : D.fits 40 l = true ∧ PySem.W.AllAlike (l.map D.py) ∧ PySem.W.Sortable (l.map D.py) ∧ l.length ≤ SL := by
  unfold sortable at hso
  obtain ⟨hso, z4⟩ := Bool.and_eq_true_iff.mp hso
  obtain ⟨hso, z3⟩ := Bool.and_eq_true_iff.mp hso
  obtain ⟨z1, z2⟩ := Bool.and_eq_true_iff.mp hso
  have z4 := of_decide_eq_true z4
  refine ⟨z1, fun d hd d' hd' => ?_, ?_, z4⟩
  · obtain ⟨a, ha, rfl⟩ := List.mem_map.mp hd
    obtain ⟨b, hb, rfl⟩ := List.mem_map.mp hd'
    exact (List.all_eq_true.mp (List.all_eq_true.mp z2 a ha) b hb)
  · rcases (Bool.or_eq_true _ _).mp z3 with z | z
    · refine .inl fun d hd => ?_
      obtain ⟨a, ha, rfl⟩ := List.mem_map.mp hd
      have := List.all_eq_true.mp z a ha
      cases a with
      | tup m =>
        cases m with
        | nil => cases this
        | cons x r => exact ⟨x.py, D.pys r, rfl⟩
      | _ => cases this
    · refine .inr fun d hd => ?_
      obtain ⟨a, ha, rfl⟩ := List.mem_map.mp hd
      have := List.all_eq_true.mp z a ha
      cases a with
      | tup m => cases this
      | non => cases this
      | _ => exact ⟨nofun, nofun⟩
/-- the items collected: sorted answers a new list of them -/
theorem sortedCollected {pins : List (Addr × Obj)} {σ : L2.St} {s : Shared} {F' : Hp} {l : List D} {u : Value} {Q : VK} (hK : X.K = T.K) (hu : X.A.units + 64 < cLine) (I : Inv X pins σ H s) (hs : Sub F' H) (hso : sortable l = true)
    (hcol : ∀ (R : List Value → Shared → Prop) (E' : Value → Shared → Prop), (∀ (h' : Heap) (tk : Nat) (vs : List Value) (ys : List V), (∀ b o, s.heap.get? b = some o → h'.get? b = some o) → Vals ys vs → Rzs T F' l ys → R vs { s with heap := h', toks := tk }) → wpAny (model X.prog X.w) X.A.in1 (collect u) R E' s)
    (k : ∀ (p : Addr) (zs : List V), H p = none → Rzs T F' (sortD l) zs → Q (.ref p) (upd H p (.lst zs))) : wpAny (model X.prog X.w) X.A (call (.builtin "sorted") [u]) (EP X pins σ Q) X.xe s := by
  obtain ⟨z1, hal, hk, z4⟩ := sortable_ok hso
  refine sortedC (P := fun vs h' _ => (∀ b o, s.heap.get? b = some o → h'.get? b = some o) ∧ ∃ ys, Vals ys vs ∧ Rzs T F' l ys) (fun R E' h => hcol R E' fun h' tk vs ys k1 k2 k3 => h vs h' tk ⟨k1, ys, k2, k3⟩) fun its h' tk ⟨hkeep, ys, hv, hr⟩ => ?_
  have I1 : Inv X pins σ H { s with heap := h', toks := tk } := I.kept hkeep
  have e := each_of hr hv
  have er := each_reads hK I1 hs e z1
  have hL : its.length ≤ sizeLine := by rw [e.length, ← SL_line]; exact z4
  have hoL : (h'.push (seqObj "list" its.toArray 0)).get? h'.objs.size = some (seqObj "list" its.toArray 0) := Heap.get?_push_size _ rfl
  have old : ∀ b o, h'.get? b = some o → (PySem.W.sortingHeap (h'.push (seqObj "list" its.toArray 0)) h'.objs.size its).get? b = some o := fun b o e => PySem.W.sortingHeap_old (Nat.ne_of_lt (Heap.lt_size e)) (Heap.get?_push_of_some _ e)
  have er' : PySem.W.EachIs (fun v d => ∃ as, Reads (PySem.W.sortingHeap (h'.push (seqObj "list" its.toArray 0)) h'.objs.size its) v (D.py d) as) its l := er.mono fun _ _ ⟨as, r⟩ => ⟨as, PyProof.Rows.Reads.keeps (fun b o e => old b o e) r⟩
  refine ⟨hL, _, PySem.W.SortsAt.data (s := { s with heap := PySem.W.sortingHeap (h'.push (seqObj "list" its.toArray 0)) h'.objs.size its, toks := tk }) (PySem.W.each_map (R := fun v d => ∃ as, Reads (PySem.W.sortingHeap (h'.push (seqObj "list" its.toArray 0)) h'.objs.size its) v d as) D.py er') hal hk (PySem.W.bound_map fun b hb => ?_), ?_⟩
  · have := (plain_of b 40 (fits_mem z1 hb)).2
    show X.A.units + 1 + 1 + b.py.depth < cLine
    omega
  · have out := PySem.W.sortVals_data false e er' hal
    have e2 : l.mergeSort (PySem.W.dataLe false D.py) = sortD l := rfl
    rw [e2] at out
    obtain ⟨zs, rz, vz⟩ := of_each out
    obtain ⟨ep, he⟩ := sortedHeap_at (vs := its) (out := (PySem.W.sortVals (PySem.W.dataKind (PySem.W.sortingHeap (h'.push (seqObj "list" its.toArray 0)) h'.objs.size its) (l.map D.py)) false its its).toArray) hoL
    refine ⟨.ref _, upd H h'.objs.size (.lst zs), I1.laid (t' := tk) (fun b o e => ?_) (Nat.le_refl _) ⟨?_, _, ep, vz, he⟩, rfl, k _ _ (I1.hok.fresh (Nat.le_refl _)) rz⟩
    · have hb : b < h'.objs.size := Heap.lt_size e
      rw [sortedHeap_old (Nat.ne_of_lt hb) (by rw [size_push']; exact Nat.lt_succ_of_lt hb)]
      exact Heap.get?_push_of_some _ e
    · rw [← rz.len, show (sortD l).length = l.length from List.length_mergeSort _, ← SL_line]
      exact z4
theorem c_sorted (hc : X.calm = true) (hK : X.K = T.K) (hu : X.A.units + 64 < cLine) : CallR X (.builtin "sorted") (rP T .sorted) := fun pins s σ H xs us Q I rx h => by
  obtain ⟨d, x, F, w, rfl, h, hs, q, k⟩ := rP_ar1 rfl h
  obtain ⟨u, rfl, ru⟩ := vals1 rx
  -- the items, wherever they stand
  have key : ∀ (l : List D) (o : Obj) (n : Nat) (a : Addr) (ys : List V) (its : List Value) (t : String), sortable l = true → w = .own (sortD l) → u = .ref a → s.heap.get? a = some o → o.cls = .type t → (t = "list" ∨ t = "tuple") → o.data = .seq its.toArray n → Vals ys its → Rzs T F l ys →
      wpAny (model X.prog X.w) X.A (call (.builtin "sorted") [u]) (EP X pins σ Q) X.xe s := fun l o n a ys its t hso hw hu' ho hc ht hd hv hr => by
    subst hw hu'
    unfold sortable at hso
    obtain ⟨hso, z4⟩ := Bool.and_eq_true_iff.mp hso
    obtain ⟨hso, z3⟩ := Bool.and_eq_true_iff.mp hso
    obtain ⟨z1, z2⟩ := Bool.and_eq_true_iff.mp hso
    have z4 := of_decide_eq_true z4
    have e := each_of hr hv
    have er := each_reads hK I hs e z1
    have hal : PySem.W.AllAlike (l.map D.py) := fun d hd d' hd' => by
      obtain ⟨a, ha, rfl⟩ := List.mem_map.mp hd
      obtain ⟨b, hb, rfl⟩ := List.mem_map.mp hd'
      exact (List.all_eq_true.mp (List.all_eq_true.mp z2 a ha) b hb)
    have hk : PySem.W.Sortable (l.map D.py) := by
      rcases (Bool.or_eq_true _ _).mp z3 with z | z
      · refine .inl fun d hd => ?_
        obtain ⟨a, ha, rfl⟩ := List.mem_map.mp hd
        have := List.all_eq_true.mp z a ha
        cases a with
        | tup m =>
          cases m with
          | nil => cases this
          | cons x r => exact ⟨x.py, D.pys r, rfl⟩
        | _ => cases this
      · refine .inr fun d hd => ?_
        obtain ⟨a, ha, rfl⟩ := List.mem_map.mp hd
        have := List.all_eq_true.mp z a ha
        cases a with
        | tup m => cases this
        | non => cases this
        | _ => exact ⟨nofun, nofun⟩
    have hL : its.length ≤ sizeLine := by rw [e.length, ← SL_line]; exact z4
    have er' : PySem.W.EachIs (fun v d => ∃ as, Reads (PySem.W.sortingHeap (PySem.W.copyHeap s.heap its) (s.heap.objs.size + 1) its) v (D.py d) as) its l := er.mono fun _ _ ⟨as, r⟩ => ⟨as, PyProof.Rows.Reads.keeps (fun _ _ => PySem.W.sorting_copy_old) r⟩
    refine sortedT ho hc ht hd (PySem.W.SortsAt.data (s := { s with heap := PySem.W.sortingHeap (PySem.W.copyHeap s.heap its) (s.heap.objs.size + 1) its }) (PySem.W.each_map (R := fun v d => ∃ as, Reads (PySem.W.sortingHeap (PySem.W.copyHeap s.heap its) (s.heap.objs.size + 1) its) v d as) D.py er') hal hk (PySem.W.bound_map fun b hb => ?_)) hL ?_
    · have := (plain_of b 40 (fits_mem z1 hb)).2
      show X.A.units + 1 + 1 + b.py.depth < cLine
      omega
    · have out := PySem.W.sortVals_data false e er' hal
      have e2 : l.mergeSort (PySem.W.dataLe false D.py) = sortD l := rfl
      rw [e2] at out
      obtain ⟨zs, rz, vz⟩ := of_each out
      obtain ⟨ep, he⟩ := sortedAll_at s.heap its (PySem.W.sortVals (PySem.W.dataKind (PySem.W.sortingHeap (PySem.W.copyHeap s.heap its) (s.heap.objs.size + 1) its) (l.map D.py)) false its its).toArray
      refine ⟨.ref _, upd H (s.heap.objs.size + 1) (.lst zs), I.laid (t' := s.toks) (fun _ _ => sortedAll_old) (Nat.le_succ _) ⟨?_, _, ep, vz, he⟩, rfl, k _ F _ (Nw.lst hs rz (I.hok.fresh (Nat.le_succ _)))⟩
      rw [← rz.len, show (sortD l).length = l.length from List.length_mergeSort _, ← SL_line]
      exact z4
  cases d with
  | tup l =>
    obtain ⟨c, h⟩ := ite_ok (show (if sortable l = true then Res.ok (Val.own (sortD l)) else .bad) = .ok w from h)
    cases h
    obtain ⟨a, ys, rfl, q1, r1⟩ := q.tup
    cases ru
    obtain ⟨its, rv, ⟨o, ho, hc, n, hd⟩, _⟩ := I.tuple (by rw [hK]; exact SqT.sub hs q1)
    exact key l o n a ys its "tuple" c rfl rfl ho hc (.inr rfl) hd rv r1
  | lst l =>
    obtain ⟨c, h⟩ := ite_ok (show (if sortable l = true then Res.ok (Val.own (sortD l)) else .bad) = .ok w from h)
    cases h
    obtain ⟨a, ys, rfl, q1, r1⟩ := q.lst hs
    cases ru
    obtain ⟨its, rv, ⟨o, n, ho, hc, _, hd⟩, _⟩ := I.list (.inl (.inl q1))
    exact key l o n a ys its "list" c rfl rfl ho hc (.inl rfl) hd rv r1
  | dk l =>
    obtain ⟨c, h⟩ := ite_ok (show (if sortable (keysD l) = true then Res.ok (Val.own (sortD (keysD l))) else .bad) = .ok w from h)
    cases h
    obtain ⟨a, xs, rfl, q1, r1⟩ := q.dk hs
    cases ru
    obtain ⟨z, lo, vs, rk, hd⟩ := (show ObjOk X.prog X.w H s.heap a (.dK xs) from I.hok a _ q1)
    obtain ⟨ep, hat⟩ := hd.dictAt
    have hl : xs.length = vs.length := Paired.length rk
    have rks : Rzs T F (keysD l) (xs.map fun kv => kV kv.1) := keysD_rzs r1
    refine sortedCollected hK hu I hs c (fun R E' hR => PySem.W.kdu_collect (A := X.A.in1) (PySem.W.kdl_dict (knd := mixKind X.prog X.w) (kvs := vs) (ep := ep) lo) (I.ok.hd hc) hat (by rw [← hl]; exact z) fun h' tk acc hk hacc => ?_) fun p zs hp rz => k _ _ _ (Nw.lst hs rz hp)
    refine hR h' tk _ (xs.map fun kv => kV kv.1) hk ?_ rks
    have el : acc.toList.length = acc.size := by simp
    refine vals_of_at (by rw [List.length_map, el, hacc.1, hl]) fun j x w h1 h2 => ?_
    obtain ⟨k', y, hky, hi⟩ := hacc.2 j w (by rw [← Array.getElem?_toList]; exact h2)
    have e1 : (xs.map (·.1))[j]? = some k' := by
      rw [KV.keys rk, List.getElem?_map, hky] <;> rfl
    have e2 : (xs.map fun kv => kV kv.1)[j]? = some (kV k') := by
      have e3 : (xs.map fun kv => kV kv.1) = (xs.map (·.1)).map kV := by rw [List.map_map] <;> rfl
      rw [e3, List.getElem?_map, e1] <;> rfl
    rw [e2] at h1
    cases h1
    exact keyIs_rel hi
  | dt l =>
    obtain ⟨c, h⟩ := ite_ok (show (if sortable (keysT l) = true then Res.ok (Val.own (sortD (keysT l))) else .bad) = .ok w from h)
    cases h
    obtain ⟨a, xs, rfl, q1, r1⟩ := q.dt hs
    cases ru
    obtain ⟨z, hs', ks, pr, o, es, ep, ho, hx, hdt, he, hn⟩ := (show ObjOk X.prog X.w H s.heap a (.dT xs) from I.hok a _ q1)
    have l1 : es.size = ks.length := size_of_entries he
    have l2 : xs.length = ks.length := Paired.length pr
    refine sortedCollected hK hu I (tupAll_sub hs) c (fun R E' hR => PySem.W.kdu_collect (A := X.A.in1) (kdl_raw hs' hx hdt) (I.ok.hd hc) ho (by omega) fun h' tk acc' kp it => ?_) fun p zs hp rz => k _ _ _ (Nw.lstA tupAll_mono (tupAll_sub hs) (tupAll_nt hs) rz hp)
    have ea : acc'.toList = ks.map fun x => Value.ref x.2.1 := by
      have hl : acc'.toList.length = ks.length := by rw [Array.length_toList, it.1]; exact l1
      apply List.ext_getElem?
      intro j
      rw [List.getElem?_map]
      cases hj : acc'.toList[j]? with
      | none =>
        have h1 := List.getElem?_eq_none_iff.mp hj
        rw [List.getElem?_eq_none (by omega)]
        all_goals rfl
      | some v =>
        obtain ⟨en, hen, hv⟩ := it.2 j v (by rw [← Array.getElem?_toList]; exact hj)
        have qe := entry_at he j
        rw [hen] at qe
        cases hb : ks[j]? with
        | none =>
          rw [hb] at qe
          exact nomatch (show some en = none from qe)
        | some b =>
          rw [hb] at qe
          have e2 : en = entryOfKey (tupleKind (mixKind X.prog X.w)) b := Option.some.inj qe
          rw [hv, e2]
          all_goals rfl
    have eb : acc'.toList = (ks.map fun x => x.2.1).map Value.ref := by rw [ea, List.map_map]; all_goals rfl
    refine hR h' tk _ ((ks.map fun x => x.2.1).map V.ref) kp (by rw [eb]; exact vals_refs _) (keysT_rzs hs r1 (isKeys_of pr))
  | _ => cases h
end
end Rx

set_option Elab.async false
set_option linter.all false
set_option autoImplicit false
set_option maxRecDepth 100000
namespace Rx
open PySem L2
open PySem.Spec
open PyProof.Rows
section
variable {A : Amb} {S : SC} {X : Cx} {a b c e o : Expr} {es : List Expr} {ta tb : TE} {pos p p2 apos : Pos} {ts : List TE} {T : TX} {F H : Hp} {fa fb fc : Env → Res (Val × Env)} {x : Str}
mutual
theorem noDict : ∀ (d : D) (n : Nat), d.fit n = true → d.py.hasDict = false
  | .non, _, _ => rfl
  | .bl b, _, _ => rfl
  | .int b, _, _ => rfl
  | .str b, _, _ => rfl
  | .tup l, 0, f => by simp [D.fit] at f
  | .tup l, n + 1, f => by
    have := noDicts l n (by simpa [D.fit] using f)
    simpa only [D.py, PyData.hasDict] using this
  | .lst l, 0, f => by simp [D.fit] at f
  | .lst l, n + 1, f => by
    have := noDicts l n (by simpa [D.fit] using f)
    simpa only [D.py, PyData.hasDict] using this
  | .dk _, n, f => by cases n <;> simp [D.fit] at f
  | .dt _, n, f => by cases n <;> simp [D.fit] at f
  | .ins _ _, n, f => by cases n <;> simp [D.fit] at f
  | .scr _, n, f => by cases n <;> simp [D.fit] at f
theorem noDicts : ∀ (l : List D) (n : Nat), D.fits n l = true → PyData.hasDictAll (D.pys l) = false
  | [], _, _ => rfl
  | d :: l, n, f => by
    have f : (d.fit n && D.fits n l) = true := by simpa [D.fits] using f
    obtain ⟨f1, f2⟩ := Bool.and_eq_true_iff.mp f
    simp only [D.pys, PyData.hasDictAll, noDict d n f1, noDicts l n f2, Bool.or_self]
end
theorem boot_repr0 : bootBuiltins "repr" = some (.builtin "repr") := by decide +kernel
theorem c_repr (hK : X.K = T.K) (hu : X.A.units + 64 < cLine) (gd : X.A.guards = some []) : CallR X (.builtin "repr") (rP T .repr) := fun pins s σ H xs us Q I rx h => by
  obtain ⟨d, x, F, w, rfl, h, hs, q, k⟩ := rP_ar1 rfl h
  obtain ⟨u, rfl, ru⟩ := vals1 rx
  have key : ∀ (d : D) (a : Addr), d.fit 41 = true → d.py.showable = true → d.py.shown.length ≤ 100000 → w = .fz (.str d.py.shown) → Pk T F H d x → x = .ref a → wpAny (model X.prog X.w) X.A (call (.builtin "repr") [u]) (EP X pins σ Q) X.xe s := fun d a f sh ln hw q hx => by
    subst hx hw
    obtain ⟨as, r⟩ := q.reads hK I ru hs 41 f
    cases ru
    have pl := plain_of d 41 f
    refine repr_of_reads' r sh (fun z => ?_) gd (by have := pl.2; omega) (fun _ _ h => h) (fun h' u tk hk => ⟨.str _, H, I.kept hk, ⟨u, rfl⟩, k _ F H (Nw.fz hs rfl)⟩) (by rw [sizeLine_eq]; omega)
    exact absurd z (by rw [noDict d 41 f]; exact Bool.false_ne_true)
  cases d with
  | tup l =>
    obtain ⟨c, h⟩ := ite_ok (show (if (D.fits 40 l && (D.tup l).py.showable && decide ((D.tup l).py.shown.length ≤ 100000)) = true then Res.ok (Val.fz (.str (D.tup l).py.shown)) else .bad) = .ok w from h)
    cases h
    obtain ⟨c, c3⟩ := Bool.and_eq_true_iff.mp c
    obtain ⟨c1, c2⟩ := Bool.and_eq_true_iff.mp c
    obtain ⟨a, ys, ex, q1, r1⟩ := q.tup
    exact key (.tup l) a (by simpa [D.fit] using c1) c2 (of_decide_eq_true c3) rfl q ex
  | lst l =>
    obtain ⟨c, h⟩ := ite_ok (show (if (D.fits 40 l && (D.lst l).py.showable && decide ((D.lst l).py.shown.length ≤ 100000)) = true then Res.ok (Val.fz (.str (D.lst l).py.shown)) else .bad) = .ok w from h)
    cases h
    obtain ⟨c, c3⟩ := Bool.and_eq_true_iff.mp c
    obtain ⟨c1, c2⟩ := Bool.and_eq_true_iff.mp c
    obtain ⟨a, ys, ex, q1, r1⟩ := q.lst hs
    exact key (.lst l) a (by simpa [D.fit] using c1) c2 (of_decide_eq_true c3) rfl q ex
  | _ => cases h
/-! ### fields -/
def notSuper : Expr → Bool
  | .Call _ _ _ _ => false
  | _ => true
theorem base_ok {f : Str} {env : PySem.Env} (h : notSuper o = true) : attributeBase o f env (eval o env) = eval o env := by
  cases o <;> first | rfl | cases h
theorem pv_fld {fld bn : List Str} (fx : Facts A fld bn) {f : Str} (hf : f ∈ fld) (hb : notSuper a = true) : PrimV A S (.fld f) (.Attribute a f pos) [a] := PrimV.mk (fun ts p X g => by
  obtain ⟨t, rfl, h1⟩ := p.one
  refine pe_imp (pe_fld (pe_mono (h1 X g)) (base_ok hb)) fun σ H Q h => ⟨_, h, fun x H1 q => ?_⟩
  obtain ⟨d, F, w, e, s, q, k⟩ := rP_one q
  cases d with
  | ins c fs =>
    have e : (match fs.lookup f with | some d => Res.ok (Val.fz d) | none => .bad) = .ok w := e
    cases e1 : fs.lookup f with
    | none => rw [e1] at e; cases e
    | some d =>
      rw [e1] at e
      cases e
      obtain ⟨a, C, dx, xs, rfl, hC, hH, r⟩ := q.ins s
      obtain ⟨v, e2, r2⟩ := r.lookup e1
      rw [g.K]
      exact ⟨a, C, dx, xs, v, rfl, hH, fx.cls c C hC, fx.noat c C hC f hf, e2, k _ F H1 (Nw.fz s r2)⟩
  | _ => cases e) rfl
/-! ### displays -/
def BV (A : Amb) (S : SC) (es : List Expr) (f : Env → Res (List Val × Env)) : Prop := ∃ ts, PEL A S es ts ∧ RdV A.T A.E f (tAll ts) ∧ LenA es.length (mapV f)
theorem bv_nil : BV A S [] (fun env => .ok ([], env)) := ⟨[], .nil, rd_nilV, fun env as env' h => by cases h; rfl⟩
theorem lenV_cons {n : Nat} {fr : Env → Res (List Val × Env)} (h : LenA n (mapV fr)) : LenA (n + 1) (mapV fun env => (fa env).bind fun (w, env1) => (fr env1).bind fun (ws, env2) => .ok (w :: ws, env2)) := fun env as env' e => by
  unfold mapV at e
  cases e1 : fa env with
  | ok r =>
    obtain ⟨a, env1⟩ := r
    simp only [e1, Res.bind_ok] at e
    cases e2 : fr env1 with
    | ok r2 =>
      obtain ⟨as2, env2⟩ := r2
      simp only [e2, Res.bind_ok] at e
      cases e
      have := h env1 (as2.map Arg.val) _ (by unfold mapV; rw [e2]; rfl)
      rw [List.map_cons, List.length_cons, this]
    | exc c fs => simp only [e2, Res.bind_exc] at e; cases e
    | bad => simp only [e2, Res.bind_bad] at e; cases e
  | exc c fs => simp only [e1, Res.bind_exc] at e; cases e
  | bad => simp only [e1, Res.bind_bad] at e; cases e
theorem bv_cons {fr : Env → Res (List Val × Env)} (h : BE A S e fa) (r : BV A S es fr) : BV A S (e :: es) (fun env => (fa env).bind fun (w, env1) => (fr env1).bind fun (ws, env2) => .ok (w :: ws, env2)) := by
  obtain ⟨t, h1, h2⟩ := h
  obtain ⟨ts, r1, r2, r3⟩ := r
  exact ⟨t :: ts, .cons (fun X g => (h1 X g).1) r1, rd_consV h2 r2, lenV_cons r3⟩
theorem be_tup {k : Nat} {f : Env → Res (List Val × Env)} (h : BV A S es f) (hn : noStars es = true) : BE A S (.Tuple es k pos) (fun env => (f env).bind fun (ws, env1) => (tup? (ws.map Val.frz)).bind fun w => .ok (w, env1)) := by
  obtain ⟨ts, h1, h2, _⟩ := h
  exact BE.mk (fun X g => pe_tup (h1.pa g hn)) (rd_tup h2) rfl
theorem be_lst {f : Env → Res (List Val × Env)} (h : BV A S es f) (hn : noStars es = true) : BE A S (.List es pos) (fun env => (f env).bind fun (ws, env1) => (own? (ws.map Val.frz)).bind fun w => .ok (w, env1)) := by
  obtain ⟨ts, h1, h2, _⟩ := h
  exact BE.mk (fun X g => pe_lst (h1.pa g hn)) (rd_lst h2) rfl
/-! ### calls of the text's own -/
structure FnFact (A : Amb) (f : Str) (fn : Fn) (a : Addr) (fd : FuncData) (ps : List Str) : Prop where
  mg : A.T.mg f = some (.ref a)
  kp : PySem.W.keepIn A.T.K (.ref a) = true
  bd : Binds A.T.K fd ps []
  ln : ps.length = fn.np
  ok : FnG A.T.P A.T.w A.T.K A.T.mg A.T.base A.CX A.k a fd ps (spOf A.T A.cl f fn.pins fn.np)
theorem be_call {f : Str} {fn : Fn} {ad : Addr} {fd : FuncData} {ps : List Str} {fl : Env → Res (List Arg × Env)} (k : FnFact A f fn ad fd ps) (hg : glob S f = true) (hx : plainN f = true) (hn : noStars es = true) (h : BL A S es fl) (hl : es.length = fn.np) :
    BE A S (.Call (.Name f p) es [] pos) (fun env => (fl env).bind fun (as, env1) => (bindCall fn.pins 0 as env1).bind fun (ws, env2) =>
      (A.cl f ws).bind fun (w, outs) => (backCall fn.pins env1 0 as ws outs env2).bind fun env3 => .ok (w, env3)) := by
  obtain ⟨ts, h1, h2, h3⟩ := h
  rw [hl] at h3
  refine BE.mk (t := fun σ H Q => tAll ts σ H fun vs H1 => spOf A.T A.cl f fn.pins fn.np vs H1 Q A.E) (fun X g => ?_) (rd_call h2 h3) rfl
  have ok : FnG X.prog X.w X.K X.mg X.base A.CX A.k ad fd ps (spOf A.T A.cl f fn.pins fn.np) := by rw [g.prog, g.w, g.K, g.mg, g.base]; exact k.ok
  have rm : Room A.k X.A := g.room.mono (Nat.le_succ _)
  cases es with
  | nil =>
    cases h1
    exact pe_callG0 ok rm g.gd (glob_ok g hg) (by rw [g.mg]; exact k.mg) (by rw [g.K]; exact k.kp) (by rw [g.K]; exact k.bd) g.px (plainN_ok hx).1
  | cons e es =>
    obtain ⟨n1, n2⟩ := Bool.and_eq_true_iff.mp (show (noStar e && noStars es) = true from hn)
    exact pe_callG ok rm g.gd (glob_ok g hg) (by rw [g.mg]; exact k.mg) (by rw [g.K]; exact k.kp) (by rw [g.K]; exact k.bd) g.px (h1.pa g hn) (plainN_ok hx).1 (star_ok n1) (star_any n2)
structure MkFact (A : Amb) (c : Str) (f : Str) (fn : Fn) (C a : Addr) (fd : FuncData) (ps : List Str) : Prop where
  ca : A.T.ca c = some C
  mg : A.T.mg c = some (.ref C)
  mkk : Mk A.T.K C a
  bd : Binds A.T.K fd ps []
  p0 : 0 ∈ fn.pins
  ok : FnG A.T.P A.T.w A.T.K A.T.mg A.T.base A.CX A.k a fd ps (spOf A.T A.cl f fn.pins fn.np)
theorem be_make {cn f : Str} {fn : Fn} {C ad : Addr} {fd : FuncData} {ps : List Str} {fl : Env → Res (List Val × Env)} (k : MkFact A cn f fn C ad fd ps) (hg : glob S cn = true) (hx : plainN cn = true) (hn : noStars (e :: es) = true) (h : BV A S (e :: es) fl) (hl : (e :: es).length + 1 = fn.np) :
    BE A S (.Call (.Name cn p) (e :: es) [] pos) (fun env => (fl env).bind fun (ws, env1) => (A.cl f (.oi cn [] :: ws.map fun w => .fz w.frz)).bind fun (r, outs) => match madeOf cn r outs with
      | some fs => .ok (.fz (.ins cn fs), env1)
      | none => .bad) := by
  obtain ⟨ts, h1, h2, h3⟩ := h
  have r := rd_make (cl := A.cl) (f := f) (pins := fn.pins) k.ca k.p0 h2 h3
  rw [hl] at r
  refine BE.mk (fun X g => ?_) r rfl
  have ok : FnG X.prog X.w X.K X.mg X.base A.CX A.k ad fd ps (spOf A.T A.cl f fn.pins fn.np) := by rw [g.prog, g.w, g.K, g.mg, g.base]; exact k.ok
  obtain ⟨n1, n2⟩ := Bool.and_eq_true_iff.mp (show (noStar e && noStars es) = true from hn)
  exact pe_makeG (by rw [g.K]; exact k.mkk) ok g.room g.gd (glob_ok g hg) (by rw [g.mg]; exact k.mg) (by rw [g.K]; exact k.bd) g.px (h1.pa g hn) (plainN_ok hx).1 (star_ok n1) (star_any n2)
/-! ### methods of a list -/
def fewOk : List Expr → Bool
  | es => decide (es.length < 20)
theorem few_ok {es : List Expr} {env : PySem.Env} {pos : Pos} (hn : noStars es = true) (hl : es.length < 20) : ((backTo pos (starEach es env)).all (fun x => !x.1) && (backToKw pos (keywordEach [] env)).all (fun x => x.1.isSome) && decide (es.length + ([] : List Keyword).length + (if ([] : List Keyword).isEmpty then 0 else 1) < 30)) = true := by
  have h1 : (backTo pos (starEach es env)).all (fun x => !x.1) = true := by
    have := star_any (env := env) (pos := pos) hn
    rw [List.all_eq_not_any_not]
    simp only [Bool.not_not]
    rw [this] <;> rfl
  rw [h1]
  have h2 : decide (es.length + ([] : List Keyword).length + (if ([] : List Keyword).isEmpty then 0 else 1) < 30) = true := decide_eq_true (by simp; omega)
  rw [h2] <;> rfl
theorem mtR_of {id : String} {r : V → List V → Hp → VK → Prop} (h : MtM X id r) : MtR X id r := h
theorem be_mut1 {m : Mt} {id : String} {n : Nat} {nm : Str} {i : Nat} {fl : Env → Res (List Val × Env)} {r : V → List V → Hp → VK → Prop} (slot : PySem.Slot "list" nm id) (hty : typeOf (.builtin id) = pure (.type "method_descriptor")) (hm : ∀ X, MtR X id r) (ho : MtS A.T n m r)
    (hN : S.N[i]? = some x) (hv : vis S x = true) (hx : plainN x = true) (hn : noStars (e :: es) = true) (hl : (e :: es).length = n) (hn20 : n < 20) (hline : (apos.endLine == pos.line) = true) (h : BV A S (e :: es) fl) :
    BE A S (.Call (.Attribute (.Name x p) nm apos) (e :: es) [] pos) (fun env => match env[i]? with
      | some (.val _ (.own _)) => (fl env).bind fun (ws, env1) => (mutSlot i env1 fun w => mtd m w (ws.map Val.frz)).bind fun (d, env2) => .ok (.fz d, env2)
      | _ => .bad) := by
  obtain ⟨ts, h1, h2, h3⟩ := h
  rw [hl] at h3
  obtain ⟨n1, n2⟩ := Bool.and_eq_true_iff.mp (show (noStar e && noStars es) = true from hn)
  refine BE.mk (fun X g => ?_) (rd_mut h2 h3 ho) rfl
  rw [← g.K]
  exact pe_bm PySem.F.plainAttrs_list slot hty (hm X) (pe_varG hN hv hx X g) (h1.pa g hn) rfl (few_ok hn (by omega)) hline (star_ok n1) (star_any n2)
theorem be_mut0 {m : Mt} {id : String} {nm : Str} {i : Nat} {r : V → List V → Hp → VK → Prop} (slot : PySem.Slot "list" nm id) (hty : typeOf (.builtin id) = pure (.type "method_descriptor")) (hm : ∀ X, MtR X id r) (ho : MtS A.T 0 m r)
    (hN : S.N[i]? = some x) (hv : vis S x = true) (hx : plainN x = true) (hline : (apos.endLine == pos.line) = true) :
    BE A S (.Call (.Attribute (.Name x p) nm apos) [] [] pos) (fun env => match env[i]? with
      | some (.val _ (.own _)) => (Res.ok (([] : List Val), env)).bind fun (ws, env1) => (mutSlot i env1 fun w => mtd m w (ws.map Val.frz)).bind fun (d, env2) => .ok (.fz d, env2)
      | _ => .bad) := by
  refine BE.mk (fun X g => ?_) (rd_mut (E := A.E) rd_nilV (fun env as env' h => by cases h; rfl) ho) rfl
  rw [← g.K]
  exact pe_bm0 PySem.F.plainAttrs_list slot hty (hm X) (pe_varG hN hv hx X g) rfl hline
end
end Rx

set_option Elab.async false
set_option linter.all false
set_option autoImplicit false
set_option maxRecDepth 100000
namespace Rx
open PySem L2
open PySem.Spec
open PyProof.Rows
section
variable {A : Amb} {S : SC} {X : Cx} {a b c e o : Expr} {es : List Expr} {ta tb : TE} {pos p p2 apos : Pos} {ts : List TE} {T : TX} {F H : Hp} {fa fb fc : Env → Res (Val × Env)} {x : Str}
/-! ### list(range(..)), tuple(range(..)) -/
theorem rz_rng (i j : Int) : Rzs T F (rng i j) (rgV i j) := by
  have e1 : rng i j = ((List.range (j - i).toNat).map fun k => i + (k : Nat)).map D.int := by
    unfold rng
    rw [List.map_map]
    rfl
  have e2 : rgV i j = ((List.range (j - i).toNat).map fun k => i + (k : Nat)).map V.int := by
    unfold rgV
    rw [List.map_map]
    rfl
  rw [e1, e2]
  exact Rzs.ofInts _
theorem rangeOf_one {d : D} {l : List D} (h : rangeOf [d] = .ok l) : ∃ j, d = .int j ∧ B62 j = true ∧ l = rng 0 j := by
  cases d with
  | int j =>
    obtain ⟨c, h⟩ := ite_ok (show (if B62 j = true then Res.ok (rng 0 j) else .bad) = .ok l from h)
    cases h
    exact ⟨j, rfl, c, rfl⟩
  | _ => cases h
theorem rangeOf_two {d e : D} {l : List D} (h : rangeOf [d, e] = .ok l) : ∃ i j, d = .int i ∧ e = .int j ∧ B62 i = true ∧ B62 j = true ∧ l = rng i j := by
  cases d with
  | int i =>
    cases e with
    | int j =>
      obtain ⟨c, h⟩ := ite_ok (show (if (B62 i && B62 j) = true then Res.ok (rng i j) else .bad) = .ok l from h)
      cases h
      obtain ⟨c1, c2⟩ := Bool.and_eq_true_iff.mp c
      exact ⟨i, j, rfl, rfl, c1, c2, rfl⟩
    | _ => cases h
  | _ => cases h
theorem bind_ok_inv {α β : Type} {m : Res α} {f : α → Res β} {w : β} (h : m.bind f = .ok w) : ∃ a, m = .ok a ∧ f a = .ok w := by
  cases m with
  | ok a => exact ⟨a, rfl, h⟩
  | exc c fs => cases h
  | bad => cases h
theorem rgOk {i j : Int} (c1 : B62 i = true) (c2 : B62 j = true) (h : (rng i j).length ≤ SL) : RgOk i j := by
  have c1 := B62_iff.mp c1
  have c2 := B62_iff.mp c2
  rw [rng_len] at h
  exact ⟨c1.1, c1.2, c2.1, c2.2, h⟩
theorem pv_listR1 {n : Nat} (hg : glob S "list" = true) (hm : A.T.mg "list" = none) (hg2 : glob S "range" = true) (hm2 : A.T.mg "range" = none) (hn : noStar a = true) : PrimV A S (.listR n) (.Call (.Name "list" p) [.Call (.Name "range" p2) [a] [] apos] [] pos) [a] := PrimV.mk (fun ts q X g => by
  obtain ⟨t, rfl, h1⟩ := q.one
  refine pe_imp (pe_listRg g.calm (glob_ok g hg) (by rw [g.mg]; exact hm) (prg_1 (glob_ok g hg2) (by rw [g.mg]; exact hm2) (pe_mono (h1 X g)) (star_ok hn)) (star_ok rfl)) fun σ H Q h => ⟨_, h, fun x H1 q => ?_⟩
  obtain ⟨d, F, w, e, s, q, k⟩ := rP_one q
  obtain ⟨l, e1, e2⟩ := bind_ok_inv (show (rangeOf [d]).bind own? = .ok w from e)
  obtain ⟨j, rfl, c, rfl⟩ := rangeOf_one e1
  obtain ⟨z, rfl⟩ := own?_ok e2
  exact ⟨j, q.int, rgOk (by decide) c z, fun p hp => k _ F _ (Nw.lst s (rz_rng 0 j) hp)⟩) rfl
theorem pv_listR2 {n : Nat} (hg : glob S "list" = true) (hm : A.T.mg "list" = none) (hg2 : glob S "range" = true) (hm2 : A.T.mg "range" = none) (hn : noStars [a, b] = true) : PrimV A S (.listR n) (.Call (.Name "list" p) [.Call (.Name "range" p2) [a, b] [] apos] [] pos) [a, b] := PrimV.mk (fun ts q X g => by
  obtain ⟨t, u, rfl, h1, h2⟩ := q.two
  obtain ⟨n1, n2⟩ := Bool.and_eq_true_iff.mp (show (noStar a && noStars [b]) = true from hn)
  obtain ⟨n3, n4⟩ := Bool.and_eq_true_iff.mp (show (noStar b && noStars []) = true from n2)
  refine pe_imp (pe_listRg g.calm (glob_ok g hg) (by rw [g.mg]; exact hm) (prg_2 (glob_ok g hg2) (by rw [g.mg]; exact hm2) (pe_mono (h1 X g)) (pe_mono (h2 X g)) (star_ok n1) (star_ok n3) (star_any n2)) (star_ok rfl)) fun σ H Q h => ⟨_, h, fun x H1 q => ⟨_, q, fun y H2 q => ?_⟩⟩
  obtain ⟨ds, F, w, ln, e, s, q, k⟩ := q
  obtain ⟨d, d2, rfl⟩ := len2 ln
  obtain ⟨q1, q2⟩ := q.two'
  obtain ⟨l, e1, e2⟩ := bind_ok_inv (show (rangeOf [d, d2]).bind own? = .ok w from e)
  obtain ⟨i, j, rfl, rfl, c1, c2, rfl⟩ := rangeOf_two e1
  obtain ⟨z, rfl⟩ := own?_ok e2
  exact ⟨i, j, q1.int, q2.int, rgOk c1 c2 z, fun p hp => k _ F _ (Nw.lst s (rz_rng i j) hp)⟩) rfl
theorem pv_tupR1 {n : Nat} (hg : glob S "tuple" = true) (hm : A.T.mg "tuple" = none) (hg2 : glob S "range" = true) (hm2 : A.T.mg "range" = none) (hn : noStar a = true) : PrimV A S (.tupleR n) (.Call (.Name "tuple" p) [.Call (.Name "range" p2) [a] [] apos] [] pos) [a] := PrimV.mk (fun ts q X g => by
  obtain ⟨t, rfl, h1⟩ := q.one
  refine pe_imp (pe_tupRg g.calm (glob_ok g hg) (by rw [g.mg]; exact hm) (prg_1 (glob_ok g hg2) (by rw [g.mg]; exact hm2) (pe_mono (h1 X g)) (star_ok hn)) (star_ok rfl)) fun σ H Q h => ⟨_, h, fun x H1 q => ?_⟩
  obtain ⟨d, F, w, e, s, q, k⟩ := rP_one q
  obtain ⟨l, e1, e2⟩ := bind_ok_inv (show (rangeOf [d]).bind tup? = .ok w from e)
  obtain ⟨j, rfl, c, rfl⟩ := rangeOf_one e1
  obtain ⟨z, rfl⟩ := tup?_ok e2
  exact ⟨j, q.int, rgOk (by decide) c z, fun p hp => k _ _ _ (Nw.tup s (rz_rng 0 j) hp)⟩) rfl
theorem pv_tupR2 {n : Nat} (hg : glob S "tuple" = true) (hm : A.T.mg "tuple" = none) (hg2 : glob S "range" = true) (hm2 : A.T.mg "range" = none) (hn : noStars [a, b] = true) : PrimV A S (.tupleR n) (.Call (.Name "tuple" p) [.Call (.Name "range" p2) [a, b] [] apos] [] pos) [a, b] := PrimV.mk (fun ts q X g => by
  obtain ⟨t, u, rfl, h1, h2⟩ := q.two
  obtain ⟨n1, n2⟩ := Bool.and_eq_true_iff.mp (show (noStar a && noStars [b]) = true from hn)
  obtain ⟨n3, n4⟩ := Bool.and_eq_true_iff.mp (show (noStar b && noStars []) = true from n2)
  refine pe_imp (pe_tupRg g.calm (glob_ok g hg) (by rw [g.mg]; exact hm) (prg_2 (glob_ok g hg2) (by rw [g.mg]; exact hm2) (pe_mono (h1 X g)) (pe_mono (h2 X g)) (star_ok n1) (star_ok n3) (star_any n2)) (star_ok rfl)) fun σ H Q h => ⟨_, h, fun x H1 q => ⟨_, q, fun y H2 q => ?_⟩⟩
  obtain ⟨ds, F, w, ln, e, s, q, k⟩ := q
  obtain ⟨d, d2, rfl⟩ := len2 ln
  obtain ⟨q1, q2⟩ := q.two'
  obtain ⟨l, e1, e2⟩ := bind_ok_inv (show (rangeOf [d, d2]).bind tup? = .ok w from e)
  obtain ⟨i, j, rfl, rfl, c1, c2, rfl⟩ := rangeOf_two e1
  obtain ⟨z, rfl⟩ := tup?_ok e2
  exact ⟨i, j, q1.int, q2.int, rgOk c1 c2 z, fun p hp => k _ _ _ (Nw.tup s (rz_rng i j) hp)⟩) rfl
/-! ### isinstance -/
def tyD (T : TX) : D → Option Value
  | .non => some (.type "NoneType")
  | .bl _ => some (.type "bool")
  | .int _ => some (.type "int")
  | .str _ => some (.type "str")
  | .tup _ => some (.type "tuple")
  | .lst _ => some (.type "list")
  | .dk _ => none
  | .dt _ => none
  | .scr _ => none
  | .ins c _ => (T.ca c).map Value.ref
/-- the class named t -/
structure ClsIs (A : Amb) (S : SC) (t : Str) (e : Expr) (v : V) (u : Value) : Prop where
  cv : ClsV v u
  pe : ∀ X, Good A S X → PE X e (tC v)
  kit : ∀ d tv, tyD A.T d = some tv → PySem.W.kitOne A.T.K tv u = some (isaOne d t)
structure InsTy (T : TX) : Prop where
  ins : ∀ c C, T.ca c = some C → ∀ (H : Hp) (a dx : Addr) (fs : List (Str × V)), H a = some (.ins C dx fs) → TyX T.K H (.ref a) (.ref C)
theorem Pk.ty (it : InsTy T) {d : D} {x : V} (p : Pk T F H d x) (hs : Sub F H) (ht : d.typed = true) : ∃ tv, tyD T d = some tv ∧ TyX T.K H x tv := by
  cases d with
  | non => cases p.non; exact ⟨_, rfl, .base .non⟩
  | bl b => cases p.bl; exact ⟨_, rfl, .base (.bl b)⟩
  | int b => cases p.int; exact ⟨_, rfl, .base (.int b)⟩
  | str b => cases p.str; exact ⟨_, rfl, .base (.str b)⟩
  | tup l =>
    obtain ⟨a, xs, rfl, q, r⟩ := p.tup
    refine ⟨_, rfl, ?_⟩
    rcases q with (q | ⟨o, q⟩) | ⟨o, its, n, q1, q2, q3, q4, q5⟩
    · exact .base (.tup (hs _ _ q))
    · exact .fTuple (hs _ _ q)
    · exact .kTuple q1 q2
  | lst l =>
    obtain ⟨a, xs, rfl, q, r⟩ := p.lst hs
    exact ⟨_, rfl, .base (.lst q)⟩
  | dk l => cases ht
  | dt l => cases ht
  | scr l => cases ht
  | ins c fs =>
    obtain ⟨a, C, dx, xs, rfl, hC, q, r⟩ := p.ins hs
    exact ⟨.ref C, by show (T.ca c).map Value.ref = _; rw [hC]; rfl, it.ins c C hC H a dx xs q⟩
theorem isa_ok {ts : List Str} {d : D} {w : Val} (h : prim (.isa ts) [d] = .ok w) : d.typed = true ∧ w = .fz (.bl (ts.any fun t => isaOne d t)) := by
  obtain ⟨c, h⟩ := ite_ok (show (if d.typed = true then rB (ts.any fun t => isaOne d t) else .bad) = .ok w from h)
  cases h
  exact ⟨c, rfl⟩
theorem pv_isa1 {t : Str} {v : V} {u : Value} (it : InsTy A.T) (ci : ClsIs A S t c v u) (hg : glob S "isinstance" = true) (hm : A.T.mg "isinstance" = none) (hn : noStars [a, c] = true) : PrimV A S (.isa [t]) (.Call (.Name "isinstance" p) [a, c] [] pos) [a] := PrimV.mk (fun ts q X g => by
  obtain ⟨tt, rfl, h1⟩ := q.one
  obtain ⟨n1, n2⟩ := Bool.and_eq_true_iff.mp (show (noStar a && noStars [c]) = true from hn)
  obtain ⟨n3, n4⟩ := Bool.and_eq_true_iff.mp (show (noStar c && noStars []) = true from n2)
  refine pe_imp (pe_callB call_isi (glob_ok g hg) (by rw [g.mg]; exact hm) boot_isinstance (pa_cons (pe_mono (h1 X g)) (pa_cons (ci.pe X g) pa_nil (star_ok n3)) (star_ok n1)) (by decide) (by decide) (star_ok n1) (star_any n2)) fun σ H Q h => ⟨_, h, fun x H1 q => ?_⟩
  obtain ⟨d, F, w, e, s, q, k⟩ := rP_one q
  obtain ⟨ht, rfl⟩ := isa_ok e
  obtain ⟨tv, e1, e2⟩ := q.ty it s ht
  rw [g.K]
  refine ⟨x, v, tv, u, isaOne d t, rfl, ci.cv, e2, ci.kit d tv e1, ?_⟩
  have : ([t].any fun t => isaOne d t) = isaOne d t := by simp
  rw [this] at k
  exact k _ F H1 (Nw.fzB s _)) rfl
/-- several classes -/
inductive ClsAll (A : Amb) (S : SC) : List Str → List Expr → List V → List Value → Prop where
  | nil : ClsAll A S [] [] [] []
  | cons {t : Str} {e : Expr} {v : V} {u : Value} {ts : List Str} {es : List Expr} {vs : List V} {us : List Value} (h : ClsIs A S t e v u) (r : ClsAll A S ts es vs us) : ClsAll A S (t :: ts) (e :: es) (v :: vs) (u :: us)
def tCs : List V → TA
  | [] => tNil
  | v :: vs => tCons (tC v) (tCs vs)
theorem tCs_run : ∀ {vs : List V} {σ : L2.St} {H : Hp} {Q : List V → Hp → Prop}, tCs vs σ H Q = Q vs H
  | [], _, _, _ => rfl
  | v :: vs, σ, H, Q => by
    show tCs vs σ H (fun xs H2 => Q (v :: xs) H2) = _
    rw [tCs_run]
theorem ClsAll.pa (g : Good A S X) : ∀ {ts : List Str} {es : List Expr} {vs : List V} {us : List Value}, ClsAll A S ts es vs us → noStars es = true → PA X es (tCs vs)
  | _, _, _, _, .nil, _ => pa_nil
  | _, _, _, _, .cons h r, n => by
    obtain ⟨n1, n2⟩ := Bool.and_eq_true_iff.mp (show (noStar _ && noStars _) = true from n)
    exact pa_cons (h.pe X g) (r.pa g n2) (star_ok n1)
theorem ClsAll.paired : ∀ {ts : List Str} {es : List Expr} {vs : List V} {us : List Value}, ClsAll A S ts es vs us → Paired ClsV vs us
  | _, _, _, _, .nil => .nil
  | _, _, _, _, .cons h r => .cons h.cv r.paired
theorem ClsAll.kit {d : D} {tv : Value} (e : tyD A.T d = some tv) : ∀ {ts : List Str} {es : List Expr} {vs : List V} {us : List Value}, ClsAll A S ts es vs us → PySem.W.kitAny A.T.K tv us = some (ts.any fun t => isaOne d t)
  | _, _, _, _, .nil => rfl
  | t :: ts, _, _, _, .cons h r => by
    unfold PySem.W.kitAny
    rw [h.kit d tv e, List.any_cons]
    cases isaOne d t with
    | true => rfl
    | false => exact ClsAll.kit e r
theorem ClsAll.len : ∀ {ts : List Str} {es : List Expr} {vs : List V} {us : List Value}, ClsAll A S ts es vs us → vs.length = ts.length
  | _, _, _, _, .nil => rfl
  | _, _, _, _, .cons h r => by rw [List.length_cons, List.length_cons, r.len]
theorem pv_isaT {ts : List Str} {vs : List V} {us : List Value} {kk : Nat} (it : InsTy A.T) (ci : ClsAll A S ts es vs us) (hl : ts.length < 100) (hg : glob S "isinstance" = true) (hm : A.T.mg "isinstance" = none) (hn : noStar a = true) (hns : noStars es = true) :
    PrimV A S (.isa ts) (.Call (.Name "isinstance" p) [a, .Tuple es kk p2] [] pos) [a] := PrimV.mk (fun tts q X g => by
  obtain ⟨tt, rfl, h1⟩ := q.one
  refine pe_imp (pe_callB call_isiT (glob_ok g hg) (by rw [g.mg]; exact hm) boot_isinstance (pa_cons (pe_mono (h1 X g)) (pa_cons (pe_tup (ci.pa g hns)) pa_nil (star_ok rfl)) (star_ok hn)) (by decide) (by decide) (star_ok hn) (star_any (es := [.Tuple es kk p2]) rfl)) fun σ H Q h => ⟨_, h, fun x H1 q => ?_⟩
  obtain ⟨d, F, w, e, s, q, k⟩ := rP_one q
  obtain ⟨ht, rfl⟩ := isa_ok e
  obtain ⟨tv, e1, e2⟩ := q.ty it s ht
  show tCs vs σ H1 _
  rw [tCs_run]
  refine ⟨by rw [ci.len, sizeLine_eq]; omega, fun p0 hp => ?_⟩
  rw [g.K]
  have q' : Pk A.T F (upd H1 p0 (.tup vs)) d x := by
    obtain ⟨w, ew, sl⟩ := q
    refine ⟨w, ew, sl.moves (Sub.refl F) fun _ a o _ ho hf _ => ⟨?_, hf⟩⟩
    rw [upd_ne (fun z => by rw [z, hp] at ho; cases ho)]
    exact ho
  have s' : Sub F (upd H1 p0 (.tup vs)) := fun a o ho => by
    have := s a o ho
    rw [upd_ne (fun z => by rw [z, hp] at this; cases this)]
    exact this
  obtain ⟨tv', e1', e2'⟩ := q'.ty it s' ht
  rw [e1] at e1'
  cases e1'
  refine ⟨x, p0, vs, tv, us, ts.any fun t => isaOne d t, rfl, upd_same, ci.paired, e2', ci.kit e1, ?_⟩
  refine k _ F _ ⟨Sub.refl F, s', fun a o ho => ?_, fun a n1 n2 => absurd n1 n2, rfl, fun hw => by cases hw⟩
  rw [upd_ne (fun z => by rw [z, hp] at ho; cases ho)]
  exact ho) rfl
end
end Rx

set_option Elab.async false
set_option linter.all false
set_option autoImplicit false
set_option maxRecDepth 100000
namespace Rx
open PySem L2
open PySem.Spec
open PyProof.Rows
section
variable {A : Amb} {S : SC} {X : Cx} {a b c e o tg iter : Expr} {es : List Expr} {ta tb : TE} {pos p p2 apos tpos : Pos} {ts : List TE} {T : TX} {F H : Hp} {fa fb fc : Env → Res (Val × Env)} {x : Str}
/-! ### more that is walked -/
theorem rngN_get {lo c : Int} {n i : Nat} {d : D} (h : (rngN lo c n)[i]? = some d) : i < n ∧ d = .int (lo + (i : Nat) * c) := by
  unfold rngN at h
  rw [List.getElem?_map] at h
  cases e : (List.range n)[i]? with
  | none =>
    rw [e] at h
    cases h
  | some j =>
    rw [e] at h
    obtain ⟨hl, hj⟩ := List.getElem?_eq_some_iff.mp e
    rw [List.getElem_range] at hj
    subst hj
    rw [List.length_range] at hl
    cases h
    exact ⟨hl, rfl⟩
theorem rngN_len (lo c : Int) (n : Nat) : (rngN lo c n).length = n := by
  unfold rngN
  rw [List.length_map, List.length_range]
theorem ik_rng3 : IkS T 3 (.range 3) (fun vs H R => ∃ (i j c : Int) (n : Nat), vs = [.int i, .int j, .int c] ∧ RgC i j c n ∧ R (Itc i c n) H) := fun ds vs F H S R its ln hi hs pk k => by
  obtain ⟨d1, d2, d3, rfl⟩ := len3 ln
  have hi : rangeOf [d1, d2, d3] = .ok its := hi
  match d1, d2, d3, hi with
  | .int i, .int j, .int c, hi =>
    obtain ⟨z, hi⟩ := ite_ok (show (if (B62 i && B62 j && decide (c ≠ 0) && decide (c.natAbs < 1073741824) && Builtin.Range.small i j c && decide (0 ≤ Builtin.Range.rangeSize i j c)) = true then Res.ok (rngN i c (Builtin.Range.rangeSize i j c).toNat) else .bad) = .ok its from hi)
    cases hi
    obtain ⟨z, z4⟩ := Bool.and_eq_true_iff.mp z
    obtain ⟨z, z3⟩ := Bool.and_eq_true_iff.mp z
    obtain ⟨z, z2⟩ := Bool.and_eq_true_iff.mp z
    obtain ⟨z, z1⟩ := Bool.and_eq_true_iff.mp z
    obtain ⟨v, r, rfl, q1, t⟩ := pk
    obtain ⟨u, w, rfl, q2, q3⟩ := pkS_two t
    refine ⟨i, j, c, (Builtin.Range.rangeSize i j c).toNat, by rw [pkS_int q1, pkS_int q2, pkS_int q3], ⟨of_decide_eq_true z1, of_decide_eq_true z2, z3, by have := of_decide_eq_true z4; omega⟩, k _ fun H' F' kp m s i => ⟨fun hl => by rw [rngN_len] at hl; exact hl, fun d hd => ?_⟩⟩
    obtain ⟨h1, rfl⟩ := rngN_get hd
    refine ⟨h1, fun x H'' ⟨e1, e2⟩ => ⟨F', ?_⟩⟩
    subst e1
    subst e2
    exact Nw.fz s rfl
theorem enum_get {l : List D} {i : Nat} {d : D} (h : (l.mapIdx fun i d => D.tup [.int (i : Nat), d])[i]? = some d) : ∃ x, l[i]? = some x ∧ d = .tup [.int (i : Nat), x] := by
  rw [List.getElem?_mapIdx] at h
  cases e : l[i]? with
  | none => rw [e] at h; cases h
  | some x =>
    rw [e] at h
    cases h
    exact ⟨x, rfl, rfl⟩
/-- the enumerated list or tuple -/
theorem ik_enum : IkS T 1 .enum (fun vs H R => ∃ a xs, vs = [.ref a] ∧ ((SqL T.K H a xs ∧ R (Ite T.K a) H) ∨ (SqT T.K H a xs ∧ R (IteT T.K a) H))) := fun ds vs F H S R its ln hi hs pk k => by
  obtain ⟨d, rfl⟩ := len1 ln
  obtain ⟨v, rfl, w, ew, sl, st⟩ := pkS_one pk
  have hi : itEnum [d] = .ok its := hi
  cases d with
  | lst l =>
    cases hi
    obtain ⟨a, xs, rfl, rz, keep⟩ := Sl.asL ew sl hs st
    refine ⟨a, xs, rfl, .inl ⟨.inl (.inl (keep H (KpS.refl hs))), k _ fun H' F' kp m s i => ⟨fun hl => ⟨xs, .inl (.inl (keep H' kp)), by rw [← rz.len]; simpa using hl⟩, fun d hd => ?_⟩⟩⟩
    obtain ⟨x, hx, rfl⟩ := enum_get hd
    obtain ⟨y, hy, ry⟩ := rz.get hx
    refine ⟨⟨xs, y, .inl (.inl (keep H' kp)), hy⟩, fun v H'' ⟨P, z, ev, hP, eH, hz⟩ => ?_⟩
    subst ev
    subst eH
    have := hz xs (.inl (.inl (keep H' kp)))
    rw [hy] at this
    cases this
    exact ⟨_, Nw.tup s (.cons rfl (.cons (Rz.sub m _ _ ry) rfl)) hP⟩
  | tup l =>
    cases hi
    obtain ⟨a, xs, rfl, rz, sq⟩ := Sl.asT ew sl
    refine ⟨a, xs, rfl, .inr ⟨SqT.sub hs sq, k _ fun H' F' kp m s i => ⟨fun hl => ⟨xs, SqT.sub kp.1 sq, by rw [← rz.len]; simpa using hl⟩, fun d hd => ?_⟩⟩⟩
    obtain ⟨x, hx, rfl⟩ := enum_get hd
    obtain ⟨y, hy, ry⟩ := rz.get hx
    refine ⟨⟨xs, y, SqT.sub kp.1 sq, hy⟩, fun v H'' ⟨P, z, ev, hP, eH, hz⟩ => ?_⟩
    subst ev
    subst eH
    have := hz xs (SqT.sub kp.1 sq)
    rw [hy] at this
    cases this
    exact ⟨_, Nw.tup s (.cons rfl (.cons (Rz.sub m _ _ ry) rfl)) hP⟩
  | _ => cases hi
theorem zip_get : ∀ {l m : List D} {i : Nat} {d : D}, (List.zipWith (fun x y => D.tup [x, y]) l m)[i]? = some d → ∃ x y, l[i]? = some x ∧ m[i]? = some y ∧ d = .tup [x, y]
  | [], _, _, _, h => by simp at h
  | _ :: _, [], _, _, h => by simp at h
  | x :: l, y :: m, 0, _, h => by
    cases h
    exact ⟨x, y, rfl, rfl, rfl⟩
  | x :: l, y :: m, i + 1, _, h => zip_get (l := l) (m := m) (i := i) h
theorem ik_zip : IkS T 2 .zip (fun vs H R => ∃ a b xs ys, vs = [.ref a, .ref b] ∧ ((SqL T.K H a xs ∧ SqL T.K H b ys ∧ R (Itz T.K a b) H) ∨ (SqT T.K H a xs ∧ SqT T.K H b ys ∧ R (RZ.ItzT T.K a b) H))) := fun ds vs F H S R its ln hi hs pk k => by
  obtain ⟨d, e, rfl⟩ := len2 ln
  obtain ⟨v, u, rfl, ⟨w, ew, sl, st⟩, w2, ew2, sl2, st2⟩ := pkS_two pk
  have hi : itZip [d, e] = .ok its := hi
  cases d with
  | lst l =>
    cases e with
    | lst m =>
      cases hi
      obtain ⟨a, xs, rfl, rz, keep⟩ := Sl.asL ew sl hs st
      obtain ⟨b, ys, rfl, rz2, keep2⟩ := Sl.asL ew2 sl2 hs st2
      refine ⟨a, b, xs, ys, rfl, .inl ⟨.inl (.inl (keep H (KpS.refl hs))), .inl (.inl (keep2 H (KpS.refl hs))), k _ fun H' F' kp m s i => ⟨fun hl => ⟨xs, ys, .inl (.inl (keep H' kp)), .inl (.inl (keep2 H' kp)), by rw [← rz.len, ← rz2.len]; rw [List.length_zipWith] at hl; omega⟩, fun d hd => ?_⟩⟩⟩
      obtain ⟨x, y, hx, hy, rfl⟩ := zip_get hd
      obtain ⟨x', hx', rx⟩ := rz.get hx
      obtain ⟨y', hy', ry⟩ := rz2.get hy
      refine ⟨⟨xs, ys, x', y', .inl (.inl (keep H' kp)), .inl (.inl (keep2 H' kp)), hx', hy'⟩, fun v H'' ⟨P, z, t, ev, hP, eH, hz, ht⟩ => ?_⟩
      subst ev
      subst eH
      have e1 := hz xs (.inl (.inl (keep H' kp)))
      have e2 := ht ys (.inl (.inl (keep2 H' kp)))
      rw [hx'] at e1
      rw [hy'] at e2
      cases e1
      cases e2
      exact ⟨_, Nw.tup s (.cons (Rz.sub m _ _ rx) (.cons (Rz.sub m _ _ ry) rfl)) hP⟩
    | _ => cases hi
  | tup l =>
    cases e with
    | tup m =>
      cases hi
      obtain ⟨a, xs, rfl, rz, sq⟩ := Sl.asT ew sl
      obtain ⟨b, ys, rfl, rz2, sq2⟩ := Sl.asT ew2 sl2
      refine ⟨a, b, xs, ys, rfl, .inr ⟨SqT.sub hs sq, SqT.sub hs sq2, k _ fun H' F' kp m s i => ⟨fun hl => ⟨xs, ys, SqT.sub kp.1 sq, SqT.sub kp.1 sq2, by rw [← rz.len, ← rz2.len]; rw [List.length_zipWith] at hl; omega⟩, fun d hd => ?_⟩⟩⟩
      obtain ⟨x, y, hx, hy, rfl⟩ := zip_get hd
      obtain ⟨x', hx', rx⟩ := rz.get hx
      obtain ⟨y', hy', ry⟩ := rz2.get hy
      refine ⟨⟨xs, ys, x', y', SqT.sub kp.1 sq, SqT.sub kp.1 sq2, hx', hy'⟩, fun v H'' ⟨P, z, t, ev, hP, eH, hz, ht⟩ => ?_⟩
      subst ev
      subst eH
      have e1 := hz xs (SqT.sub kp.1 sq)
      have e2 := ht ys (SqT.sub kp.1 sq2)
      rw [hx'] at e1
      rw [hy'] at e2
      cases e1
      cases e2
      exact ⟨_, Nw.tup s (.cons (Rz.sub m _ _ rx) (.cons (Rz.sub m _ _ ry) rfl)) hP⟩
    | _ => cases hi
  | _ => cases hi
/-- what is walked: tg takes the items of iter -/
def BI (A : Amb) (S : SC) (k : IK) (tg iter : Expr) (fl : Env → Res (List Arg × Env)) : Prop := ∃ (ta : TA) (n : Nat) (r : List V → Hp → (It → Hp → Prop) → Prop), (∀ X, Good A S X → PI X tg iter (fun σ H R => ta σ H fun vs H1 => r vs H1 R)) ∧ RdA A.T A.E fl ta ∧ LenA n fl ∧ IkS A.T n k r
theorem bi_seq {fl : Env → Res (List Arg × Env)} (h : BL A S [e] fl) : BI A S .plain tg e fl := by
  obtain ⟨ts, h1, h2, h3⟩ := h
  obtain ⟨t, rfl, h1'⟩ := h1.one
  refine ⟨_, 1, _, fun X g => ?_, h2, h3, ik_seq⟩
  have := pi_seq (tg := tg) (h1' X g)
  rw [g.K] at this
  refine ⟨fun pins s σ H R I q => this.run pins s σ H R I ?_⟩
  refine cast ?_ q
  show t σ H (fun x H1 => ∃ x_1, [x] = [x_1] ∧ _) = t σ H _
  congr 1
  funext x H1
  refine propext ⟨?_, fun q => ⟨x, rfl, q⟩⟩
  rintro ⟨y, e, q⟩
  cases e
  exact q
theorem bi_rng1 {fl : Env → Res (List Arg × Env)} (hg : glob S "range" = true) (hm : A.T.mg "range" = none) (hn : noStars [a] = true) (h : BL A S [a] fl) : BI A S (.range 1) tg (.Call (.Name "range" p) [a] [] pos) fl := by
  obtain ⟨ts, h1, h2, h3⟩ := h
  obtain ⟨n1, n2⟩ := Bool.and_eq_true_iff.mp (show (noStar a && noStars []) = true from hn)
  exact ⟨_, 1, _, fun X g => pi_range1 (glob_ok g hg) (by rw [g.mg]; exact hm) (h1.pa g hn) (star_ok n1), h2, h3, ik_rng1⟩
theorem bi_rng2 {fl : Env → Res (List Arg × Env)} (hg : glob S "range" = true) (hm : A.T.mg "range" = none) (hn : noStars [a, b] = true) (h : BL A S [a, b] fl) : BI A S (.range 2) tg (.Call (.Name "range" p) [a, b] [] pos) fl := by
  obtain ⟨ts, h1, h2, h3⟩ := h
  obtain ⟨n1, n2⟩ := Bool.and_eq_true_iff.mp (show (noStar a && noStars [b]) = true from hn)
  obtain ⟨n3, n4⟩ := Bool.and_eq_true_iff.mp (show (noStar b && noStars []) = true from n2)
  exact ⟨_, 2, _, fun X g => pi_range2 (glob_ok g hg) (by rw [g.mg]; exact hm) (h1.pa g hn) (by rw [star_ok n1, star_ok n3]; rfl) (star_ok n3), h2, h3, ik_rng2⟩
theorem bi_rng3 {fl : Env → Res (List Arg × Env)} (hg : glob S "range" = true) (hm : A.T.mg "range" = none) (hn : noStars [a, b, c] = true) (h : BL A S [a, b, c] fl) : BI A S (.range 3) tg (.Call (.Name "range" p) [a, b, c] [] pos) fl := by
  obtain ⟨ts, h1, h2, h3⟩ := h
  obtain ⟨n1, n2⟩ := Bool.and_eq_true_iff.mp (show (noStar a && noStars [b, c]) = true from hn)
  exact ⟨_, 3, _, fun X g => pi_range3 (glob_ok g hg) (by rw [g.mg]; exact hm) (h1.pa g hn) (star_ok n1) (star_any n2), h2, h3, ik_rng3⟩
theorem bi_enum {elts : List Expr} {kk : Nat} {fl : Env → Res (List Arg × Env)} (hg : glob S "enumerate" = true) (hm : A.T.mg "enumerate" = none) (hn : noStars [a] = true) (h : BL A S [a] fl) : BI A S .enum (.Tuple elts kk tpos) (.Call (.Name "enumerate" p) [a] [] pos) fl := by
  obtain ⟨ts, h1, h2, h3⟩ := h
  obtain ⟨n1, n2⟩ := Bool.and_eq_true_iff.mp (show (noStar a && noStars []) = true from hn)
  exact ⟨_, 1, _, fun X g => by rw [← g.K]; exact pi_enumA (glob_ok g hg) (by rw [g.mg]; exact hm) (h1.pa g hn) (star_ok n1), h2, h3, ik_enum⟩
theorem bi_zip {elts : List Expr} {kk : Nat} {fl : Env → Res (List Arg × Env)} (hg : glob S "zip" = true) (hm : A.T.mg "zip" = none) (hn : noStars [a, b] = true) (h : BL A S [a, b] fl) : BI A S .zip (.Tuple elts kk tpos) (.Call (.Name "zip" p) [a, b] [] pos) fl := by
  obtain ⟨ts, h1, h2, h3⟩ := h
  obtain ⟨n1, n2⟩ := Bool.and_eq_true_iff.mp (show (noStar a && noStars [b]) = true from hn)
  exact ⟨_, 2, _, fun X g => by rw [← g.K]; exact RZ.pi_zipA (glob_ok g hg) (by rw [g.mg]; exact hm) (h1.pa g hn) (star_ok n1) (star_any n2), h2, h3, ik_zip⟩
end
end Rx

set_option Elab.async false
set_option linter.all false
set_option autoImplicit false
set_option maxRecDepth 100000
namespace Rx
open PySem L2
open PySem.Spec
open PyProof.Rows
section
variable {T : TX} {E : XK} {σ : L2.St} {F H F' H' : Hp} {env env' : Env}
theorem putF_new {f : Str} {v : V} : ∀ {xs : List (Str × V)}, xs.lookup f = none → putF f v xs = xs ++ [(f, v)]
  | [], _ => rfl
  | (g, x) :: r, h => by
    by_cases e : f = g
    · subst e
      simp at h
    · have e2 : (f == g) = false := by simpa using e
      have h : r.lookup f = none := by simpa [List.lookup_cons, e2] using h
      show (if g = f then (g, v) :: r else (g, x) :: putF f v r) = _
      rw [if_neg (fun z => e z.symm), putF_new h] <;> rfl
/-- o.f = e, f not there yet -/
theorem rd_fset {k : Nat} {f : Str} {fa : Env → Res (Val × Env)} {te : TE} (fx : ∀ c C, T.ca c = some C → Cls T.K C ∧ NoAttr T.K C f) (h : RdE T E fa te) : RdS T E (fun env => (fa env).bind fun (w, env1) => (mutSlot k env1 fun o => match o with
      | .oi c fs => if (fs.lookup f).isNone && decide (fs.length < 1000) then .ok ((), .oi c (fs ++ [(f, w.frz)])) else .bad
      | _ => .bad).bind fun (_, env2) => .ok (.nx, env2)) (sFld T.K (tVar k) te f) := RdS.mk fun σ F H env D st q => by
  refine h σ F H env _ st (q.bind.mono (fun (w, env1) q1 y F1 H1 p1 m1 f1 => ?_) fun _ _ x => x)
  have q1 := Res.Post.bind q1
  unfold mutSlot at q1
  cases e1 : env1[k]? with
  | none =>
    rw [e1] at q1
    exact q1.elim
  | some s =>
    rw [e1] at q1
    cases s with
    | emp => exact q1.elim
    | lck => exact q1.elim
    | val p o =>
      cases o with
      | oi c fs =>
        have q1 := Res.Post.bind (x := (if ((fs.lookup f).isNone && decide (fs.length < 1000)) = true then Res.ok ((), Val.oi c (fs ++ [(f, w.frz)])) else .bad)) q1
        cases hc : ((fs.lookup f).isNone && decide (fs.length < 1000)) with
        | false =>
          rw [hc] at q1
          exact q1.elim
        | true =>
          rw [hc] at q1
          obtain ⟨c1, c2⟩ := Bool.and_eq_true_iff.mp hc
          obtain ⟨F2, mo, su, rz, gr⟩ := m1.sl.freeze p1.st.sub
          have p2 : Pt T σ F H env F2 H1 env1 := p1.more mo su fun a n => (gr a n).imp_right fun ⟨hw, ev⟩ => ⟨m1.no hw a ev, f1 hw a ev⟩
          obtain ⟨v1, ev1, a1, C, dx, xs1, rfl, hC, hH1, rz1, hF1⟩ := p2.st.sl k p _ e1
          have hnone : fs.lookup f = none := by simpa using c1
          refine ⟨.ref a1, ev1, a1, C, dx, xs1, rfl, hH1, (fx c C hC).1, (fx c C hC).2, by rw [← rz1.len]; exact of_decide_eq_true c2, ?_⟩
          rw [putF_new (rz1.lookup_none hnone)]
          have p3 := p2.st.write (o := .ins C dx (xs1 ++ [(f, y)])) e1 rfl (w' := .oi c (fs ++ [(f, w.frz)])) rfl ev1 (by rw [hH1]; simp) hF1 ⟨a1, C, dx, _, rfl, hC, upd_same, rz1.app ⟨y, [], rfl, rz, rfl⟩, hF1⟩
          exact q1 σ F2 _ ((p2.trans p3).toS st)
      | _ => exact q1.elim
end
section
variable {A : Amb} {S : SC} {X : Cx} {a b c e o tg iter : Expr} {es : List Expr} {ta tb : TE} {pos p p2 apos tpos : Pos} {ts : List TE} {T : TX} {F H : Hp} {fa fb fc : Env → Res (Val × Env)} {x : Str} {i : Nat}
/-! ### what is stored to -/
def BG (A : Amb) (S : SC) (tg : Expr) (f : D → Env → Res Env) (is : List Nat) : Prop := ∃ g, (∀ X, Good A S X → PG X tg g) ∧ RdTg A.T A.E f is g
def BGs (A : Amb) (S : SC) (tgs : List Expr) (f : List D → Env → Res Env) (is : List Nat) : Prop := ∃ g, (∀ X, Good A S X → PGs X tgs g) ∧ RdTgs A.T A.E f is g
def stor (S : SC) (x : Str) : Bool := match kOf S x with
  | some .local => true
  | some .cell => S.fn x
  | _ => false
theorem stor_ok (g : Good A S X) (h : stor S x = true) : L2.Loc X.env.scope x ∧ (X.fn x = true ∨ X.env.scope.names.lookup x = some .local) := by
  unfold stor at h
  have e : X.env.scope.names.lookup x = kOf S x := g.kind x
  unfold L2.Loc
  rw [e, g.fn]
  cases hk : kOf S x with
  | none => rw [hk] at h; cases h
  | some k =>
    rw [hk] at h
    cases k <;> first | exact ⟨.inl rfl, .inr rfl⟩ | exact ⟨.inr rfl, .inl h⟩ | cases h
theorem bg_nm (nd : S.N.Nodup) (hN : S.N[i]? = some x) (hs : stor S x = true) : BG A S (.Name x pos) (fun d env => setSlot i (.fz d) env) [i] :=
  ⟨_, fun X g => pg_name (by rw [g.N]; exact nd) (by rw [g.N]; exact hN) (stor_ok g hs).1 (stor_ok g hs).2, rd_nm⟩
theorem bgs_nil {f : List D → Env → Res Env} (e1 : ∀ env, f [] env = .ok env) (e2 : ∀ d ds env, f (d :: ds) env = .bad) : BGs A S [] f [] := ⟨_, fun X g => pgs_nil, rd_tgs_nil e1 e2⟩
theorem asg_star {env : PySem.Env} (h : noStar e = true) : assignEach (e :: es) env = (false, assign e env) :: assignEach es env := by
  cases e <;> first | rfl | cases h
theorem asg_len : ∀ {es : List Expr} {env : PySem.Env}, noStars es = true → (assignEach es env).length = es.length ∧ (assignEach es env).findIdx? (·.1) = none
  | [], _, _ => ⟨rfl, rfl⟩
  | e :: es, env, h => by
    obtain ⟨h1, h2⟩ := Bool.and_eq_true_iff.mp (show (noStar e && noStars es) = true from h)
    obtain ⟨i1, i2⟩ := asg_len (env := env) h2
    rw [asg_star h1]
    refine ⟨by rw [List.length_cons, i1, List.length_cons], ?_⟩
    rw [List.findIdx?_cons, i2] <;> rfl
theorem bgs_cons {f : D → Env → Res Env} {fs h : List D → Env → Res Env} {is js : List Nat} (hn : noStar e = true) (h1 : BG A S e f is) (h2 : BGs A S es fs js)
    (e1 : ∀ env, h [] env = .bad) (e2 : ∀ d ds env, h (d :: ds) env = (f d env).bind fun env1 => fs ds env1) : BGs A S (e :: es) h (is ++ js) := by
  obtain ⟨g, a1, a2⟩ := h1
  obtain ⟨gs, b1, b2⟩ := h2
  exact ⟨_, fun X gd => pgs_cons (a1 X gd) (b1 X gd) (by rw [asg_star hn]; rfl), rd_tgs_cons a2 b2 e1 e2⟩
theorem bg_tp {fs : List D → Env → Res Env} {is : List Nat} {k : Nat} (hn : noStars es = true) (h : BGs A S es fs is) : BG A S (.Tuple es k pos) (fun d env => match d with
    | .tup l => if l.length = es.length then fs l env else .bad
    | _ => .bad) is := by
  obtain ⟨gs, b1, b2⟩ := h
  refine ⟨_, fun X gd => ?_, rd_tp b2⟩
  rw [← gd.K]
  exact pg_tup gd.calm (b1 X gd) (asg_len hn).1 (asg_len hn).2
theorem asg_sub (h : noSlice a = true) (env : PySem.Env) : ∀ v, assign (.Subscript o a pos) env v = (do
      let ov ← holding [v] (eval o env)
      let iv ← holding [v, ov] (eval a env)
      standAt pos
      holding [v, ov, iv] (setItem ov iv v)
      release [v, ov, iv] []) := fun v => by
  cases a <;> first | rfl | cases h
theorem bg_sub {k : Nat} (hN : S.N[k]? = some x) (hv : vis S x = true) (hx : plainN x = true) (hs : noSlice a = true) (h : BE A S a fa) : BG A S (.Subscript (.Name x p) a pos) (fun d env => match env[k]? with
    | some (.val _ (.own _)) => (fa env).bind fun (i, env1) => (mutSlot k env1 fun w => (setI w i.frz d).bind fun w' => .ok ((), w')).bind fun (_, env2) => .ok env2
    | _ => .bad) [] := by
  obtain ⟨t, h1, h2⟩ := h
  exact ⟨_, fun X g => pg_sub (pe_varG hN hv hx X g) (h1 X g).1 set_list (asg_sub hs X.env), rd_sub h2⟩
/-! ### statements -/
def BS (A : Amb) (S : SC) (st : Stmt) (f : Env → Res (Fl × Env)) : Prop := ∃ t : TS, (∀ X, Good A S X → PS X st t) ∧ RdS A.T A.E f t
def BSs (A : Amb) (S : SC) (st : List Stmt) (f : Env → Res (Fl × Env)) : Prop := ∃ t : TS, (∀ X, Good A S X → PSs X st t) ∧ RdS A.T A.E f t
variable {s : Stmt} {ss ss2 : List Stmt} {f g : Env → Res (Fl × Env)}
theorem bss_nil : BSs A S [] (fun env => .ok (.nx, env)) := ⟨_, fun X g => pss_nil, rd_nilS⟩
theorem bss_cons (h : BS A S s f) (r : BSs A S ss g) : BSs A S (s :: ss) (fun env => (f env).bind fun (f, env1) => match f with
      | .nx => g env1
      | f => .ok (f, env1)) := by
  obtain ⟨t, h1, h2⟩ := h
  obtain ⟨u, r1, r2⟩ := r
  exact ⟨_, fun X gd => pss_cons (h1 X gd) (r1 X gd), rd_consS h2 r2⟩
theorem bs_pass : BS A S (.Pass pos) (fun env => .ok (.nx, env)) := ⟨_, fun X g => ps_pass, rd_pass⟩
theorem bs_doc {j : Nat} : BS A S (.Expr (.Constant (.str x) j p) pos) (fun env => .ok (.nx, env)) := ⟨_, fun X g => ps_doc, rd_pass⟩
theorem bs_brk : BS A S (.Break pos) (fun env => .ok (.bk, env)) := ⟨_, fun X g => ps_break, rd_brk⟩
theorem bs_cnt : BS A S (.Continue pos) (fun env => .ok (.ct, env)) := ⟨_, fun X g => ps_continue, rd_cnt⟩
theorem bs_retN : BS A S (.Return none pos) (fun env => .ok (.rt (.fz .non), env)) := ⟨_, fun X g => ps_retN, rd_retN⟩
theorem bs_ret (h : BE A S e fa) : BS A S (.Return (some e) pos) (fun env => (fa env).bind fun (w, env1) => .ok (.rt w, env1)) := by
  obtain ⟨t, h1, h2⟩ := h
  exact ⟨_, fun X g => ps_ret (h1 X g).1, rd_ret h2⟩
theorem bs_retV (hN : S.N[i]? = some x) (hv : vis S x = true) (hx : plainN x = true) : BS A S (.Return (some (.Name x p)) pos) (fun env => (mvVar i env).bind fun (w, env1) => .ok (.rt w, env1)) :=
  ⟨_, fun X g => ps_ret (pe_varG hN hv hx X g), rd_retV⟩
theorem bs_never : BS A S s (fun _ => .bad) := ⟨tNever, fun X g => ps_never, fun σ F H env D st q => q.elim⟩
/-- no comprehension -/
def noComp : Expr → Bool
  | .ListComp _ _ _ _ => false
  | .SetComp _ _ _ _ => false
  | .DictComp _ _ _ _ _ => false
  | _ => true
theorem swaps_ok {tgo : Option Expr} {n : Nat} {env : PySem.Env} (h : noComp e = true) : swapsWith e tgo n env = pure false := by
  cases e <;> first | rfl | cases h
theorem bs_expr (hc : noComp e = true) (h : BE A S e fa) : BS A S (.Expr e pos) (fun env => (fa env).bind fun (_, env1) => .ok (.nx, env1)) := by
  obtain ⟨t, h1, h2⟩ := h
  exact ⟨_, fun X g => ps_expr (h1 X g).1 (swaps_ok hc), rd_expr h2⟩
theorem bs_asgN (nd : S.N.Nodup) (hN : S.N[i]? = some x) (hs : stor S x = true) (hc : noComp e = true) (h : BE A S e fa) : BS A S (.Assign [.Name x p] e pos) (fun env => (fa env).bind fun (w, env1) => (setSlot i w env1).bind fun env2 => .ok (.nx, env2)) := by
  obtain ⟨t, h1, h2⟩ := h
  exact ⟨_, fun X g => ps_set (by rw [g.N]; exact nd) (by rw [g.N]; exact hN) (stor_ok g hs).1 (h1 X g).1 (swaps_ok hc) (stor_ok g hs).2, rd_asgN h2⟩
def noName : Expr → Bool
  | .Name _ _ => false
  | _ => true
theorem sole_ok {n : Nat} {env : PySem.Env} (h : noName tg = true) : swapsWithSole [tg] e n env = pure false := by
  show swapsWith e (some tg) n env = pure false
  cases e <;> first | rfl | (cases tg <;> first | rfl | cases h)
/-- what stores out of order: as the compiler sees it -/
def swapC (kind : Str → Option NameKind) (ts vs : List Expr) : Option (Option (List Str)) :=
  if !(ts.length == 2 || ts.length == 3) || vs.length != ts.length then some none
  else if vs.any fun | .Starred .. => true | _ => false then some none
  else
    let line := (ts.head?.map (·.pos.line)).getD 0
    let names := ts.filterMap fun
      | .Name id pos => if kind id == some .local && pos.line == line then some id else none
      | _ => none
    if names.length != ts.length || names.eraseDups.length != names.length then some none
    else if vs.all (foldedForSure 8) then some none
    else if vs.all (constantsAlone 8) then none
    else some (some names)
def noTup : Expr → Bool
  | .Tuple _ _ _ => false
  | _ => true
def noSeq : Expr → Bool
  | .Tuple _ _ _ => false
  | .List _ _ => false
  | _ => true
theorem swapped_none {env : PySem.Env} (h : noTup e = true ∨ noSeq tg = true) : swappedStores [tg] e env = pure none := by
  unfold swappedStores
  rcases h with h | h
  · cases e <;> first | cases h | skip
    all_goals (cases tg <;> rfl)
  · cases tg <;> first | cases h | skip
    all_goals (cases e <;> rfl)
theorem blk_fun (g : Good A S X) (hk : S.sc.kind = .function) : X.env.blockKind = .function := by
  unfold Env.blockKind
  rw [g.sc, hk]
  rfl
theorem swapped_tup (g : Good A S X) (hk : S.sc.kind = .function) {tl vl : List Expr} {k k2 : Nat} {r : Option (List Str)} (h : swapC (kOf S) tl vl = some r) : swappedStores [.Tuple tl k p] (.Tuple vl k2 p2) X.env = pure r := by
  have hkind : X.env.kindOf = kOf S := funext g.kind
  unfold swappedStores
  simp only [blk_fun g hk, hkind, show ((ScopeKind.function != ScopeKind.function) = true) = False from by simp, bne_self_eq_false, Bool.or_false]
  unfold swapC at h
  split at h
  · rename_i c
    cases h
    exact if_pos c
  · rename_i c
    refine Eq.trans (if_neg c) ?_
    split at h
    · rename_i c
      cases h
      exact if_pos c
    · rename_i c
      refine Eq.trans (if_neg c) ?_
      dsimp only at h ⊢
      split at h
      · rename_i c
        cases h
        exact if_pos c
      · rename_i c
        refine Eq.trans (if_neg c) ?_
        split at h
        · rename_i c
          cases h
          exact if_pos c
        · rename_i c
          refine Eq.trans (if_neg c) ?_
          split at h
          · cases h
          · rename_i c
            cases h
            exact if_neg c
end
end Rx

set_option Elab.async false
set_option linter.all false
set_option autoImplicit false
set_option maxRecDepth 100000
namespace Rx
open PySem L2
open PySem.Spec
open PyProof.Rows
section
variable {A : Amb} {S : SC} {X : Cx} {a b c e o tg iter : Expr} {es tgs : List Expr} {ta tb : TE} {pos p p2 apos tpos : Pos} {ts : List TE} {T : TX} {F H : Hp} {fa fb fc : Env → Res (Val × Env)} {x y z : Str} {i j l : Nat}
variable {s : Stmt} {ss ss2 : List Stmt} {f g : Env → Res (Fl × Env)}
theorem bs_asgT {ft : D → Env → Res Env} {is : List Nat} (hn : noName tg = true) (hst : noStar tg = true) (hsw : ∀ X, Good A S X → swappedStores [tg] e X.env = pure none) (h : BE A S e fa) (hg : BG A S tg ft is) :
    BS A S (.Assign [tg] e pos) (fun env => (fa env).bind fun (w, env1) => (ft w.frz env1).bind fun env2 => .ok (.nx, env2)) := by
  obtain ⟨t, h1, h2⟩ := h
  obtain ⟨g, g1, g2⟩ := hg
  exact ⟨_, fun X gd => ps_asg (h1 X gd).1 (g1 X gd) (sole_ok hn) (hsw X gd) (by rw [asg_star hst]; rfl), rd_asgT h2 g2⟩
def slots (N : List Str) : List Nat → List Expr → Bool
  | [], [] => true
  | i :: is, .Name x _ :: es => N[i]? == some x && slots N is es
  | _, _ => false
theorem loc_of (gd : Good A S X) (h : kOf S x = some .local) : X.env.scope.names.lookup x = some .local := (gd.kind x).trans h
theorem bs_par2 {px py pt : Pos} {kt k2 : Nat} {pt2 : Pos} {fl : Env → Res (List Val × Env)} (nd : S.N.Nodup) (hN : S.N[i]? = some x) (hM : S.N[j]? = some y) (hij : i ≠ j) (hx : kOf S x = some .local) (hy : kOf S y = some .local) (hk : S.sc.kind = .function)
    (hn : noStars [a, b] = true) (hsw : swapC (kOf S) [.Name x px, .Name y py] [a, b] = some (some [x, y])) (h : BV A S [a, b] fl) : BS A S (.Assign [.Tuple [.Name x px, .Name y py] kt pt] (.Tuple [a, b] k2 pt2) pos) (parF fl [i, j]) := by
  obtain ⟨ts, h1, h2, h3⟩ := h
  exact ⟨_, fun X gd => ps_par gd.calm (by rw [gd.N]; exact nd) (by rw [gd.N]; exact hN) (by rw [gd.N]; exact hM) hij (loc_of gd hx) (loc_of gd hy) (h1.pa gd hn) (swapped_tup gd hk hsw) (sole_ok rfl), rd_par2 h2⟩
theorem bs_par3 {px py pz pt : Pos} {kt k2 : Nat} {pt2 : Pos} {fl : Env → Res (List Val × Env)} (nd : S.N.Nodup) (hN : S.N[i]? = some x) (hM : S.N[j]? = some y) (hL : S.N[l]? = some z) (hij : i ≠ j) (hil : i ≠ l) (hjl : j ≠ l) (hx : kOf S x = some .local) (hy : kOf S y = some .local) (hz : kOf S z = some .local) (hk : S.sc.kind = .function)
    (hn : noStars [a, b, c] = true) (hsw : swapC (kOf S) [.Name x px, .Name y py, .Name z pz] [a, b, c] = some (some [x, y, z])) (h : BV A S [a, b, c] fl) : BS A S (.Assign [.Tuple [.Name x px, .Name y py, .Name z pz] kt pt] (.Tuple [a, b, c] k2 pt2) pos) (parF fl [i, j, l]) := by
  obtain ⟨ts, h1, h2, h3⟩ := h
  exact ⟨_, fun X gd => ps_par3 gd.calm (by rw [gd.N]; exact nd) (by rw [gd.N]; exact hN) (by rw [gd.N]; exact hM) (by rw [gd.N]; exact hL) hij hil hjl (loc_of gd hx) (loc_of gd hy) (loc_of gd hz) (h1.pa gd hn) (swapped_tup gd hk hsw) (sole_ok rfl), rd_par3 h2⟩
/-- names, all to be stored to -/
def namesC (S : SC) : List Nat → List Expr → Bool
  | [], [] => true
  | i :: is, .Name x _ :: es => S.N[i]? == some x && stor S x && namesC S is es
  | _, _ => false
theorem names_ok (nd : S.N.Nodup) : ∀ {is : List Nat} {es : List Expr}, namesC S is es = true → noStars es = true ∧ es.length = is.length ∧ ∀ X, Good A S X → PGs X es (gNames is)
  | [], [], _ => ⟨rfl, rfl, fun X gd => pgs_nil⟩
  | i :: is, .Name x p :: es, h => by
    obtain ⟨h, h3⟩ := Bool.and_eq_true_iff.mp (show (S.N[i]? == some x && stor S x && namesC S is es) = true from h)
    obtain ⟨h1, h2⟩ := Bool.and_eq_true_iff.mp h
    obtain ⟨r1, r2, r3⟩ := names_ok nd h3
    refine ⟨r1, by rw [List.length_cons, List.length_cons, r2], fun X gd => ?_⟩
    exact pgs_cons (pg_name (by rw [gd.N]; exact nd) (by rw [gd.N]; exact beq_iff_eq.mp h1) (stor_ok gd h2).1 (stor_ok gd h2).2) (r3 X gd) rfl
  | [], e :: es, h => by cases h
  | i :: is, [], h => by cases h
  | i :: is, .BoolOp .. :: es, h => by cases h
  | i :: is, .NamedExpr .. :: es, h => by cases h
  | i :: is, .BinOp .. :: es, h => by cases h
  | i :: is, .UnaryOp .. :: es, h => by cases h
  | i :: is, .Lambda .. :: es, h => by cases h
  | i :: is, .IfExp .. :: es, h => by cases h
  | i :: is, .Dict .. :: es, h => by cases h
  | i :: is, .Set .. :: es, h => by cases h
  | i :: is, .ListComp .. :: es, h => by cases h
  | i :: is, .SetComp .. :: es, h => by cases h
  | i :: is, .DictComp .. :: es, h => by cases h
  | i :: is, .GeneratorExp .. :: es, h => by cases h
  | i :: is, .Await .. :: es, h => by cases h
  | i :: is, .Yield .. :: es, h => by cases h
  | i :: is, .YieldFrom .. :: es, h => by cases h
  | i :: is, .Compare .. :: es, h => by cases h
  | i :: is, .Call .. :: es, h => by cases h
  | i :: is, .FormattedValue .. :: es, h => by cases h
  | i :: is, .JoinedStr .. :: es, h => by cases h
  | i :: is, .Constant .. :: es, h => by cases h
  | i :: is, .Attribute .. :: es, h => by cases h
  | i :: is, .Subscript .. :: es, h => by cases h
  | i :: is, .Starred .. :: es, h => by cases h
  | i :: is, .List .. :: es, h => by cases h
  | i :: is, .Tuple .. :: es, h => by cases h
  | i :: is, .Slice .. :: es, h => by cases h
theorem bs_parT {is : List Nat} {kt k2 : Nat} {pt pt2 : Pos} {fl : Env → Res (List Val × Env)} (nd : S.N.Nodup) (hc : namesC S is tgs = true) (hk : S.sc.kind = .function) (hl : is.length ≤ 1000) (hn : noStars es = true) (hsw : swapC (kOf S) tgs es = some none) (h : BV A S es fl) :
    BS A S (.Assign [.Tuple tgs kt pt] (.Tuple es k2 pt2) pos) (parF fl is) := by
  obtain ⟨ts, h1, h2, h3⟩ := h
  obtain ⟨n1, n2, n3⟩ := names_ok (A := A) nd hc
  refine ⟨_, fun X gd => ?_, rd_parT h2 (Nat.le_trans hl (by decide))⟩
  rw [← gd.K]
  exact ps_asg (pe_tup (h1.pa gd hn)) (pg_tup gd.calm (n3 X gd) ((asg_len n1).1.trans n2) (asg_len n1).2) (sole_ok rfl) (swapped_tup gd hk hsw) rfl
theorem bs_augA (nd : S.N.Nodup) (hN : S.N[i]? = some x) (hs : stor S x = true) (h : BE A S e fa) : BS A S (.AugAssign (.Name x p) .Add e pos) (fun env => match env[i]? with
    | some (.val false (.fz (.int x))) => (fa env).bind fun (w, env1) => match w with
      | .fz (.int y) => (Res.ok (x + y)).bind fun z => (setSlot i (.fz (.int z)) env1).bind fun env2 => .ok (.nx, env2)
      | _ => .bad
    | _ => .bad) := by
  obtain ⟨t, h1, h2⟩ := h
  exact ⟨_, fun X gd => ps_aug (by rw [gd.N]; exact nd) (by rw [gd.N]; exact hN) (stor_ok gd hs).1 (h1 X gd).1 ip_add (stor_ok gd hs).2, rd_augI h2⟩
theorem bs_augS (nd : S.N.Nodup) (hN : S.N[i]? = some x) (hs : stor S x = true) (h : BE A S e fa) : BS A S (.AugAssign (.Name x p) .Sub e pos) (fun env => match env[i]? with
    | some (.val false (.fz (.int x))) => (fa env).bind fun (w, env1) => match w with
      | .fz (.int y) => (Res.ok (x - y)).bind fun z => (setSlot i (.fz (.int z)) env1).bind fun env2 => .ok (.nx, env2)
      | _ => .bad
    | _ => .bad) := by
  obtain ⟨t, h1, h2⟩ := h
  exact ⟨_, fun X gd => ps_aug (by rw [gd.N]; exact nd) (by rw [gd.N]; exact hN) (stor_ok gd hs).1 (h1 X gd).1 ip_sub (stor_ok gd hs).2, rd_augI h2⟩
theorem swapsA_ok {fld : Str} {p' : Pos} {n : Nat} {env : PySem.Env} : swapsWith e (some (.Attribute o fld p')) n env = pure false := by
  cases e <;> rfl
theorem bs_fset {fs bn : List Str} (fx : Facts A fs bn) {fn : Str} {k : Nat} (hf : fn ∈ fs) (hN : S.N[k]? = some x) (hv : vis S x = true) (hx : plainN x = true) (h : BE A S e fa) : BS A S (.Assign [.Attribute (.Name x p) fn p2] e pos) (fun env => (fa env).bind fun (w, env1) => (mutSlot k env1 fun o => match o with
      | .oi c fs => if (fs.lookup fn).isNone && decide (fs.length < 1000) then .ok ((), .oi c (fs ++ [(fn, w.frz)])) else .bad
      | _ => .bad).bind fun (_, env2) => .ok (.nx, env2)) := by
  obtain ⟨t, h1, h2⟩ := h
  refine ⟨_, fun X gd => ?_, rd_fset (fun c C hC => ⟨fx.cls c C hC, fx.noat c C hC fn hf⟩) h2⟩
  rw [← gd.K]
  exact ps_fld (pe_varG hN hv hx X gd) (h1 X gd).1 swapsA_ok
theorem swapsS_ok {i : Expr} {p' : Pos} {n : Nat} {env : PySem.Env} : swapsWith e (some (.Subscript o i p')) n env = pure false := by
  cases e <;> rfl
theorem bs_dput {k : Nat} {a : Expr} {fl : Env → Res (List Val × Env)} (hN : S.N[k]? = some x) (hv : vis S x = true) (hx : plainN x = true) (h : BV A S [e, a] fl) : BS A S (.Assign [.Subscript (.Name x p) a p2] e pos) (fun env => match env[k]? with
    | some (.val _ (.odk _)) => dputF k fl env
    | some (.val _ (.odt _)) => dputF k fl env
    | _ => .bad) := by
  obtain ⟨ts, h1, h2, h3⟩ := h
  obtain ⟨t, u, rfl, q1, q2⟩ := h1.two
  exact ⟨_, fun X gd => ps_dputM gd.units1 (pe_varG hN hv hx X gd) (q2 X gd) (q1 X gd) swapsS_ok, rd_dput h2 h3⟩
theorem bs_if (nc : ifx c = false) (hc : BE A S c fc) (ha : BSs A S ss f) (hb : BSs A S ss2 g) : BS A S (.If c ss ss2 pos) (fun env => (fc env).bind fun (w, env1) => match w with
      | .fz (.bl true) => f env1
      | .fz (.bl false) => g env1
      | _ => .bad) := by
  obtain ⟨tc, c1, c2⟩ := hc
  obtain ⟨t, a1, a2⟩ := ha
  obtain ⟨u, b1, b2⟩ := hb
  exact ⟨_, fun X gd => ps_if ((c1 X gd).2 nc) (a1 X gd) (b1 X gd), rd_if (RdT.of c2) a2 b2⟩
theorem bs_whl {n : Nat} (nc : ifx c = false) (hc : BE A S c fc) (hb : BSs A S ss f) : BS A S (.While c ss [] pos) (fun env => whlL (fun env => (fc env).bind fun (w, env1) => match w with
      | .fz (.bl true) => (f env1).bind fun (f, env2) => .ok (some f, env2)
      | .fz (.bl false) => .ok (none, env1)
      | _ => .bad) n env) := by
  obtain ⟨tc, c1, c2⟩ := hc
  obtain ⟨t, a1, a2⟩ := hb
  exact ⟨_, fun X gd => ps_while gd.po ((c1 X gd).2 nc) (a1 X gd), rd_whl (RdT.of c2) a2⟩
theorem folded_ok {env : PySem.Env} (h : noSet e = true) (x : Value) : foldedSetIterable e env x = pure x := by
  cases e <;> first | rfl | cases h
theorem bs_for {k : IK} {fl : Env → Res (List Arg × Env)} {ft : D → Env → Res Env} {is : List Nat} (hi : BI A S k tg iter fl) (hg : BG A S tg ft is) (hb : BSs A S ss f) (hs : noSet iter = true) :
    BS A S (.For tg iter ss [] pos) (fun env => (prel fl k env).bind fun ((its, sv), env2) => (forL (fun d env => (ft d env).bind fun env3 => f env3) its env2).bind fun (f, env4) => .ok (f, unlock sv env4)) := by
  obtain ⟨ta, n, r, i1, i2, i3, i4⟩ := hi
  obtain ⟨g, g1, g2⟩ := hg
  obtain ⟨t, b1, b2⟩ := hb
  exact ⟨_, fun X gd => ps_for gd.po gd.calm (i1 X gd) (g1 X gd) (b1 X gd) (folded_ok hs), rd_for i2 i3 i4 g2 b2⟩
end
end Rx

set_option Elab.async false
set_option linter.all false
set_option autoImplicit false
set_option maxRecDepth 100000
namespace Rx
open PySem L2
open PySem.Spec
open PyProof.Rows
section
variable {T : TX} {E : XK} {σ : L2.St} {F H F' H' : Hp} {env env' : Env}
theorem Tm.pk {w : Val} {v : V} (m : Tm T σ F H env w v) : Pk T F H w.frz v := ⟨w, rfl, m.sl⟩
/-- a op1 b op2 c -/
theorem rd_chain {o p : Op} {fa fb fc : Env → Res (Val × Env)} {ta tb tc : TE} (ha : RdE T E fa ta) (hb : RdE T E fb tb) (hc : RdE T E fc tc) :
    RdE T E (fun env => (fa env).bind fun (x, env1) => (fb env1).bind fun (y, env2) => (prim o [x.frz, y.frz]).bind fun w => match w with
      | .fz (.bl true) => (fc env2).bind fun (z, env3) => (prim p [y.frz, z.frz]).bind fun w => .ok (w, env3)
      | .fz (.bl false) => .ok (.fz (.bl false), env2)
      | _ => .bad) (tChain (fun x y H Q => rP T o [x, y] H Q) (fun x y H Q => rP T p [x, y] H Q) ta tb tc) := fun σ F H env Q st q => by
  refine ha σ F H env _ st (q.bind.mono (fun (x, env1) q1 vx F1 H1 p1 m1 f1 => ?_) fun _ _ x => x)
  refine hb σ F1 H1 env1 _ p1.st ((Res.Post.bind q1).mono (fun (y, env2) q2 vy F2 H2 p2 m2 f2 => ?_) fun _ _ x => x.pt p1)
  have p12 := p1.trans p2
  have q2 := Res.Post.bind (x := prim o [x.frz, y.frz]) q2
  cases e1 : prim o [x.frz, y.frz] with
  | bad => rw [e1] at q2; exact q2.elim
  | exc c fs => exact absurd e1 (prim_noexc _ _ _)
  | ok w =>
    rw [e1] at q2
    refine ⟨[x.frz, y.frz], F2, w, rfl, e1, p12.st.sub, ⟨vx, [vy], rfl, (m1.stays p2).pk, ⟨vy, [], rfl, m2.pk, rfl⟩⟩, fun v F3 H3 nw => ?_⟩
    obtain ⟨p3, m3, f3⟩ := nw.pt p12.st
    have p13 := p12.trans p3
    cases w with
    | fz d =>
      cases d with
      | bl b =>
        refine ⟨b, nw.sl, ?_⟩
        cases b with
        | false =>
          rw [if_neg Bool.false_ne_true]
          exact q2 (.bl false) F3 H3 p13 (Tm.fz rfl) (Fresh.fz _ _)
        | true =>
          rw [if_pos rfl]
          refine hc σ F3 H3 env2 _ p13.st ((Res.Post.bind (x := fc env2) q2).mono (fun (z, env3) q3 vz F4 H4 p4 m4 f4 => ?_) fun _ _ x => x.pt p13)
          have p14 := p13.trans p4
          have q3 := Res.Post.bind (x := prim p [y.frz, z.frz]) q3
          cases e2 : prim p [y.frz, z.frz] with
          | bad => rw [e2] at q3; exact q3.elim
          | exc c fs => exact absurd e2 (prim_noexc _ _ _)
          | ok u =>
            rw [e2] at q3
            refine ⟨[y.frz, z.frz], F4, u, rfl, e2, p14.st.sub, ⟨vy, [vz], rfl, ((m2.stays p3).stays p4).pk, ⟨vz, [], rfl, m4.pk, rfl⟩⟩, fun v F5 H5 nw2 => ?_⟩
            obtain ⟨p5, m5, f5⟩ := nw2.pt p14.st
            exact q3 v F5 H5 (p14.trans p5) m5 (f5.pre p14)
      | _ => exact q2.elim
    | _ => exact q2.elim
theorem prel_bind {α : Type} {fa : Env → Res (List Arg × Env)} {k : IK} {env : Env} {G : (List D × List (Nat × Slot)) × Env → Res α} : (prel fa k env).bind G = (fa env).bind fun (as, env1) => (pkArgs env1 as).bind fun ds => (iterOf k ds).bind fun its => (lockArgs as env1).bind fun (sv, env2) => G ((its, sv), env2) := by
  unfold prel
  cases fa env with
  | ok r =>
    obtain ⟨as, env1⟩ := r
    simp only [Res.bind_ok]
    cases pkArgs env1 as with
    | ok ds =>
      simp only [Res.bind_ok]
      cases iterOf k ds with
      | ok its =>
        simp only [Res.bind_ok]
        cases lockArgs as env1 with
        | ok r => simp only [Res.bind_ok]
        | exc c fs => rfl
        | bad => rfl
      | exc c fs => rfl
      | bad => rfl
    | exc c fs => rfl
    | bad => rfl
  | exc c fs => rfl
  | bad => rfl
end
section
variable {A : Amb} {S : SC} {X : Cx} {a b c e o tg iter elt : Expr} {es tgs : List Expr} {pos p p2 apos tpos : Pos} {fa fb fc fe : Env → Res (Val × Env)} {x y z : Str} {i j l : Nat}
theorem be_chain {o1 o2 : Op} {c1 c2 : CmpOp} (h1 : cmpO o1 c1 = true) (h2 : cmpO o2 c2 = true) (hc' : noSet c = true) (ha : BE A S a fa) (hb : BE A S b fb) (hc : BE A S c fc) : BE A S (.Compare a [c1, c2] [b, c] pos) (fun env => (fa env).bind fun (x, env1) => (fb env1).bind fun (y, env2) => (prim o1 [x.frz, y.frz]).bind fun w => match w with
      | .fz (.bl true) => (fc env2).bind fun (z, env3) => (prim o2 [y.frz, z.frz]).bind fun w => .ok (w, env3)
      | .fz (.bl false) => .ok (.fz (.bl false), env2)
      | _ => .bad) := by
  obtain ⟨ta, a1, a2⟩ := ha
  obtain ⟨tb, b1, b2⟩ := hb
  obtain ⟨tc, d1, d2⟩ := hc
  have hm : lastMarks [c1, c2] [b, c] = false := marks_ok hc'
  exact ⟨_, fun X g => ⟨pe_chain (cmpO_ok h1 X g) (cmpO_ok h2 X g) (a1 X g).1 (b1 X g).1 (d1 X g).1 hm, fun _ => pt_chain (cmpO_ok h1 X g) (cmpO_ok h2 X g) (a1 X g).1 (b1 X g).1 (d1 X g).1 hm⟩, rd_chain a2 b2 d2⟩
/-! ### comprehensions -/
def Amb.inn (A : Amb) : Amb := { A with E := E0 }
def SC.inn (S : SC) (scope : Scope) : SC := { S with sc := relS scope S.sc, fn := fun x => scope.names.lookup x == some .cell }
/-- where nothing is wanted of exceptions there are none -/
def CXq (CX : CXT) : Prop := ∀ st H s e s', CX st H s E0 e s' → False
theorem Good.blk (q : CXq A.CX) (g : Good A S X) {s : Shared} {H : Hp} {scope : Scope} {C : Addr} {cl : List (Str × Addr)} {fp : List Addr} : Good A.inn (S.inn scope) (X.blk s H scope (compEnvC scope cl C X.env) fp) :=
  ⟨g.prog, g.w, g.K, g.mg, g.base, g.N, by show relS scope X.env.scope = relS scope S.sc; rw [g.sc], rfl, g.calm, g.gd, g.room, PassesOwn.never, fun pins σ H s e s' _ h => (q _ _ _ _ _ h).elim⟩
def BTs (A : Amb) (S : SC) (ifs : List Expr) (f : Env → Res (Bool × Env)) : Prop := ∃ t : TT, (∀ X, Good A S X → PTs X ifs t) ∧ RdB A.T A.E f t
theorem bts_nil : BTs A S [] (fun env => .ok (true, env)) := ⟨_, fun X g => pts_nil, rd_yes⟩
theorem bts_one (nc : ifx c = false) (h : BE A S c fc) : BTs A S [c] (fun env => (fc env).bind fun (w, env1) => match w with
    | .fz (.bl b) => .ok (b, env1)
    | _ => .bad) := by
  obtain ⟨t, h1, h2⟩ := h
  exact ⟨_, fun X g => pts_one ((h1 X g).2 nc), RdB.of (RdT.of h2)⟩
variable {k : IK} {fl : Env → Res (List Arg × Env)} {ft : D → Env → Res Env} {is : List Nat} {ifs : List Expr} {fi : Env → Res (Bool × Env)} {scope : Scope} {own : List (Str × Nat)}
def compF (fl : Env → Res (List Arg × Env)) (k : IK) (ft : D → Env → Res Env) (fi : Env → Res (Bool × Env)) (fe : Env → Res (Val × Env)) (vs : List Nat) : Env → Res (Val × Env) := fun env => (prel fl k env).bind fun ((its, sv), env2) =>
      (compL (fun d env => (ft d (wipeE env vs)).bind fun env3 => (fi env3).bind fun (b, env4) => match b with
        | true => (fe env4).bind fun (w, env5) => .ok (some w.frz, env5)
        | false => .ok (none, env4)) its [] (wipeE env2 vs)).nox.bind fun (l, env6) => .ok (.own l, unlock sv (restE env2 env6 vs))
theorem comp_core (q : CXq A.CX) (nd : S.N.Nodup) (hi : BI A S k tg iter fl) (hg : BG A.inn (S.inn scope) tg ft is) (hs : ∀ i ∈ is, i ∈ own.map (·.2)) (ht : BTs A.inn (S.inn scope) ifs fi) (he : BE A.inn (S.inn scope) elt fe) (hb : blkC S.N S.sc scope own = true) (hset : noSet iter = true) :
    ∃ t : TE, (∀ X, Good A S X → PE X (.ListComp elt [⟨tg, iter, ifs, 0⟩] scope pos) t) ∧ RdE A.T A.E (compF fl k ft fi fe (own.map (·.2))) t ∧
      ∀ (i : Nat) (y : Str) (py spos : Pos) X, Good A S X → S.N[i]? = some y → kOf S y = some .local → swapsWith (.ListComp elt [⟨tg, iter, ifs, 0⟩] scope pos) (some (.Name y py)) spos.line X.env = pure true →
        PS X (.Assign [.Name y py] (.ListComp elt [⟨tg, iter, ifs, 0⟩] scope pos) spos) (tAsg t (gName i)) := by
  obtain ⟨ta, n, r, i1, i2, i3, i4⟩ := hi
  obtain ⟨g, g1, g2⟩ := hg
  obtain ⟨tt, t1, t2⟩ := ht
  obtain ⟨te, e1, e2⟩ := he
  have ok : ∀ X, Good A S X → BlkOk X.N X.env.scope scope own := fun X gd => by
    rw [gd.N, gd.sc]
    exact blkOk_by hb
  refine ⟨_, fun X gd => pe_lc gd.calm (by rw [gd.N]; exact nd) (i1 X gd) (ok X gd) (fun s H C cl fp => g1 _ (gd.blk q)) (fun s H C cl fp => t1 _ (gd.blk q)) (fun s H C cl fp => (e1 _ (gd.blk q)).1) (folded_ok hset), rd_comp i2 i3 i4 g2 hs t2 e2, fun i y py spos X gd hN hy hsw => ?_⟩
  exact ps_setLc gd.calm (by rw [gd.N]; exact nd) (by rw [gd.N]; exact hN) (loc_of gd hy) hsw (i1 X gd) (ok X gd) (fun s H C cl fp => g1 _ (gd.blk q)) (fun s H C cl fp => t1 _ (gd.blk q)) (fun s H C cl fp => (e1 _ (gd.blk q)).1) (folded_ok hset)
theorem be_comp (q : CXq A.CX) (nd : S.N.Nodup) (hi : BI A S k tg iter fl) (hg : BG A.inn (S.inn scope) tg ft is) (hs : ∀ i ∈ is, i ∈ own.map (·.2)) (ht : BTs A.inn (S.inn scope) ifs fi) (he : BE A.inn (S.inn scope) elt fe) (hb : blkC S.N S.sc scope own = true) (hset : noSet iter = true) :
    BE A S (.ListComp elt [⟨tg, iter, ifs, 0⟩] scope pos) (compF fl k ft fi fe (own.map (·.2))) := by
  obtain ⟨t, h1, h2, _⟩ := comp_core (pos := pos) q nd hi hg hs ht he hb hset
  exact BE.mk h1 h2 rfl
/-- is the name stored to before the comprehension's variables go? -/
def swapL (S : SC) (scope : Scope) (pos : Pos) (y : Str) (py : Pos) : Bool := kOf S y == some .local && py.line == pos.line && !(scope.names.any fun (n, k) => n == y && (k == .local || k == .cell))
theorem swapL_ok (gd : Good A S X) (hk : S.sc.kind = .function) {gs : List Comprehension} {py : Pos} {n : Nat} : swapsWith (.ListComp elt gs scope pos) (some (.Name y py)) n X.env = pure (swapL S scope pos y py) := by
  unfold swapsWith swapL
  simp only [blk_fun gd hk, gd.kind, Expr.pos]
  simp
theorem bs_asgC (q : CXq A.CX) (nd : S.N.Nodup) (hk : S.sc.kind = .function) (hi : BI A S k tg iter fl) (hg : BG A.inn (S.inn scope) tg ft is) (hs : ∀ i ∈ is, i ∈ own.map (·.2)) (ht : BTs A.inn (S.inn scope) ifs fi) (he : BE A.inn (S.inn scope) elt fe) (hb : blkC S.N S.sc scope own = true) (hset : noSet iter = true)
    (hN : S.N[i]? = some y) (hst : stor S y = true) {py : Pos} : BS A S (.Assign [.Name y py] (.ListComp elt [⟨tg, iter, ifs, 0⟩] scope pos) p) (fun env => (compF fl k ft fi fe (own.map (·.2)) env).bind fun (w, env1) => (setSlot i w env1).bind fun env2 => .ok (.nx, env2)) := by
  obtain ⟨t, h1, h2, h3⟩ := comp_core (pos := pos) q nd hi hg hs ht he hb hset
  refine ⟨_, fun X gd => ?_, rd_asgN h2⟩
  have sw := swapL_ok (elt := elt) (scope := scope) (pos := pos) (y := y) (gs := [⟨tg, iter, ifs, 0⟩]) (py := py) (n := p.line) gd hk
  cases hb2 : swapL S scope pos y py with
  | true =>
    rw [hb2] at sw
    have hl : kOf S y = some .local := by
      unfold swapL at hb2
      simp only [Bool.and_eq_true, beq_iff_eq] at hb2
      exact hb2.1.1
    exact h3 i y py p X gd hN hl sw
  | false =>
    rw [hb2] at sw
    exact ps_set (by rw [gd.N]; exact nd) (by rw [gd.N]; exact hN) (stor_ok gd hst).1 (h1 X gd) sw (stor_ok gd hst).2
end
end Rx

set_option Elab.async false
set_option linter.all false
set_option autoImplicit false
set_option maxRecDepth 100000
namespace Rx
open PySem L2
open PySem.Spec
open PyProof.Rows
/-- a == b: by data, or by the class's own def -/
def rEq (T : TX) (Γ : Tbl) (cl : Call) (E : XK) : R2 := fun x y H Q => rP T .eq [x, y] H Q ∨ ∃ (c f : Str) (C a b da db : Addr) (fs gs : List (Str × V)) (fn : Fn), Γ.eqm c = some f ∧ T.ca c = some C ∧ x = .ref a ∧ y = .ref b ∧ H a = some (.ins C da fs) ∧ H b = some (.ins C db gs) ∧ Γ.fn f = some fn ∧
  spOf T cl f fn.pins fn.np [x, y] H (fun v H' => ∃ r, v = .bl r ∧ Q v H') E
section
variable {T : TX} {E : XK} {σ : L2.St} {F H F' H' : Hp} {env env' : Env}
def eqF2 (Γ : Tbl) (cl : Call) (fa : Env → Res (List Arg × Env)) : Env → Res (Val × Env) := fun env => (fa env).bind fun (as, env1) => match as with
    | [.val (.fz (.ins c fs)), .val (.fz (.ins e gs))] => (match Γ.eqm c with
      | some f => if c = e then (cl f [.fz (.ins c fs), .fz (.ins e gs)]).bind fun (w, _) => match w with
        | .fz (.bl r) => .ok (.fz (.bl r), env1)
        | _ => .bad else .bad
      | none => .bad)
    | as => (pkArgs env1 as).bind fun ds => (prim .eq ds).bind fun w => .ok (w, env1)
theorem rd_eq2 {Γ : Tbl} {cl : Call} {fa : Env → Res (List Arg × Env)} {ta tb : TE} (h : RdA T E fa (tAll [ta, tb])) (hl : LenA 2 fa) (hm : ∀ c f, Γ.eqm c = some f → ∃ fn, Γ.fn f = some fn ∧ fn.np = 2) : RdE T E (eqF2 Γ cl fa) (tOp (rEq T Γ cl E) ta tb) := fun σ F H env Q st q => by
  refine cast ?_ (h σ F H env (fun vs H1 => ∃ x y, vs = [x, y] ∧ rEq T Γ cl E x y H1 Q) st ((Res.Post.len hl (Res.Post.bind q)).mono (fun (as, env1) ⟨ln, k⟩ vs F1 H1 p1 m1 f1 => ?_) fun _ _ x => x))
  · show ta σ H (fun x H1 => tb σ H1 fun y H2 => ∃ x' y', [x, y] = [x', y'] ∧ rEq T Γ cl E x' y' H2 Q) = ta σ H (fun x H1 => tb σ H1 fun y H2 => rEq T Γ cl E x y H2 Q)
    congr 1
    funext x H1
    congr 1
    funext y H2
    refine propext ⟨?_, fun z => ⟨x, y, rfl, z⟩⟩
    rintro ⟨x', y', e, z⟩
    cases e
    exact z
  · obtain ⟨a1, a2, rfl⟩ := len2 ln
    obtain ⟨x, r, rfl, m1a, t1, d1⟩ := m1
    obtain ⟨y, r2, rfl, m1b, t2, d2⟩ := t1
    cases (show r2 = [] from t2)
    refine ⟨x, y, rfl, ?_⟩
    have am : Args T σ F1 H1 env1 [a1, a2] [x, y] := ⟨x, [y], rfl, m1a, ⟨y, [], rfl, m1b, rfl, d2⟩, d1⟩
    have dflt : ((pkArgs env1 [a1, a2]).bind fun ds => (prim .eq ds).bind fun w => (Res.ok (w, env1) : Res (Val × Env))).Post (fun r => ∀ v F' H', Pt T σ F H env F' H' r.2 → Tm T σ F' H' r.2 r.1 v → Fresh σ H env r.1 v → Q v H') (XW T E σ H env) → rEq T Γ cl E x y H1 Q := fun k => by
      have k := Res.Post.bind (x := pkArgs env1 [a1, a2]) k
      cases e1 : pkArgs env1 [a1, a2] with
      | ok ds =>
        rw [e1] at k
        have k := Res.Post.bind (x := prim .eq ds) k
        cases e2 : prim .eq ds with
        | ok w =>
          rw [e2] at k
          refine .inl ⟨ds, F1, w, pkArgs_len e1, e2, p1.st.sub, pk_args p1.st am e1, fun v F2 H2 n => ?_⟩
          obtain ⟨p2, m2, f2⟩ := n.pt p1.st
          exact k v F2 H2 (p1.trans p2) m2 (f2.pre p1)
        | exc c fs => exact absurd e2 (prim_noexc _ _ _)
        | bad =>
          rw [e2] at k
          exact k.elim
      | exc c fs => exact absurd e1 pkArgs_noexc
      | bad =>
        rw [e1] at k
        exact k.elim
    dsimp only at k
    split at k
    · rename_i c fs e gs heq
      cases heq
      cases em : Γ.eqm c with
      | none =>
        rw [em] at k
        exact k.elim
      | some f =>
        rw [em] at k
        have k : (if c = e then (cl f [.fz (.ins c fs), .fz (.ins e gs)]).bind fun (w, _) => match w with
          | .fz (.bl r) => (Res.ok (Val.fz (.bl r), env1) : Res (Val × Env))
          | _ => .bad else .bad).Post (fun r => ∀ v F' H', Pt T σ F H env F' H' r.2 → Tm T σ F' H' r.2 r.1 v → Fresh σ H env r.1 v → Q v H') (XW T E σ H env) := k
        by_cases ce : c = e
        · subst ce
          rw [if_pos rfl] at k
          obtain ⟨fn, hfn, np⟩ := hm c f em
          have s1 : Rz T F1 (.ins c fs) x := (show Tm T σ F1 H1 env1 (.fz (.ins c fs)) x from m1a).sl
          have s2 : Rz T F1 (.ins c gs) y := (show Tm T σ F1 H1 env1 (.fz (.ins c gs)) y from m1b).sl
          obtain ⟨a, C, da, xs, rfl, hC, hF, _⟩ := id s1
          obtain ⟨b, C', db, ys, rfl, hC', hF', _⟩ := id s2
          rw [hC] at hC'
          cases hC'
          obtain ⟨ca, na⟩ := cargs_fz (H := H1) (ds := [.ins c fs, .ins c gs]) (vs := [.ref a, .ref b]) ⟨_, _, rfl, s1, _, _, rfl, s2, rfl⟩
          refine .inr ⟨c, f, C, a, b, da, db, xs, ys, fn, em, hC, rfl, rfl, p1.st.sub _ _ hF, p1.st.sub _ _ hF', hfn, [.fz (.ins c fs), .fz (.ins c gs)], F1, by rw [np]; rfl, p1.st.sub, ca, (Res.Post.bind k).mono (fun (w, outs) k v F2 H2 pc => ?_) fun c' fs' x cls d H2 xc => ?_⟩
          · cases w with
            | fz d =>
              cases d with
              | bl r =>
                have ev : v = .bl r := pc.sl
                refine ⟨r, ev, ?_⟩
                have nw : Nw T F1 H1 (.fz (.bl r)) v F2 H2 := ⟨pc.mono, pc.sub, fun a o e => pc.keep a o e (na a), fun a e n => (pc.grow a e n).resolve_left (na a), pc.sl, fun hw => by cases hw⟩
                obtain ⟨p2, m2, f2⟩ := nw.pt p1.st
                exact k v F2 H2 (p1.trans p2) m2 (f2.pre p1)
              | _ => exact k.elim
            | _ => exact k.elim
          · exact x cls d H2 ⟨xc.cls, fun a o e n => xc.keep a o (p1.keep a o e n) (na a), fun a h => xc.there a (p1.there a h), xc.dat⟩
        · rw [if_neg ce] at k
          exact k.elim
    · exact dflt k
end
structure EqFact (A : Amb) (c f : Str) (fn : Fn) (C a : Addr) (fd : FuncData) (ps : List Str) : Prop where
  ca : A.T.ca c = some C
  fi : PySem.W.findIn A.T.K (.ref C) "__eq__" = some (some (.ref a))
  isf : PySem.W.isFn A.T.K (.ref a) = true
  bd : Binds A.T.K fd ps []
  np : fn.np = 2
  ok : FnG A.T.P A.T.w A.T.K A.T.mg A.T.base A.CX A.k a fd ps (spOf A.T A.cl f fn.pins fn.np)
section
variable {A : Amb} {S : SC} {X : Cx} {a b : Expr} {es : List Expr} {pos : Pos}
theorem o_eq2 (g : Good A S X) (hm : ∀ c f, A.Γ.eqm c = some f → ∃ fn C ad fd ps, A.Γ.fn f = some fn ∧ EqFact A c f fn C ad fd ps) : OpR X (compareOp .Eq) (rEq A.T A.Γ A.cl A.E) := fun pins s σ H x y v u Q I rx ry q => by
  rcases q with q | ⟨c, f, C, a, b, da, db, xs, ys, fn, em, hC, rfl, rfl, ha, hb, hfn, q⟩
  · exact o_eq g.K g.units pins s σ H x y v u Q I rx ry q
  · obtain ⟨fn', C', ad, fd, ps, e1, k⟩ := hm c f em
    rw [hfn] at e1
    cases e1
    have := k.ca
    rw [hC] at this
    cases this
    cases (show v = Value.ref a from rx)
    cases (show u = Value.ref b from ry)
    obtain ⟨mA, O, _⟩ := ins_get I.hok ha
    obtain ⟨od, J, _⟩ := O.look
    obtain ⟨mB, O', _⟩ := ins_get I.hok hb
    obtain ⟨od', J', _⟩ := O'.look
    obtain ⟨m, hF⟩ := I.fr
    have ok : FnG X.prog X.w X.K X.mg X.base A.CX A.k ad fd ps (spOf A.T A.cl f fn.pins fn.np) := by rw [g.prog, g.w, g.K, g.mg, g.base]; exact k.ok
    have rm : Room A.k X.A := g.room.mono (Nat.le_succ _)
    show wpAny (model X.prog X.w) X.A (richCompare .Eq (.ref a) (.ref b)) _ _ _
    refine PySem.W.cmp_K (op := .Eq) (tb := .ref C) rm.units0 hF I.ok.mod.kin J J'.type (by simp [PySem.W.notFirst]) (by rw [g.K]; exact k.fi) (by rw [g.K]; exact k.isf) ?_
    refine thn (run_fnG (us := [.ref a, .ref b]) (vs := [.ref a, .ref b]) ok rm g.gd (by rw [g.K]; exact k.bd) g.px I (.cons rfl (.cons rfl .nil)) q) fun w s' ⟨z, H', I', rz, r, ez, qz⟩ => ?_
    subst ez
    cases (show w = Value.bool r from rz)
    exact ⟨.bl r, H', I', rfl, qz⟩
theorem be_eq2 {fl : Env → Res (List Arg × Env)} (hm : ∀ c f, A.Γ.eqm c = some f → ∃ fn C ad fd ps, A.Γ.fn f = some fn ∧ EqFact A c f fn C ad fd ps) (hb : noSet b = true) (h : BL A S [a, b] fl) : BE A S (.Compare a [.Eq] [b] pos) (eqF2 A.Γ A.cl fl) := by
  obtain ⟨ts, h1, h2, h3⟩ := h
  obtain ⟨t, u, rfl, k1, k2⟩ := h1.two
  exact ⟨_, fun X g => ⟨pe_cmpR (o_eq2 g hm) (k1 X g) (k2 X g) (marks_ok hb), fun _ => pt_cmpR (o_eq2 g hm) (k1 X g) (k2 X g) (marks_ok hb)⟩, rd_eq2 h2 h3 fun c f e => by
    obtain ⟨fn, C, ad, fd, ps, e1, k⟩ := hm c f e
    exact ⟨fn, e1, k.np⟩⟩
end
end Rx

set_option Elab.async false
set_option linter.all false
set_option autoImplicit false
set_option maxRecDepth 100000
namespace Rx
open PySem L2
open PySem.Spec
open PyProof.Rows
/-- what the text is told to hold -/
structure Sig where
  Γ : Tbl
  fns : List Str
  cls : List Str
  fld : List Str
  bn : List Str
def tyNames : List Str := ["int", "bool", "str", "tuple", "list", "dict"]
structure AmbOk (G : Sig) (A : Amb) : Prop where
  eΓ : A.Γ = G.Γ
  fx : Facts A G.fld G.bn
  it : InsTy A.T
  cx : CXq A.CX
  own : ∀ t ∈ G.cls, ∃ C, A.T.mg t = some (.ref C) ∧ ∀ d tv, tyD A.T d = some tv → PySem.W.kitOne A.T.K tv (.ref C) = some (isaOne d t)
  bty : ∀ t ∈ tyNames, ∃ n, bootBuiltins t = some (.type n) ∧ ∀ d tv, tyD A.T d = some tv → PySem.W.kitOne A.T.K tv (.type n) = some (isaOne d t)
  cst : ∀ x d, G.Γ.cst x = some d → ∃ u v, A.T.mg x = some u ∧ RelV v u ∧ ∀ F, Rz A.T F d v
  fn : ∀ f fn, f ∈ G.fns → G.Γ.fn f = some fn → ∃ ad fd ps, FnFact A f fn ad fd ps
  eqf : ∀ c f, G.Γ.eqm c = some f → ∃ fn C ad fd ps, G.Γ.fn f = some fn ∧ EqFact A c f fn C ad fd ps
  mki : ∀ c f fn, G.Γ.ini c = some f → G.Γ.fn f = some fn → ∃ C ad fd ps, MkFact A c f fn C ad fd ps
theorem AmbOk.inn {G : Sig} {A : Amb} (ok : AmbOk G A) : AmbOk G A.inn where
  eΓ := ok.eΓ
  fx := ⟨ok.fx.cls, ok.fx.noat, ok.fx.bn⟩
  it := ok.it
  cx := ok.cx
  own := ok.own
  bty := ok.bty
  cst := ok.cst
  fn := fun f fn h1 h2 => by
    obtain ⟨ad, fd, ps, k⟩ := ok.fn f fn h1 h2
    exact ⟨ad, fd, ps, k.mg, k.kp, k.bd, k.ln, k.ok⟩
  eqf := fun c f h1 => by
    obtain ⟨fn, C, ad, fd, ps, e, k⟩ := ok.eqf c f h1
    exact ⟨fn, C, ad, fd, ps, e, k.ca, k.fi, k.isf, k.bd, k.np, k.ok⟩
  mki := fun c f fn h1 h2 => by
    obtain ⟨C, ad, fd, ps, k⟩ := ok.mki c f fn h1 h2
    exact ⟨C, ad, fd, ps, k.ca, k.mg, k.mkk, k.bd, k.p0, k.ok⟩
/-! ### how an operation stands in the text -/
def vBin (op : Op) : Expr → Option (List Expr)
  | .BinOp a o b _ => if binO op o = true then some [a, b] else none
  | _ => none
def isNeg : Op → Bool
  | .neg => true
  | _ => false
def vNeg (op : Op) : Expr → Option (List Expr)
  | .UnaryOp .USub a _ => if isNeg op = true then some [a] else none
  | _ => none
def isC (op : Op) (o : CmpOp) (b : Expr) : Bool := match op, o, b with
  | .isN, .Is, .Constant .none _ _ => true
  | .notN, .IsNot, .Constant .none _ _ => true
  | .isB v, .Is, .Constant (.bool w) _ _ => v == w
  | .notB v, .IsNot, .Constant (.bool w) _ _ => v == w
  | _, _, _ => false
def isDi (op : Op) (o : CmpOp) : Bool := match op, o with
  | .din, .In => true
  | .dnin, .NotIn => true
  | _, _ => false
def vCmp (op : Op) : Expr → Option (List Expr)
  | .Compare a [o] [b] _ => if (cmpO op o && noSet b) = true then some [a, b] else if isC op o b = true then some [a] else if (isDi op o && noSet b) = true then some [a, b] else none
  | _ => none
def vDict (op : Op) : Expr → Option (List Expr)
  | .Dict [] [] _ => match op with
    | .dnewK => some []
    | .dnewT => some []
    | _ => none
  | _ => none
def vSub (op : Op) : Expr → Option (List Expr)
  | .Subscript a (.Slice lo hi none _) _ => match op, lo, hi with
    | .slice false false, none, none => some [a]
    | .slice true false, some b, none => some [a, b]
    | .slice false true, none, some b => some [a, b]
    | .slice true true, some b, some c => some [a, b, c]
    | _, _, _ => none
  | .Subscript a b _ => match op with
    | .idx => if noSlice b = true then some [a, b] else none
    | .dget => if noSlice b = true then some [a, b] else none
    | _ => none
  | _ => none
def bltN : Op → Option Str
  | .len => some "len"
  | .tuple => some "tuple"
  | .list => some "list"
  | .int => some "int"
  | .abs => some "abs"
  | .max => some "max"
  | .min => some "min"
  | .sum => some "sum"
  | .sorted => some "sorted"
  | .any => some "any"
  | .all => some "all"
  | .repr => some "repr"
  | _ => none
def gB (G : Sig) (S : SC) (x : Str) : Bool := glob S x && G.bn.contains x
def clsC (G : Sig) (S : SC) (t : Str) : Expr → Bool
  | .Name x _ => x == t && glob S t && plainN t && (G.cls.contains t || (tyNames.contains t && G.bn.contains t))
  | _ => false
def clsAll (G : Sig) (S : SC) : List Str → List Expr → Bool
  | [], [] => true
  | t :: ts, e :: es => clsC G S t e && clsAll G S ts es
  | _, _ => false
def vCall (G : Sig) (S : SC) (op : Op) : Expr → Option (List Expr)
  | .Call (.Name x _) (e :: es) [] _ => match op with
    | .listR _ => match e, es with
      | .Call (.Name y _) [a] [] _, [] => if (x == ("list" : Str) && y == ("range" : Str) && gB G S x && gB G S y && noStar a) = true then some [a] else none
      | .Call (.Name y _) [a, b] [] _, [] => if (x == ("list" : Str) && y == ("range" : Str) && gB G S x && gB G S y && noStars [a, b]) = true then some [a, b] else none
      | _, _ => none
    | .tupleR _ => match e, es with
      | .Call (.Name y _) [a] [] _, [] => if (x == ("tuple" : Str) && y == ("range" : Str) && gB G S x && gB G S y && noStar a) = true then some [a] else none
      | .Call (.Name y _) [a, b] [] _, [] => if (x == ("tuple" : Str) && y == ("range" : Str) && gB G S x && gB G S y && noStars [a, b]) = true then some [a, b] else none
      | _, _ => none
    | .lenSet => match e, es with
      | .Call (.Name y _) [a] [] _, [] => if (x == ("len" : Str) && y == ("set" : Str) && gB G S x && gB G S y && noStar a) = true then some [a] else none
      | _, _ => none
    | .sortedSet => match e, es with
      | .Call (.Name y _) [a] [] _, [] => if (x == ("sorted" : Str) && y == ("set" : Str) && gB G S x && gB G S y && noStar a) = true then some [a] else none
      | _, _ => none
    | .isa ts => match es with
      | [.Tuple cs _ _] => if (x == ("isinstance" : Str) && gB G S x && noStar e && noStars cs && decide (ts.length < 100) && clsAll G S ts cs) = true then some [e] else none
      | [c] => match ts with
        | [t] => if (x == ("isinstance" : Str) && gB G S x && noStars [e, c] && clsC G S t c) = true then some [e] else none
        | _ => none
      | _ => none
    | op => if (bltN op == some x && gB G S x && plainN x && noStars (e :: es)) = true then some (e :: es) else none
  | _ => none
def vFld (G : Sig) (op : Op) : Expr → Option (List Expr)
  | .Attribute a f _ => match op with
    | .fld g => if (g == f && G.fld.contains f && notSuper a) = true then some [a] else none
    | _ => none
  | _ => none
def viewP (G : Sig) (S : SC) (op : Op) (e : Expr) : Option (List Expr) := match e with
  | .BinOp .. => vBin op e
  | .UnaryOp .. => vNeg op e
  | .Compare .. => vCmp op e
  | .Subscript .. => vSub op e
  | .Call .. => vCall G S op e
  | .Attribute .. => vFld G op e
  | .Dict .. => vDict op e
  | _ => none
section
variable {G : Sig} {A : Amb} {S : SC} {op : Op} {e : Expr} {es : List Expr}
theorem ite_some {α : Type} {c : Bool} {a b : α} (h : (if c = true then some a else none) = some b) : c = true ∧ a = b := by
  cases c with
  | true => exact ⟨rfl, Option.some.inj h⟩
  | false => cases h
theorem vBin_ok (h : vBin op e = some es) : PrimV A S op e es := by
  cases e with
  | BinOp a o b pos =>
    obtain ⟨c, rfl⟩ := ite_some h
    exact pv_binO c
  | _ => cases h
theorem vNeg_ok (h : vNeg op e = some es) : PrimV A S op e es := by
  cases e with
  | UnaryOp o a pos =>
    cases o with
    | USub =>
      obtain ⟨c, rfl⟩ := ite_some h
      cases op with
      | neg => exact pv_neg
      | _ => cases c
    | _ => cases h
  | _ => cases h
theorem isC_ok {o : CmpOp} {a b : Expr} {pos : Pos} (h : isC op o b = true) : PrimV A S op (.Compare a [o] [b] pos) [a] := by
  unfold isC at h
  split at h
  · exact pv_isN
  · exact pv_notN
  · obtain rfl := beq_iff_eq.mp h
    exact pv_isB
  · obtain rfl := beq_iff_eq.mp h
    exact pv_notB
  · cases h
theorem vCmp_ok (h : vCmp op e = some es) : PrimV A S op e es := by
  unfold vCmp at h
  split at h
  · split at h
    · rename_i c
      cases h
      obtain ⟨c1, c2⟩ := Bool.and_eq_true_iff.mp c
      exact pv_cmpO c1 c2
    · split at h
      · rename_i c
        cases h
        exact isC_ok c
      · obtain ⟨c, rfl⟩ := ite_some h
        obtain ⟨c1, c2⟩ := Bool.and_eq_true_iff.mp c
        unfold isDi at c1
        split at c1
        · exact pv_din c2
        · exact pv_dnin c2
        · cases c1
  · cases h
theorem vDict_ok (h : vDict op e = some es) : PrimV A S op e es := by
  unfold vDict at h
  split at h
  · split at h
    · cases h; exact pv_dnewK
    · cases h; exact pv_dnewT
    · cases h
  · cases h
theorem vSub_ok (h : vSub op e = some es) : PrimV A S op e es := by
  unfold vSub at h
  split at h
  · split at h
    · cases h; exact pv_sl0
    · cases h; exact pv_slL
    · cases h; exact pv_slH
    · cases h; exact pv_slB
    · cases h
  · split at h
    · obtain ⟨c, rfl⟩ := ite_some h
      exact pv_idx c
    · obtain ⟨c, rfl⟩ := ite_some h
      exact pv_dget c
    · cases h
  · cases h
theorem gB_ok (ok : AmbOk G A) {x : Str} (h : gB G S x = true) : glob S x = true ∧ A.T.mg x = none := by
  obtain ⟨h1, h2⟩ := Bool.and_eq_true_iff.mp (show (glob S x && G.bn.contains x) = true from h)
  exact ⟨h1, ok.fx.bn x (by simpa using h2)⟩
theorem clsC_ok (ok : AmbOk G A) {t : Str} {e : Expr} (h : clsC G S t e = true) : ∃ v u, ClsIs A S t e v u := by
  cases e with
  | Name x p =>
    have h : (x == t && glob S t && plainN t && (G.cls.contains t || (tyNames.contains t && G.bn.contains t))) = true := h
    simp only [Bool.and_eq_true, Bool.or_eq_true, beq_iff_eq, List.contains_iff_mem] at h
    obtain ⟨⟨⟨rfl, hg⟩, hx⟩, h | ⟨h1, h2⟩⟩ := h
    · obtain ⟨C, m, k⟩ := ok.own x h
      exact ⟨.ref C, .ref C, .own C, fun X g => pe_glob (glob_ok g hg) (by rw [g.mg]; exact m) rfl (plainN_ok hx).1, k⟩
    · obtain ⟨n, m, k⟩ := ok.bty x h1
      exact ⟨.ty n, .type n, .ty n, fun X g => pe_bltn (glob_ok g hg) (by rw [g.mg]; exact ok.fx.bn x h2) m rfl (plainN_ok hx).2.2 (plainN_ok hx).1, k⟩
  | _ => cases h
theorem clsAll_ok (ok : AmbOk G A) : ∀ {ts : List Str} {es : List Expr}, clsAll G S ts es = true → ∃ vs us, ClsAll A S ts es vs us
  | [], [], _ => ⟨[], [], .nil⟩
  | t :: ts, e :: es, h => by
    obtain ⟨h1, h2⟩ := Bool.and_eq_true_iff.mp (show (clsC G S t e && clsAll G S ts es) = true from h)
    obtain ⟨v, u, c⟩ := clsC_ok ok h1
    obtain ⟨vs, us, r⟩ := clsAll_ok ok h2
    exact ⟨_, _, .cons c r⟩
  | [], _ :: _, h => by cases h
  | _ :: _, [], h => by cases h
theorem blt_ok {p pos : Pos} {x : Str} (hb : bltN op = some x) (hg : glob S x = true) (hm : A.T.mg x = none) (hx : plainN x = true) (hn : noStars (e :: es) = true) : PrimV A S op (.Call (.Name x p) (e :: es) [] pos) (e :: es) := by
  cases op with
  | len => cases hb; exact pv_callB (fun X g => c_len g.K) boot_len hg hm hx hn
  | tuple => cases hb; exact pv_callT (fun X g => c_tuple g.K) boot_tuple hg hm hx hn
  | list => cases hb; exact pv_callT (fun X g => c_list g.calm g.K) boot_list hg hm hx hn
  | int => cases hb; exact pv_callT (fun X g => c_int) boot_int hg hm hx hn
  | abs => cases hb; exact pv_callB (fun X g => c_abs) (by decide +kernel) hg hm hx hn
  | max => cases hb; exact pv_callB (fun X g => c_max g.calm) (by decide +kernel) hg hm hx hn
  | min => cases hb; exact pv_callB (fun X g => c_min g.calm) (by decide +kernel) hg hm hx hn
  | sum => cases hb; exact pv_callB (fun X g => c_sum g.calm) (by decide +kernel) hg hm hx hn
  | sorted => cases hb; exact pv_callB (fun X g => c_sorted g.calm g.K g.units) (by decide +kernel) hg hm hx hn
  | any => cases hb; exact pv_callB (fun X g => c_any g.calm) (by decide +kernel) hg hm hx hn
  | all => cases hb; exact pv_callB (fun X g => c_all g.calm) (by decide +kernel) hg hm hx hn
  | repr => cases hb; exact pv_callB (fun X g => c_repr g.K g.units g.gd) boot_repr0 hg hm hx hn
  | _ => cases hb
end
end Rx

set_option Elab.async false
set_option linter.all false
set_option autoImplicit false
set_option maxRecDepth 100000
namespace Rx
open PySem L2
open PySem.Spec
open PyProof.Rows
section
variable {G : Sig} {A : Amb} {S : SC} {op : Op} {e : Expr} {es : List Expr}
theorem vCall_ok (ok : AmbOk G A) (h : vCall G S op e = some es) : PrimV A S op e es := by
  unfold vCall at h
  split at h
  · split at h
    · split at h
      · obtain ⟨c, rfl⟩ := ite_some h
        simp only [Bool.and_eq_true, beq_iff_eq] at c
        obtain ⟨⟨⟨⟨rfl, rfl⟩, g1⟩, g2⟩, n⟩ := c
        exact pv_listR1 (gB_ok ok g1).1 (gB_ok ok g1).2 (gB_ok ok g2).1 (gB_ok ok g2).2 n
      · obtain ⟨c, rfl⟩ := ite_some h
        simp only [Bool.and_eq_true, beq_iff_eq] at c
        obtain ⟨⟨⟨⟨rfl, rfl⟩, g1⟩, g2⟩, n⟩ := c
        exact pv_listR2 (gB_ok ok g1).1 (gB_ok ok g1).2 (gB_ok ok g2).1 (gB_ok ok g2).2 n
      · cases h
    · split at h
      · obtain ⟨c, rfl⟩ := ite_some h
        simp only [Bool.and_eq_true, beq_iff_eq] at c
        obtain ⟨⟨⟨⟨rfl, rfl⟩, g1⟩, g2⟩, n⟩ := c
        exact pv_tupR1 (gB_ok ok g1).1 (gB_ok ok g1).2 (gB_ok ok g2).1 (gB_ok ok g2).2 n
      · obtain ⟨c, rfl⟩ := ite_some h
        simp only [Bool.and_eq_true, beq_iff_eq] at c
        obtain ⟨⟨⟨⟨rfl, rfl⟩, g1⟩, g2⟩, n⟩ := c
        exact pv_tupR2 (gB_ok ok g1).1 (gB_ok ok g1).2 (gB_ok ok g2).1 (gB_ok ok g2).2 n
      · cases h
    · split at h
      · obtain ⟨c, rfl⟩ := ite_some h
        simp only [Bool.and_eq_true, beq_iff_eq] at c
        obtain ⟨⟨⟨⟨rfl, rfl⟩, g1⟩, g2⟩, n⟩ := c
        exact pv_lenSet (gB_ok ok g1).1 (gB_ok ok g1).2 (gB_ok ok g2).1 (gB_ok ok g2).2 n
      · cases h
    · split at h
      · obtain ⟨c, rfl⟩ := ite_some h
        simp only [Bool.and_eq_true, beq_iff_eq] at c
        obtain ⟨⟨⟨⟨rfl, rfl⟩, g1⟩, g2⟩, n⟩ := c
        exact pv_sortedSet (gB_ok ok g1).1 (gB_ok ok g1).2 (gB_ok ok g2).1 (gB_ok ok g2).2 n
      · cases h
    · split at h
      · obtain ⟨c, rfl⟩ := ite_some h
        obtain ⟨c, h6⟩ := Bool.and_eq_true_iff.mp c
        obtain ⟨c, h5⟩ := Bool.and_eq_true_iff.mp c
        obtain ⟨c, h4⟩ := Bool.and_eq_true_iff.mp c
        obtain ⟨c, h3⟩ := Bool.and_eq_true_iff.mp c
        obtain ⟨h1, h2⟩ := Bool.and_eq_true_iff.mp c
        obtain rfl := beq_iff_eq.mp h1
        obtain ⟨vs, us, ca⟩ := clsAll_ok ok h6
        exact pv_isaT ok.it ca (of_decide_eq_true h5) (gB_ok ok h2).1 (gB_ok ok h2).2 h3 h4
      · split at h
        · obtain ⟨c, rfl⟩ := ite_some h
          obtain ⟨c, h4⟩ := Bool.and_eq_true_iff.mp c
          obtain ⟨c, h3⟩ := Bool.and_eq_true_iff.mp c
          obtain ⟨h1, h2⟩ := Bool.and_eq_true_iff.mp c
          obtain rfl := beq_iff_eq.mp h1
          obtain ⟨v, u, ca⟩ := clsC_ok ok h4
          exact pv_isa1 ok.it ca (gB_ok ok h2).1 (gB_ok ok h2).2 h3
        · cases h
      · cases h
    · obtain ⟨c, rfl⟩ := ite_some h
      obtain ⟨c, h4⟩ := Bool.and_eq_true_iff.mp c
      obtain ⟨c, h3⟩ := Bool.and_eq_true_iff.mp c
      obtain ⟨h1, h2⟩ := Bool.and_eq_true_iff.mp c
      exact blt_ok (beq_iff_eq.mp h1) (gB_ok ok h2).1 (gB_ok ok h2).2 h3 h4
  · cases h
theorem vFld_ok (ok : AmbOk G A) (h : vFld G op e = some es) : PrimV A S op e es := by
  unfold vFld at h
  split at h
  · split at h
    · obtain ⟨c, rfl⟩ := ite_some h
      obtain ⟨c, h3⟩ := Bool.and_eq_true_iff.mp c
      obtain ⟨h1, h2⟩ := Bool.and_eq_true_iff.mp c
      obtain rfl := beq_iff_eq.mp h1
      exact pv_fld ok.fx (by simpa using h2) h3
    · cases h
  · cases h
theorem viewP_ok (ok : AmbOk G A) (h : viewP G S op e = some es) : PrimV A S op e es := by
  cases e with
  | BinOp => exact vBin_ok h
  | UnaryOp => exact vNeg_ok h
  | Compare => exact vCmp_ok h
  | Subscript => exact vSub_ok h
  | Call => exact vCall_ok ok h
  | Attribute => exact vFld_ok ok h
  | Dict => exact vDict_ok h
  | _ => cases h
/-! ### what is walked -/
def isTup : Expr → Bool
  | .Tuple _ _ _ => true
  | _ => false
def viewI (G : Sig) (S : SC) (k : IK) (tg iter : Expr) : Option (List Expr) := match k with
  | .plain => some [iter]
  | .range n => match iter with
    | .Call (.Name x _) es [] _ => if (x == ("range" : Str) && gB G S x && noStars es && es.length == n && (n == 1 || n == 2 || n == 3)) = true then some es else none
    | _ => none
  | .enum => match iter with
    | .Call (.Name x _) [a] [] _ => if (x == ("enumerate" : Str) && gB G S x && noStars [a] && isTup tg) = true then some [a] else none
    | _ => none
  | .zip => match iter with
    | .Call (.Name x _) [a, b] [] _ => if (x == ("zip" : Str) && gB G S x && noStars [a, b] && isTup tg) = true then some [a, b] else none
    | _ => none
theorem rng_ok {n : Nat} {tg : Expr} {p pos : Pos} {fl : Env → Res (List Arg × Env)} (h4 : (es.length == n) = true) (h5 : (n == 1 || n == 2 || n == 3) = true) (g1 : glob S "range" = true) (g2 : A.T.mg "range" = none) (h3 : noStars es = true) (hl : BL A S es fl) : BI A S (.range n) tg (.Call (.Name "range" p) es [] pos) fl := by
  obtain rfl := beq_iff_eq.mp h4
  match es, h5, h3, hl with
  | [a], h5, h3, hl => exact bi_rng1 g1 g2 h3 hl
  | [a, b], h5, h3, hl => exact bi_rng2 g1 g2 h3 hl
  | [a, b, c], h5, h3, hl => exact bi_rng3 g1 g2 h3 hl
  | [], h5, h3, hl => simp at h5
  | _ :: _ :: _ :: _ :: r, h5, h3, hl =>
    simp only [List.length_cons, Bool.or_eq_true, beq_iff_eq] at h5
    omega
theorem viewI_ok (ok : AmbOk G A) {k : IK} {tg iter : Expr} {fl : Env → Res (List Arg × Env)} (h : viewI G S k tg iter = some es) (hl : BL A S es fl) : BI A S k tg iter fl := by
  cases k with
  | plain =>
    cases h
    exact bi_seq hl
  | range n =>
    unfold viewI at h
    dsimp only at h
    split at h
    · obtain ⟨c, rfl⟩ := ite_some h
      obtain ⟨c, h5⟩ := Bool.and_eq_true_iff.mp c
      obtain ⟨c, h4⟩ := Bool.and_eq_true_iff.mp c
      obtain ⟨c, h3⟩ := Bool.and_eq_true_iff.mp c
      obtain ⟨h1, h2⟩ := Bool.and_eq_true_iff.mp c
      obtain rfl := beq_iff_eq.mp h1
      obtain ⟨g1, g2⟩ := gB_ok ok h2
      exact rng_ok h4 h5 g1 g2 h3 hl
    · cases h
  | enum =>
    unfold viewI at h
    dsimp only at h
    split at h
    · obtain ⟨c, rfl⟩ := ite_some h
      obtain ⟨c, h4⟩ := Bool.and_eq_true_iff.mp c
      obtain ⟨c, h3⟩ := Bool.and_eq_true_iff.mp c
      obtain ⟨h1, h2⟩ := Bool.and_eq_true_iff.mp c
      obtain rfl := beq_iff_eq.mp h1
      obtain ⟨g1, g2⟩ := gB_ok ok h2
      cases tg with
      | Tuple elts kk tpos => exact bi_enum g1 g2 h3 hl
      | _ => cases h4
    · cases h
  | zip =>
    unfold viewI at h
    dsimp only at h
    split at h
    · obtain ⟨c, rfl⟩ := ite_some h
      obtain ⟨c, h4⟩ := Bool.and_eq_true_iff.mp c
      obtain ⟨c, h3⟩ := Bool.and_eq_true_iff.mp c
      obtain ⟨h1, h2⟩ := Bool.and_eq_true_iff.mp c
      obtain rfl := beq_iff_eq.mp h1
      obtain ⟨g1, g2⟩ := gB_ok ok h2
      cases tg with
      | Tuple elts kk tpos => exact bi_zip g1 g2 h3 hl
      | _ => cases h4
    · cases h
/-! ### methods -/
def mtC (m : Mt) (nm : Str) (n : Nat) : Bool := match m with
  | .append => nm == ("append" : Str) && n == 1
  | .extend => nm == ("extend" : Str) && n == 1
  | .pop => nm == ("pop" : Str) && n == 0
  | .popAt => nm == ("pop" : Str) && n == 1
  | .insert => nm == ("insert" : Str) && n == 2
theorem mtC_ok {m : Mt} {nm x : Str} {p apos pos : Pos} {i : Nat} {fl : Env → Res (List Val × Env)} (h : mtC m nm (e :: es).length = true) (hN : S.N[i]? = some x) (hv : vis S x = true) (hx : plainN x = true) (hn : noStars (e :: es) = true) (hline : (apos.endLine == pos.line) = true) (hb : BV A S (e :: es) fl) :
    BE A S (.Call (.Attribute (.Name x p) nm apos) (e :: es) [] pos) (fun env => match env[i]? with
      | some (.val _ (.own _)) => (fl env).bind fun (ws, env1) => (mutSlot i env1 fun w => mtd m w (ws.map Val.frz)).bind fun (d, env2) => .ok (.fz d, env2)
      | _ => .bad) := by
  cases m with
  | append =>
    obtain ⟨h1, h2⟩ := Bool.and_eq_true_iff.mp (show (nm == ("append" : Str) && (e :: es).length == 1) = true from h)
    obtain rfl := beq_iff_eq.mp h1
    exact be_mut1 PySem.F.slot_list_append PySem.F.type_list_append (fun X => mt_append) mt_append' hN hv hx hn (beq_iff_eq.mp h2) (by decide) hline hb
  | extend =>
    obtain ⟨h1, h2⟩ := Bool.and_eq_true_iff.mp (show (nm == ("extend" : Str) && (e :: es).length == 1) = true from h)
    obtain rfl := beq_iff_eq.mp h1
    exact be_mut1 PySem.F.slot_list_extend PySem.F.type_list_extend (fun X => mt_extend) mt_ext' hN hv hx hn (beq_iff_eq.mp h2) (by decide) hline hb
  | pop =>
    obtain ⟨h1, h2⟩ := Bool.and_eq_true_iff.mp (show (nm == ("pop" : Str) && (e :: es).length == 0) = true from h)
    cases h2
  | popAt =>
    obtain ⟨h1, h2⟩ := Bool.and_eq_true_iff.mp (show (nm == ("pop" : Str) && (e :: es).length == 1) = true from h)
    obtain rfl := beq_iff_eq.mp h1
    exact be_mut1 PySem.F.slot_list_pop PySem.F.type_list_pop (fun X => mt_popAt) mt_popAt' hN hv hx hn (beq_iff_eq.mp h2) (by decide) hline hb
  | insert =>
    obtain ⟨h1, h2⟩ := Bool.and_eq_true_iff.mp (show (nm == ("insert" : Str) && (e :: es).length == 2) = true from h)
    obtain rfl := beq_iff_eq.mp h1
    exact be_mut1 PySem.F.slot_list_insert PySem.F.type_list_insert (fun X => mt_insert) mt_ins' hN hv hx hn (beq_iff_eq.mp h2) (by decide) hline hb
theorem mtC_ok0 {m : Mt} {nm x : Str} {p apos pos : Pos} {i : Nat} (h : mtC m nm 0 = true) (hN : S.N[i]? = some x) (hv : vis S x = true) (hx : plainN x = true) (hline : (apos.endLine == pos.line) = true) :
    BE A S (.Call (.Attribute (.Name x p) nm apos) [] [] pos) (fun env => match env[i]? with
      | some (.val _ (.own _)) => (Res.ok (([] : List Val), env)).bind fun (ws, env1) => (mutSlot i env1 fun w => mtd m w (ws.map Val.frz)).bind fun (d, env2) => .ok (.fz d, env2)
      | _ => .bad) := by
  cases m with
  | pop =>
    obtain ⟨h1, h2⟩ := Bool.and_eq_true_iff.mp (show (nm == ("pop" : Str) && (0 : Nat) == 0) = true from h)
    obtain rfl := beq_iff_eq.mp h1
    exact be_mut0 PySem.F.slot_list_pop PySem.F.type_list_pop (fun X => mt_pop) mt_pop' hN hv hx hline
  | append => simp [mtC] at h
  | extend => simp [mtC] at h
  | popAt => simp [mtC] at h
  | insert => simp [mtC] at h
end
end Rx

set_option Elab.async false
set_option linter.all false
set_option autoImplicit false
set_option maxRecDepth 100000
namespace Rx
open PySem L2
open PySem.Spec
open PyProof.Rows
mutual
def tgI : Tg → List Nat
  | .nm i => [i]
  | .tp l => tgIs l
  | .sub _ _ => []
def tgIs : List Tg → List Nat
  | [] => []
  | t :: r => tgI t ++ tgIs r
end
def ownW (N : List Str) (wp : List Nat) : List (Str × Nat) := wp.map fun i => (N.getD i Str.empty, i)
theorem ownW_snd (N : List Str) : ∀ wp : List Nat, (ownW N wp).map (·.2) = wp
  | [] => rfl
  | i :: r => by
    show i :: (ownW N r).map (·.2) = i :: r
    rw [ownW_snd N r]
mutual
/-- does c say what the text says? -/
def chkE (G : Sig) : CE → SC → Expr → Bool
  | .var i, S, e => match e with
    | .Name x _ => S.N[i]? == some x && vis S x && plainN x
    | _ => false
  | .con d, S, e => match d, e with
    | .int i, .Constant (.int j) _ _ => i == j
    | .bl i, .Constant (.bool j) _ _ => i == j
    | .str i, .Constant (.str j) _ _ => i == j
    | .non, .Constant .none _ _ => true
    | _, _ => false
  | .glob x, S, e => match e with
    | .Name y _ => x == y && glob S x && plainN x && (G.Γ.cst x).isSome
    | _ => false
  | .prim op cs, S, e => match viewP G S op e with
    | some es => chkA G cs S es
    | none => false
  | .and a b, S, e => match e with
    | .BoolOp .And (x :: y :: r) p => !ifx x && chkE G a S x && (match r with
      | [] => !ifx y && chkE G b S y
      | r => chkE G b S (.BoolOp .And (y :: r) p))
    | _ => false
  | .or a b, S, e => match e with
    | .BoolOp .Or (x :: y :: r) p => !ifx x && chkE G a S x && (match r with
      | [] => !ifx y && chkE G b S y
      | r => chkE G b S (.BoolOp .Or (y :: r) p))
    | _ => false
  | .not a, S, e => match e with
    | .UnaryOp .Not x _ => !ifx x && chkE G a S x
    | _ => false
  | .ite t a b, S, e => match e with
    | .IfExp x y z _ => !ifx x && chkE G t S x && chkE G a S y && chkE G b S z
    | _ => false
  | .chain o p a b c, S, e => match e with
    | .Compare x [o1, p1] [y, z] _ => cmpO o o1 && cmpO p p1 && noSet z && chkE G a S x && chkE G b S y && chkE G c S z
    | _ => false
  | .eqc cs, S, e => match e with
    | .Compare x [.Eq] [y] _ => noSet y && chkA G cs S [x, y]
    | _ => false
  | .tup cs, S, e => match e with
    | .Tuple es _ _ => noStars es && chkA G cs S es
    | _ => false
  | .lst cs, S, e => match e with
    | .List es _ => noStars es && chkA G cs S es
    | _ => false
  | .call f cs, S, e => match e with
    | .Call (.Name g _) es [] _ => f == g && G.fns.contains f && glob S f && plainN f && noStars es && (match G.Γ.fn f with | some fn => fn.np == es.length | none => false) && chkA G cs S es
    | _ => false
  | .make c cs, S, e => match e with
    | .Call (.Name g _) (a :: es) [] _ => c == g && glob S c && plainN c && noStars (a :: es) && (match G.Γ.ini c with | some f => (match G.Γ.fn f with | some fn => fn.np == es.length + 2 | none => false) | none => false) && chkA G cs S (a :: es)
    | _ => false
  | .mut m i cs, S, e => match e with
    | .Call (.Attribute (.Name x _) nm ap) es [] ps => mtC m nm es.length && S.N[i]? == some x && vis S x && plainN x && noStars es && ap.endLine == ps.line && chkA G cs S es
    | _ => false
  | .comp c t k ss cs wp, S, e => match e with
    | .ListComp el [⟨tg, it, ifs, 0⟩] sco _ => (match viewI G S k tg it with | some es => chkA G ss S es | none => false) && chkG G t (S.inn sco) tg && (tgI t).all (fun i => wp.contains i) && chkTs G cs (S.inn sco) ifs && chkE G c (S.inn sco) el && blkC S.N S.sc sco (ownW S.N wp) && noSet it
    | _ => false
  | .comp2 .., _, _ => false
def chkA (G : Sig) : List CE → SC → List Expr → Bool
  | [], _, [] => true
  | c :: cs, S, e :: es => chkE G c S e && chkA G cs S es
  | _, _, _ => false
def chkTs (G : Sig) : List CE → SC → List Expr → Bool
  | [], _, [] => true
  | [c], S, [e] => !ifx e && chkE G c S e
  | _, _, _ => false
def chkG (G : Sig) : Tg → SC → Expr → Bool
  | .nm i, S, e => match e with
    | .Name x _ => S.N[i]? == some x && stor S x
    | _ => false
  | .tp ts, S, e => match e with
    | .Tuple es _ _ => noStars es && chkGs G ts S es
    | _ => false
  | .sub k c, S, e => match e with
    | .Subscript (.Name x _) a _ => S.N[k]? == some x && vis S x && plainN x && noSlice a && chkE G c S a
    | _ => false
def chkGs (G : Sig) : List Tg → SC → List Expr → Bool
  | [], _, [] => true
  | t :: ts, S, e :: es => chkG G t S e && chkGs G ts S es
  | _, _, _ => false
end
end Rx

set_option Elab.async false
set_option linter.all false
set_option autoImplicit false
set_option maxRecDepth 100000
namespace Rx
open PySem L2
open PySem.Spec
open PyProof.Rows
theorem band {a b : Bool} (h : (a && b) = true) : a = true ∧ b = true := Bool.and_eq_true_iff.mp h
theorem bnot {a : Bool} (h : (!a) = true) : a = false := by cases a <;> first | rfl | cases h
theorem beqE {α : Type} [BEq α] [LawfulBEq α] {a b : α} (h : (a == b) = true) : a = b := beq_iff_eq.mp h
section
variable {A : Amb} {S : SC} {X : Cx} {a b e : Expr} {es : List Expr} {pos p : Pos} {x : Str} {i : Nat}
theorem evAs_val {Γ : Tbl} {cl : Call} {c : CE} {cs : List CE} (h : ∀ i, c ≠ .var i) : evAs Γ cl (c :: cs) = fun env => (evE Γ cl c env).bind fun (w, env1) => (evAs Γ cl cs env1).bind fun (as, env2) => .ok (.val w :: as, env2) := by
  funext env
  cases c <;> first | rfl | exact absurd rfl (h _)
theorem evE_comp {Γ : Tbl} {cl : Call} {c : CE} {t : Tg} {k : IK} {ss cs : List CE} {wp : List Nat} : evE Γ cl (.comp c t k ss cs wp) = compF (evAs Γ cl ss) k (bindT Γ cl t) (evTs Γ cl cs) (evE Γ cl c) wp := by
  funext env
  unfold compF
  rw [prel_bind]
  rfl
end
mutual
theorem chkE_ok {G : Sig} : ∀ (c : CE) {A : Amb} (ok : AmbOk G A) (S : SC) (nd : S.N.Nodup) (hk : S.sc.kind = .function) (e : Expr), chkE G c S e = true → BE A S e (evE A.Γ A.cl c)
  | .var i, A, ok, S, nd, hk, e, h => by
    cases e with
    | Name x p =>
      have h : (S.N[i]? == some x && vis S x && plainN x) = true := h
      obtain ⟨h, h3⟩ := band h
      obtain ⟨h1, h2⟩ := band h
      exact be_var (beqE h1) h2 h3
    | _ => exact absurd h Bool.false_ne_true
  | .con d, A, ok, S, nd, hk, e, h => by
    have h : (match (generalizing := false) d, e with
      | .int i, .Constant (.int j) _ _ => i == j
      | .bl i, .Constant (.bool j) _ _ => i == j
      | .str i, .Constant (.str j) _ _ => i == j
      | .non, .Constant .none _ _ => true
      | _, _ => false) = true := h
    split at h
    · obtain rfl := beqE h; exact be_int
    · obtain rfl := beqE h; exact be_bl
    · obtain rfl := beqE h; exact be_str
    · exact be_non
    · cases h
  | .glob x, A, ok, S, nd, hk, e, h => by
    cases e with
    | Name y p =>
      have h : (x == y && glob S x && plainN x && (G.Γ.cst x).isSome) = true := h
      obtain ⟨h, h4⟩ := band h
      obtain ⟨h, h3⟩ := band h
      obtain ⟨h1, h2⟩ := band h
      obtain rfl := beqE h1
      obtain ⟨d, hd⟩ := Option.isSome_iff_exists.mp h4
      obtain ⟨u, v, m, r, z⟩ := ok.cst x d hd
      have := be_glob (A := A) (S := S) (pos := p) h2 h3 m r z
      refine cast ?_ this
      congr 1
      funext env
      show _ = (match A.Γ.cst x with | some d => Res.ok (Val.fz d, env) | none => .bad)
      rw [ok.eΓ, hd]
    | _ => exact absurd h Bool.false_ne_true
  | .prim op cs, A, ok, S, nd, hk, e, h => by
    have h : (match viewP G S op e with
      | some es => chkA G cs S es
      | none => false) = true := h
    cases hv : viewP G S op e with
    | none => rw [hv] at h; cases h
    | some es =>
      rw [hv] at h
      exact be_prim (viewP_ok ok hv) (chkA_ok cs ok S nd hk es h)
  | .and a b, A, ok, S, nd, hk, e, h => by
    have h : (match (generalizing := false) e with
    | .BoolOp .And (x :: y :: r) p => !ifx x && chkE G a S x && (match (generalizing := false) r with
      | [] => !ifx y && chkE G b S y
      | r => chkE G b S (.BoolOp .And (y :: r) p))
    | _ => false) = true := h
    split at h
    · rename_i x y r p _
      obtain ⟨h, h3⟩ := band h
      obtain ⟨h1, h2⟩ := band h
      have ha := chkE_ok a ok S nd hk x h2
      cases r with
      | nil =>
        obtain ⟨h3, h4⟩ := band h3
        exact be_and (bnot h1) ha (be_and1 (bnot h3) (chkE_ok b ok S nd hk y h4))
      | cons z r => exact be_and (bnot h1) ha (chkE_ok b ok S nd hk _ h3)
    · cases h
  | .or a b, A, ok, S, nd, hk, e, h => by
    have h : (match (generalizing := false) e with
    | .BoolOp .Or (x :: y :: r) p => !ifx x && chkE G a S x && (match (generalizing := false) r with
      | [] => !ifx y && chkE G b S y
      | r => chkE G b S (.BoolOp .Or (y :: r) p))
    | _ => false) = true := h
    split at h
    · rename_i x y r p _
      obtain ⟨h, h3⟩ := band h
      obtain ⟨h1, h2⟩ := band h
      have ha := chkE_ok a ok S nd hk x h2
      cases r with
      | nil =>
        obtain ⟨h3, h4⟩ := band h3
        exact be_or (bnot h1) ha (be_or1 (bnot h3) (chkE_ok b ok S nd hk y h4))
      | cons z r => exact be_or (bnot h1) ha (chkE_ok b ok S nd hk _ h3)
    · cases h
  | .not a, A, ok, S, nd, hk, e, h => by
    have h : (match (generalizing := false) e with
    | .UnaryOp .Not x _ => !ifx x && chkE G a S x
    | _ => false) = true := h
    split at h
    · obtain ⟨h1, h2⟩ := band h
      exact be_not (bnot h1) (chkE_ok a ok S nd hk _ h2)
    · cases h
  | .ite t a b, A, ok, S, nd, hk, e, h => by
    cases e with
    | IfExp x y z p =>
      have h : (!ifx x && chkE G t S x && chkE G a S y && chkE G b S z) = true := h
      obtain ⟨h, h4⟩ := band h
      obtain ⟨h, h3⟩ := band h
      obtain ⟨h1, h2⟩ := band h
      exact be_ite (bnot h1) (chkE_ok t ok S nd hk _ h2) (chkE_ok a ok S nd hk _ h3) (chkE_ok b ok S nd hk _ h4)
    | _ => exact absurd h Bool.false_ne_true
  | .chain o p a b c, A, ok, S, nd, hk, e, h => by
    have h : (match (generalizing := false) e with
    | .Compare x [o1, p1] [y, z] _ => cmpO o o1 && cmpO p p1 && noSet z && chkE G a S x && chkE G b S y && chkE G c S z
    | _ => false) = true := h
    split at h
    · obtain ⟨h, h6⟩ := band h
      obtain ⟨h, h5⟩ := band h
      obtain ⟨h, h4⟩ := band h
      obtain ⟨h, h3⟩ := band h
      obtain ⟨h1, h2⟩ := band h
      exact be_chain h1 h2 h3 (chkE_ok a ok S nd hk _ h4) (chkE_ok b ok S nd hk _ h5) (chkE_ok c ok S nd hk _ h6)
    · cases h
  | .eqc cs, A, ok, S, nd, hk, e, h => by
    have h : (match (generalizing := false) e with
    | .Compare x [.Eq] [y] _ => noSet y && chkA G cs S [x, y]
    | _ => false) = true := h
    split at h
    · obtain ⟨h1, h2⟩ := band h
      exact be_eq2 (by rw [ok.eΓ]; exact ok.eqf) h1 (chkA_ok cs ok S nd hk _ h2)
    · cases h
  | .tup cs, A, ok, S, nd, hk, e, h => by
    cases e with
    | Tuple es k p =>
      obtain ⟨h1, h2⟩ := band (show (noStars es && chkA G cs S es) = true from h)
      exact be_tup (chkA_okV cs ok S nd hk es h2) h1
    | _ => exact absurd h Bool.false_ne_true
  | .lst cs, A, ok, S, nd, hk, e, h => by
    cases e with
    | List es p =>
      obtain ⟨h1, h2⟩ := band (show (noStars es && chkA G cs S es) = true from h)
      exact be_lst (chkA_okV cs ok S nd hk es h2) h1
    | _ => exact absurd h Bool.false_ne_true
  | .call f cs, A, ok, S, nd, hk, e, h => by
    have h : (match (generalizing := false) e with
    | .Call (.Name g _) es [] _ => f == g && G.fns.contains f && glob S f && plainN f && noStars es && (match G.Γ.fn f with | some fn => fn.np == es.length | none => false) && chkA G cs S es
    | _ => false) = true := h
    split at h
    · rename_i g0 p0 es p1 _
      obtain ⟨h, h7⟩ := band h
      obtain ⟨h, h6⟩ := band h
      obtain ⟨h, h5⟩ := band h
      obtain ⟨h, h4⟩ := band h
      obtain ⟨h, h3⟩ := band h
      obtain ⟨h1, h2⟩ := band h
      obtain rfl := beqE h1
      cases hf : G.Γ.fn f with
      | none => rw [hf] at h6; cases h6
      | some fn =>
        rw [hf] at h6
        obtain ⟨ad, fd, ps, k⟩ := ok.fn f fn (by simpa using h2) hf
        have := be_call (p := p0) (pos := p1) k h3 h4 h5 (chkA_ok cs ok S nd hk es h7) (beqE h6).symm
        refine cast ?_ this
        congr 1
        funext env
        show _ = (match A.Γ.fn f with
          | none => Res.bad
          | some fn => (evAs A.Γ A.cl cs env).bind fun (as, env1) => (bindCall fn.pins 0 as env1).bind fun (ws, env2) =>
            (A.cl f ws).bind fun (w, outs) => (backCall fn.pins env1 0 as ws outs env2).bind fun env3 => .ok (w, env3))
        rw [ok.eΓ, hf]
    · cases h
  | .make c cs, A, ok, S, nd, hk, e, h => by
    have h : (match (generalizing := false) e with
    | .Call (.Name g _) (a :: es) [] _ => c == g && glob S c && plainN c && noStars (a :: es) && (match G.Γ.ini c with | some f => (match G.Γ.fn f with | some fn => fn.np == es.length + 2 | none => false) | none => false) && chkA G cs S (a :: es)
    | _ => false) = true := h
    split at h
    · rename_i g0 p0 a es p1 _
      obtain ⟨h, h7⟩ := band h
      obtain ⟨h, h6⟩ := band h
      obtain ⟨h, h5⟩ := band h
      obtain ⟨h, h4⟩ := band h
      obtain ⟨h1, h3⟩ := band h
      obtain rfl := beqE h1
      cases hi : G.Γ.ini c with
      | none => rw [hi] at h6; cases h6
      | some f =>
        rw [hi] at h6
        dsimp only at h6
        cases hf : G.Γ.fn f with
        | none => rw [hf] at h6; cases h6
        | some fn =>
          rw [hf] at h6
          obtain ⟨C, ad, fd, ps, k⟩ := ok.mki c f fn hi hf
          have := be_make (p := p0) (pos := p1) k h3 h4 h5 (chkA_okV cs ok S nd hk (a :: es) h7) (beqE h6).symm
          refine cast ?_ this
          congr 1
          funext env
          show _ = evE A.Γ A.cl (.make c cs) env
          unfold evE
          rw [ok.eΓ, hi]
          all_goals rfl
    · cases h
  | .mut m i cs, A, ok, S, nd, hk, e, h => by
    have h : (match (generalizing := false) e with
    | .Call (.Attribute (.Name x _) nm ap) es [] ps => mtC m nm es.length && S.N[i]? == some x && vis S x && plainN x && noStars es && ap.endLine == ps.line && chkA G cs S es
    | _ => false) = true := h
    split at h
    · rename_i es _ _
      obtain ⟨h, h7⟩ := band h
      obtain ⟨h, h6⟩ := band h
      obtain ⟨h, h5⟩ := band h
      obtain ⟨h, h4⟩ := band h
      obtain ⟨h, h3⟩ := band h
      obtain ⟨h1, h2⟩ := band h
      cases es with
      | nil =>
        cases cs with
        | nil => exact mtC_ok0 h1 (beqE h2) h3 h4 h6
        | cons c cs => exact absurd h7 Bool.false_ne_true
      | cons a es => exact mtC_ok h1 (beqE h2) h3 h4 h5 h6 (chkA_okV cs ok S nd hk _ h7)
    · cases h
  | .comp c t k ss cs wp, A, ok, S, nd, hk, e, h => by
    have h : (match (generalizing := false) e with
    | .ListComp el [⟨tg, it, ifs, 0⟩] sco _ => (match viewI G S k tg it with | some es => chkA G ss S es | none => false) && chkG G t (S.inn sco) tg && (tgI t).all (fun i => wp.contains i) && chkTs G cs (S.inn sco) ifs && chkE G c (S.inn sco) el && blkC S.N S.sc sco (ownW S.N wp) && noSet it
    | _ => false) = true := h
    split at h
    · rename_i el tg it ifs sco ps _
      obtain ⟨h, h7⟩ := band h
      obtain ⟨h, h6⟩ := band h
      obtain ⟨h, h5⟩ := band h
      obtain ⟨h, h4⟩ := band h
      obtain ⟨h, h3⟩ := band h
      obtain ⟨h1, h2⟩ := band h
      cases hv : viewI G S k tg it with
      | none => rw [hv] at h1; cases h1
      | some es =>
        rw [hv] at h1
        have hk' : (S.inn sco).sc.kind = .function := (blkOk_by h6).kind
        have := be_comp (pos := ps) (own := ownW S.N wp) ok.cx nd (viewI_ok ok hv (chkA_ok ss ok S nd hk es h1)) (chkG_ok t ok.inn (S.inn sco) nd hk' tg h2) (fun i hi => by rw [ownW_snd]; simpa using List.all_eq_true.mp h3 i hi) (chkTs_ok cs ok.inn (S.inn sco) nd hk' ifs h4) (chkE_ok c ok.inn (S.inn sco) nd hk' el h5) h6 h7
        rw [ownW_snd] at this
        rw [evE_comp]
        exact this
    · cases h
  | .comp2 .., A, ok, S, nd, hk, e, h => by exact absurd h Bool.false_ne_true
theorem chkA_ok {G : Sig} : ∀ (cs : List CE) {A : Amb} (ok : AmbOk G A) (S : SC) (nd : S.N.Nodup) (hk : S.sc.kind = .function) (es : List Expr), chkA G cs S es = true → BL A S es (evAs A.Γ A.cl cs)
  | [], A, ok, S, nd, hk, [], h => bl_nil
  | [], A, ok, S, nd, hk, _ :: _, h => absurd h Bool.false_ne_true
  | _ :: _, A, ok, S, nd, hk, [], h => absurd h Bool.false_ne_true
  | c :: cs, A, ok, S, nd, hk, e :: es, h => by
    obtain ⟨h1, h2⟩ := band (show (chkE G c S e && chkA G cs S es) = true from h)
    have r := chkA_ok cs ok S nd hk es h2
    by_cases hc : ∃ i, c = .var i
    · obtain ⟨i, rfl⟩ := hc
      cases e with
      | Name x p =>
        have h : (S.N[i]? == some x && vis S x && plainN x) = true := h1
        obtain ⟨h, h3⟩ := band h
        obtain ⟨h1, h2⟩ := band h
        exact bl_var (pe_varG (beqE h1) h2 h3) r
      | _ => exact absurd h1 Bool.false_ne_true
    · rw [evAs_val fun i z => hc ⟨i, z⟩]
      exact bl_cons (chkE_ok c ok S nd hk e h1) r
theorem chkA_okV {G : Sig} : ∀ (cs : List CE) {A : Amb} (ok : AmbOk G A) (S : SC) (nd : S.N.Nodup) (hk : S.sc.kind = .function) (es : List Expr), chkA G cs S es = true → BV A S es (evVs A.Γ A.cl cs)
  | [], A, ok, S, nd, hk, [], h => bv_nil
  | [], A, ok, S, nd, hk, _ :: _, h => absurd h Bool.false_ne_true
  | _ :: _, A, ok, S, nd, hk, [], h => absurd h Bool.false_ne_true
  | c :: cs, A, ok, S, nd, hk, e :: es, h => by
    obtain ⟨h1, h2⟩ := band (show (chkE G c S e && chkA G cs S es) = true from h)
    exact bv_cons (chkE_ok c ok S nd hk e h1) (chkA_okV cs ok S nd hk es h2)
theorem chkTs_ok {G : Sig} : ∀ (cs : List CE) {A : Amb} (ok : AmbOk G A) (S : SC) (nd : S.N.Nodup) (hk : S.sc.kind = .function) (es : List Expr), chkTs G cs S es = true → BTs A S es (evTs A.Γ A.cl cs)
  | [], A, ok, S, nd, hk, [], h => bts_nil
  | [], A, ok, S, nd, hk, _ :: _, h => absurd h Bool.false_ne_true
  | [c], A, ok, S, nd, hk, [e], h => by
    obtain ⟨h1, h2⟩ := band (show (!ifx e && chkE G c S e) = true from h)
    exact bts_one (bnot h1) (chkE_ok c ok S nd hk e h2)
  | [_], A, ok, S, nd, hk, [], h => absurd h Bool.false_ne_true
  | [_], A, ok, S, nd, hk, _ :: _ :: _, h => absurd h Bool.false_ne_true
  | _ :: _ :: _, A, ok, S, nd, hk, [], h => absurd h Bool.false_ne_true
  | _ :: _ :: _, A, ok, S, nd, hk, _ :: _, h => absurd h Bool.false_ne_true
theorem chkG_ok {G : Sig} : ∀ (t : Tg) {A : Amb} (ok : AmbOk G A) (S : SC) (nd : S.N.Nodup) (hk : S.sc.kind = .function) (e : Expr), chkG G t S e = true → BG A S e (bindT A.Γ A.cl t) (tgI t)
  | .nm i, A, ok, S, nd, hk, e, h => by
    cases e with
    | Name x p =>
      obtain ⟨h1, h2⟩ := band (show (S.N[i]? == some x && stor S x) = true from h)
      exact bg_nm nd (beqE h1) h2
    | _ => exact absurd h Bool.false_ne_true
  | .tp ts, A, ok, S, nd, hk, e, h => by
    cases e with
    | Tuple es k p =>
      obtain ⟨h1, h2⟩ := band (show (noStars es && chkGs G ts S es) = true from h)
      obtain ⟨ln, r⟩ := chkGs_ok ts ok S nd hk es h2 h1
      have := bg_tp (k := k) (pos := p) h1 r
      rw [ln] at this
      exact this
    | _ => exact absurd h Bool.false_ne_true
  | .sub k c, A, ok, S, nd, hk, e, h => by
    have h : (match (generalizing := false) e with
    | .Subscript (.Name x _) a _ => S.N[k]? == some x && vis S x && plainN x && noSlice a && chkE G c S a
    | _ => false) = true := h
    split at h
    · obtain ⟨h, h5⟩ := band h
      obtain ⟨h, h4⟩ := band h
      obtain ⟨h, h3⟩ := band h
      obtain ⟨h1, h2⟩ := band h
      exact bg_sub (beqE h1) h2 h3 h4 (chkE_ok c ok S nd hk _ h5)
    · cases h
theorem chkGs_ok {G : Sig} : ∀ (ts : List Tg) {A : Amb} (ok : AmbOk G A) (S : SC) (nd : S.N.Nodup) (hk : S.sc.kind = .function) (es : List Expr), chkGs G ts S es = true → noStars es = true → es.length = ts.length ∧ BGs A S es (bindTs A.Γ A.cl ts) (tgIs ts)
  | [], A, ok, S, nd, hk, [], h, n => ⟨rfl, bgs_nil (fun _ => rfl) fun _ _ _ => rfl⟩
  | [], A, ok, S, nd, hk, _ :: _, h, n => absurd h Bool.false_ne_true
  | _ :: _, A, ok, S, nd, hk, [], h, n => absurd h Bool.false_ne_true
  | t :: ts, A, ok, S, nd, hk, e :: es, h, n => by
    obtain ⟨h1, h2⟩ := band (show (chkG G t S e && chkGs G ts S es) = true from h)
    obtain ⟨n1, n2⟩ := band (show (noStar e && noStars es) = true from n)
    obtain ⟨ln, r⟩ := chkGs_ok ts ok S nd hk es h2 n2
    exact ⟨by rw [List.length_cons, List.length_cons, ln], bgs_cons n1 (chkG_ok t ok S nd hk e h1) r (fun _ => rfl) fun _ _ _ => rfl⟩
end
end Rx

set_option Elab.async false
set_option linter.all false
set_option autoImplicit false
set_option maxRecDepth 100000
namespace Rx
open PySem L2
open PySem.Spec
open PyProof.Rows
def isLc : CE → Expr → Bool
  | .comp .., .ListComp .. => true
  | _, _ => false
def swN (S : SC) : Expr → Expr → Bool
  | .Tuple ts _ _, .Tuple vs _ _ => (match swapC (kOf S) ts vs with
    | some none => true
    | _ => false)
  | _, _ => false
def isNm : Tg → Option Nat
  | .nm i => some i
  | _ => none
def parC (S : SC) (l : List Nat) (tgs vs : List Expr) : Bool := match swapC (kOf S) tgs vs with
  | some none => namesC S l tgs && decide (l.length ≤ 1000)
  | some (some nms) => (match l, tgs, vs with
    | [i, j], [.Name x _, .Name y _], [_, _] => nms == [x, y] && S.N[i]? == some x && S.N[j]? == some y && i != j && kOf S x == some .local && kOf S y == some .local
    | [i, j, l], [.Name x _, .Name y _, .Name z _], [_, _, _] => nms == [x, y, z] && S.N[i]? == some x && S.N[j]? == some y && S.N[l]? == some z && i != j && i != l && j != l && kOf S x == some .local && kOf S y == some .local && kOf S z == some .local
    | _, _, _ => false)
  | none => false
def augC : Op → Operator → Bool
  | .add, .Add => true
  | .sub, .Sub => true
  | _, _ => false
mutual
def chkS (G : Sig) : CS → SC → Stmt → Bool
  | .asg t c, S, st => match st with
    | .Assign [tg] v _ => chkE G c S v && (match isNm t with
      | some i => (match tg with
        | .Name x _ => S.N[i]? == some x && stor S x
        | _ => false) && (noComp v || isLc c v)
      | none => noName tg && noStar tg && (noTup v || noSeq tg || swN S tg v) && chkG G t S tg)
    | _ => false
  | .par l cs, S, st => match st with
    | .Assign [.Tuple tgs _ _] (.Tuple vs _ _) _ => noStars vs && chkA G cs S vs && parC S l tgs vs
    | _ => false
  | .aug i op c, S, st => match st with
    | .AugAssign (.Name x _) o v _ => S.N[i]? == some x && stor S x && chkE G c S v && augC op o
    | _ => false
  | .fset k f c, S, st => match st with
    | .Assign [.Attribute (.Name x _) g _] v _ => f == g && G.fld.contains f && S.N[k]? == some x && vis S x && plainN x && chkE G c S v
    | _ => false
  | .dput k cs, S, st => match st with
    | .Assign [.Subscript (.Name x _) a _] v _ => S.N[k]? == some x && vis S x && plainN x && chkA G cs S [v, a]
    | _ => false
  | .expr c, S, st => match st with
    | .Expr v _ => noComp v && chkE G c S v
    | _ => false
  | .ret c, S, st => match st with
    | .Return (some v) _ => chkE G c S v
    | _ => false
  | .retN, S, st => match st with
    | .Return none _ => true
    | _ => false
  | .brk, S, st => match st with
    | .Break _ => true
    | _ => false
  | .cnt, S, st => match st with
    | .Continue _ => true
    | _ => false
  | .pass, S, st => match st with
    | .Pass _ => true
    | .Expr (.Constant (.str _) _ _) _ => true
    | _ => false
  | .raise c es, S, st => (G.Γ.exn c).isNone
  | .ite t a b, S, st => match st with
    | .If x p q _ => !ifx x && chkE G t S x && chkSs G a S p && chkSs G b S q
    | _ => false
  | .whl t b, S, st => match st with
    | .While x p [] _ => !ifx x && chkE G t S x && chkSs G b S p
    | _ => false
  | .for t k ss b, S, st => match st with
    | .For tg it p [] _ => (match viewI G S k tg it with | some es => chkA G ss S es | none => false) && chkG G t S tg && chkSs G b S p && noSet it
    | _ => false
def chkSs (G : Sig) : List CS → SC → List Stmt → Bool
  | [], _, [] => true
  | c :: cs, S, s :: ss => chkS G c S s && chkSs G cs S ss
  | _, _, _ => false
end
theorem parF_ev {Γ : Tbl} {cl : Call} {l : List Nat} {cs : List CE} : evS Γ cl (.par l cs) = parF (evVs Γ cl cs) l := rfl
theorem evS_for {Γ : Tbl} {cl : Call} {t : Tg} {k : IK} {ss : List CE} {b : List CS} : evS Γ cl (.for t k ss b) = fun env => (prel (evAs Γ cl ss) k env).bind fun ((its, sv), env2) => (forL (fun d env => (bindT Γ cl t d env).bind fun env3 => evSs Γ cl b env3) its env2).bind fun (f, env4) => .ok (f, unlock sv env4) := by
  funext env
  rw [prel_bind]
  rfl
theorem par_ok {G : Sig} {A : Amb} {S : SC} (nd : S.N.Nodup) (hk : S.sc.kind = .function) {l : List Nat} {tgs vs : List Expr} {kt k2 : Nat} {pt pt2 pos : Pos} {fl : Env → Res (List Val × Env)} (h : parC S l tgs vs = true) (hn : noStars vs = true) (hb : BV A S vs fl) : BS A S (.Assign [.Tuple tgs kt pt] (.Tuple vs k2 pt2) pos) (parF fl l) := by
  unfold parC at h
  cases hs : swapC (kOf S) tgs vs with
  | none => rw [hs] at h; cases h
  | some r =>
    rw [hs] at h
    cases r with
    | none =>
      obtain ⟨h1, h2⟩ := band h
      exact bs_parT nd h1 hk (of_decide_eq_true h2) hn hs hb
    | some nms =>
      dsimp only at h
      split at h
      · obtain ⟨h, h6⟩ := band h
        obtain ⟨h, h5⟩ := band h
        obtain ⟨h, h4⟩ := band h
        obtain ⟨h, h3⟩ := band h
        obtain ⟨h1, h2⟩ := band h
        obtain rfl := beqE h1
        exact bs_par2 nd (beqE h2) (beqE h3) (bne_iff_ne.mp h4) (beqE h5) (beqE h6) hk hn hs hb
      · obtain ⟨h, h10⟩ := band h
        obtain ⟨h, h9⟩ := band h
        obtain ⟨h, h8⟩ := band h
        obtain ⟨h, h7⟩ := band h
        obtain ⟨h, h6⟩ := band h
        obtain ⟨h, h5⟩ := band h
        obtain ⟨h, h4⟩ := band h
        obtain ⟨h, h3⟩ := band h
        obtain ⟨h1, h2⟩ := band h
        obtain rfl := beqE h1
        exact bs_par3 nd (beqE h2) (beqE h3) (beqE h4) (bne_iff_ne.mp h5) (bne_iff_ne.mp h6) (bne_iff_ne.mp h7) (beqE h8) (beqE h9) (beqE h10) hk hn hs hb
      · cases h
theorem lcS_ok {G : Sig} {A : Amb} (ok : AmbOk G A) {S : SC} (nd : S.N.Nodup) (hk : S.sc.kind = .function) {c : CE} {v : Expr} {i : Nat} {x : Str} {p pos : Pos} (hl : isLc c v = true) (h : chkE G c S v = true) (hN : S.N[i]? = some x) (hst : stor S x = true) :
    BS A S (.Assign [.Name x p] v pos) (fun env => (evE A.Γ A.cl c env).bind fun (w, env1) => (setSlot i w env1).bind fun env2 => .ok (.nx, env2)) := by
  unfold isLc at hl
  split at hl
  · rename_i c t k ss cs wp el gs sco ps
    have h : (match (generalizing := false) gs with
      | [⟨tg, it, ifs, 0⟩] => (match viewI G S k tg it with | some es => chkA G ss S es | none => false) && chkG G t (S.inn sco) tg && (tgI t).all (fun i => wp.contains i) && chkTs G cs (S.inn sco) ifs && chkE G c (S.inn sco) el && blkC S.N S.sc sco (ownW S.N wp) && noSet it
      | _ => false) = true := by
        have h0 : (match (generalizing := false) Expr.ListComp el gs sco ps with
    | .ListComp el [⟨tg, it, ifs, 0⟩] sco _ => (match viewI G S k tg it with | some es => chkA G ss S es | none => false) && chkG G t (S.inn sco) tg && (tgI t).all (fun i => wp.contains i) && chkTs G cs (S.inn sco) ifs && chkE G c (S.inn sco) el && blkC S.N S.sc sco (ownW S.N wp) && noSet it
    | _ => false) = true := h
        split at h0
        · rename_i e0
          cases e0
          exact h0
        · cases h0
    split at h
    · rename_i tg it ifs _
      obtain ⟨h, h7⟩ := band h
      obtain ⟨h, h6⟩ := band h
      obtain ⟨h, h5⟩ := band h
      obtain ⟨h, h4⟩ := band h
      obtain ⟨h, h3⟩ := band h
      obtain ⟨h1, h2⟩ := band h
      cases hv : viewI G S k tg it with
      | none => rw [hv] at h1; cases h1
      | some es =>
        rw [hv] at h1
        have hk' : (S.inn sco).sc.kind = .function := (blkOk_by h6).kind
        have := bs_asgC (pos := ps) (p := pos) (own := ownW S.N wp) ok.cx nd hk (viewI_ok ok hv (chkA_ok ss ok S nd hk es h1)) (chkG_ok t ok.inn (S.inn sco) nd hk' tg h2) (fun i hi => by rw [ownW_snd]; simpa using List.all_eq_true.mp h3 i hi) (chkTs_ok cs ok.inn (S.inn sco) nd hk' ifs h4) (chkE_ok c ok.inn (S.inn sco) nd hk' el h5) h6 h7 hN hst (py := p)
        rw [ownW_snd] at this
        rw [evE_comp]
        exact this
    · cases h
  · cases hl
theorem swN_ok {A : Amb} {S : SC} {X : Cx} (g : Good A S X) (hk : S.sc.kind = .function) {tg v : Expr} (h : (noTup v || noSeq tg || swN S tg v) = true) : swappedStores [tg] v X.env = pure none := by
  rcases (Bool.or_eq_true _ _).mp h with h | h
  · exact swapped_none ((Bool.or_eq_true _ _).mp h)
  · unfold swN at h
    split at h
    · split at h
      · rename_i e
        exact swapped_tup g hk e
      · cases h
    · cases h
mutual
theorem chkS_ok {G : Sig} {A : Amb} (ok : AmbOk G A) : ∀ (c : CS) (S : SC) (nd : S.N.Nodup) (hk : S.sc.kind = .function) (st : Stmt), chkS G c S st = true → BS A S st (evS A.Γ A.cl c)
  | .asg t c, S, nd, hk, st, h => by
    have h : (match (generalizing := false) st with
    | .Assign [tg] v _ => chkE G c S v && (match isNm t with
      | some i => (match tg with
        | .Name x _ => S.N[i]? == some x && stor S x
        | _ => false) && (noComp v || isLc c v)
      | none => noName tg && noStar tg && (noTup v || noSeq tg || swN S tg v) && chkG G t S tg)
    | _ => false) = true := h
    split at h
    · rename_i tg v pos _
      obtain ⟨h1, h2⟩ := band h
      have hv := chkE_ok c ok S nd hk v h1
      cases t with
      | nm i =>
        obtain ⟨h3, h4⟩ := band (show ((match (generalizing := false) tg with
          | .Name x _ => S.N[i]? == some x && stor S x
          | _ => false) && (noComp v || isLc c v)) = true from h2)
        cases tg with
        | Name x p =>
          obtain ⟨h5, h6⟩ := band h3
          rcases (Bool.or_eq_true _ _).mp h4 with h4 | h4
          · exact bs_asgN nd (beqE h5) h6 h4 hv
          · exact lcS_ok ok nd hk h4 h1 (beqE h5) h6
        | _ => cases h3
      | tp ts =>
        obtain ⟨h2, h6⟩ := band (show (noName tg && noStar tg && (noTup v || noSeq tg || swN S tg v) && chkG G (.tp ts) S tg) = true from h2)
        obtain ⟨h2, h5⟩ := band h2
        obtain ⟨h3, h4⟩ := band h2
        exact bs_asgT h3 h4 (fun X g => swN_ok g hk h5) hv (chkG_ok (.tp ts) ok S nd hk tg h6)
      | sub k e =>
        obtain ⟨h2, h6⟩ := band (show (noName tg && noStar tg && (noTup v || noSeq tg || swN S tg v) && chkG G (.sub k e) S tg) = true from h2)
        obtain ⟨h2, h5⟩ := band h2
        obtain ⟨h3, h4⟩ := band h2
        exact bs_asgT h3 h4 (fun X g => swN_ok g hk h5) hv (chkG_ok (.sub k e) ok S nd hk tg h6)
    · cases h
  | .par l cs, S, nd, hk, st, h => by
    have h : (match (generalizing := false) st with
    | .Assign [.Tuple tgs _ _] (.Tuple vs _ _) _ => noStars vs && chkA G cs S vs && parC S l tgs vs
    | _ => false) = true := h
    split at h
    · obtain ⟨h, h3⟩ := band h
      obtain ⟨h1, h2⟩ := band h
      exact par_ok (G := G) nd hk h3 h1 (chkA_okV cs ok S nd hk _ h2)
    · cases h
  | .aug i op c, S, nd, hk, st, h => by
    have h : (match (generalizing := false) st with
    | .AugAssign (.Name x _) o v _ => S.N[i]? == some x && stor S x && chkE G c S v && augC op o
    | _ => false) = true := h
    split at h
    · obtain ⟨h, h4⟩ := band h
      obtain ⟨h, h3⟩ := band h
      obtain ⟨h1, h2⟩ := band h
      unfold augC at h4
      split at h4
      · exact bs_augA nd (beqE h1) h2 (chkE_ok c ok S nd hk _ h3)
      · exact bs_augS nd (beqE h1) h2 (chkE_ok c ok S nd hk _ h3)
      · cases h4
    · cases h
  | .fset k f c, S, nd, hk, st, h => by
    have h : (match (generalizing := false) st with
    | .Assign [.Attribute (.Name x _) g _] v _ => f == g && G.fld.contains f && S.N[k]? == some x && vis S x && plainN x && chkE G c S v
    | _ => false) = true := h
    split at h
    · obtain ⟨h, h6⟩ := band h
      obtain ⟨h, h5⟩ := band h
      obtain ⟨h, h4⟩ := band h
      obtain ⟨h, h3⟩ := band h
      obtain ⟨h1, h2⟩ := band h
      obtain rfl := beqE h1
      exact bs_fset ok.fx (by simpa using h2) (beqE h3) h4 h5 (chkE_ok c ok S nd hk _ h6)
    · cases h
  | .dput k cs, S, nd, hk, st, h => by
    have h : (match (generalizing := false) st with
    | .Assign [.Subscript (.Name x _) a _] v _ => S.N[k]? == some x && vis S x && plainN x && chkA G cs S [v, a]
    | _ => false) = true := h
    split at h
    · obtain ⟨h, h4⟩ := band h
      obtain ⟨h, h3⟩ := band h
      obtain ⟨h1, h2⟩ := band h
      exact bs_dput (beqE h1) h2 h3 (chkA_okV cs ok S nd hk _ h4)
    · cases h
  | .expr c, S, nd, hk, st, h => by
    cases st with
    | Expr v p =>
      obtain ⟨h1, h2⟩ := band (show (noComp v && chkE G c S v) = true from h)
      exact bs_expr h1 (chkE_ok c ok S nd hk _ h2)
    | _ => exact absurd h Bool.false_ne_true
  | .ret c, S, nd, hk, st, h => by
    have h : (match (generalizing := false) st with
    | .Return (some v) _ => chkE G c S v
    | _ => false) = true := h
    split at h
    · rename_i v pos _
      by_cases hc : ∃ i, c = .var i
      · obtain ⟨i, rfl⟩ := hc
        cases v with
        | Name x p =>
          have h : (S.N[i]? == some x && vis S x && plainN x) = true := h
          obtain ⟨h, h3⟩ := band h
          obtain ⟨h1, h2⟩ := band h
          exact bs_retV (beqE h1) h2 h3
        | _ => exact absurd h Bool.false_ne_true
      · have e : evS A.Γ A.cl (.ret c) = fun env => (evE A.Γ A.cl c env).bind fun (w, env1) => .ok (.rt w, env1) := by
          funext env
          cases c <;> first | rfl | exact absurd ⟨_, rfl⟩ hc
        rw [e]
        exact bs_ret (chkE_ok c ok S nd hk _ h)
    · cases h
  | .retN, S, nd, hk, st, h => by
    have h : (match (generalizing := false) st with
    | .Return none _ => true
    | _ => false) = true := h
    split at h
    · exact bs_retN
    · cases h
  | .brk, S, nd, hk, st, h => by
    cases st with
    | Break p => exact bs_brk
    | _ => exact absurd h Bool.false_ne_true
  | .cnt, S, nd, hk, st, h => by
    cases st with
    | Continue p => exact bs_cnt
    | _ => exact absurd h Bool.false_ne_true
  | .pass, S, nd, hk, st, h => by
    have h : (match (generalizing := false) st with
    | .Pass _ => true
    | .Expr (.Constant (.str _) _ _) _ => true
    | _ => false) = true := h
    split at h
    · exact bs_pass
    · exact bs_doc
    · cases h
  | .raise c es, S, nd, hk, st, h => by
    have h : (G.Γ.exn c).isNone = true := h
    have e : evS A.Γ A.cl (.raise c es) = fun _ => .bad := by
      funext env
      show (match A.Γ.exn c with
        | none => Res.bad
        | some fs => (evVs A.Γ A.cl es env).bind fun (ws, _) => if ws.length = fs.length then .exc c (fs.zip (ws.map Val.frz)) else .bad) = .bad
      rw [ok.eΓ]
      cases hx : G.Γ.exn c with
      | none => rfl
      | some fs => rw [hx] at h; cases h
    rw [e]
    exact bs_never
  | .ite t a b, S, nd, hk, st, h => by
    cases st with
    | If x p q _ =>
      have h : (!ifx x && chkE G t S x && chkSs G a S p && chkSs G b S q) = true := h
      obtain ⟨h, h4⟩ := band h
      obtain ⟨h, h3⟩ := band h
      obtain ⟨h1, h2⟩ := band h
      exact bs_if (bnot h1) (chkE_ok t ok S nd hk _ h2) (chkSs_ok ok a S nd hk _ h3) (chkSs_ok ok b S nd hk _ h4)
    | _ => exact absurd h Bool.false_ne_true
  | .whl t b, S, nd, hk, st, h => by
    have h : (match (generalizing := false) st with
    | .While x p [] _ => !ifx x && chkE G t S x && chkSs G b S p
    | _ => false) = true := h
    split at h
    · obtain ⟨h, h3⟩ := band h
      obtain ⟨h1, h2⟩ := band h
      exact bs_whl (bnot h1) (chkE_ok t ok S nd hk _ h2) (chkSs_ok ok b S nd hk _ h3)
    · cases h
  | .for t k ss b, S, nd, hk, st, h => by
    have h : (match (generalizing := false) st with
    | .For tg it p [] _ => (match viewI G S k tg it with | some es => chkA G ss S es | none => false) && chkG G t S tg && chkSs G b S p && noSet it
    | _ => false) = true := h
    split at h
    · rename_i tg it p pos _
      obtain ⟨h, h4⟩ := band h
      obtain ⟨h, h3⟩ := band h
      obtain ⟨h1, h2⟩ := band h
      cases hv : viewI G S k tg it with
      | none => rw [hv] at h1; cases h1
      | some es =>
        rw [hv] at h1
        rw [evS_for]
        exact bs_for (viewI_ok ok hv (chkA_ok ss ok S nd hk es h1)) (chkG_ok t ok S nd hk tg h2) (chkSs_ok ok b S nd hk p h3) h4
    · cases h
theorem chkSs_ok {G : Sig} {A : Amb} (ok : AmbOk G A) : ∀ (cs : List CS) (S : SC) (nd : S.N.Nodup) (hk : S.sc.kind = .function) (ss : List Stmt), chkSs G cs S ss = true → BSs A S ss (evSs A.Γ A.cl cs)
  | [], S, nd, hk, [], h => bss_nil
  | [], S, nd, hk, _ :: _, h => absurd h Bool.false_ne_true
  | _ :: _, S, nd, hk, [], h => absurd h Bool.false_ne_true
  | c :: cs, S, nd, hk, s :: ss, h => by
    obtain ⟨h1, h2⟩ := band (show (chkS G c S s && chkSs G cs S ss) = true from h)
    exact bss_cons (chkS_ok ok c S nd hk s h1) (chkSs_ok ok cs S nd hk ss h2)
end
end Rx

set_option Elab.async false
set_option linter.all false
set_option autoImplicit false
set_option maxRecDepth 100000
namespace Rx
open PySem L2
open PySem.Spec
open PyProof.Rows
/-! ### the defs of a text -/
def parsOf (a : Arguments) : List Str := a.args.map (PySem.Arg.arg)
structure DefI where
  key : Str
  d : He.DefD
  N : List Str
def scopeC (N ps : List Str) (sc : Scope) : Bool := (match sc.kind with | .function => true | _ => false) && !sc.isCoroutine && !sc.isGenerator && decide (N.Nodup) && decide (N.take ps.length = ps) &&
  (ps.all fun x => decide (sc.names.lookup x = some .local) || decide (sc.names.lookup x = some .cell)) && (sc.names.all fun y => decide (y.2 ≠ .free))
theorem scope_ok {N ps : List Str} {sc : Scope} (h : scopeC N ps sc = true) : FnScope N ps sc := by
  unfold scopeC at h
  obtain ⟨h, h7⟩ := band h
  obtain ⟨h, h6⟩ := band h
  obtain ⟨h, h5⟩ := band h
  obtain ⟨h, h4⟩ := band h
  obtain ⟨h, h3⟩ := band h
  obtain ⟨h1, h2⟩ := band h
  refine ⟨?_, bnot h2, bnot h3, of_decide_eq_true h4, of_decide_eq_true h5, fun x hx => ?_, fun y hy => of_decide_eq_true (List.all_eq_true.mp h7 y hy)⟩
  · cases hk : sc.kind <;> first | rfl | (rw [hk] at h1; cases h1)
  · rcases (Bool.or_eq_true _ _).mp (List.all_eq_true.mp h6 x hx) with z | z
    · exact .inl (of_decide_eq_true z)
    · exact .inr (of_decide_eq_true z)
def defC (G : Sig) (i : DefI) : Bool := match G.Γ.fn i.key with
  | some fn => scopeC i.N (parsOf i.d.params) i.d.scope && decide (fn.np = (parsOf i.d.params).length) && decide (fn.ns = i.N.length) && (fn.pins.all fun j => decide (j < fn.np)) && i.d.dfl.isEmpty && i.d.kwd.isEmpty &&
      chkSs G fn.body ⟨i.N, i.d.scope, fun _ => true⟩ i.d.body
  | none => false
structure TextOk (G : Sig) (defs : List DefI) : Prop where
  chk : ∀ i ∈ defs, defC G i = true
  bind : ∀ i ∈ defs, ∀ (kV doc pm : Value) (an : Option Addr) (cdv ct : Value) (us : List Value), us.length = (parsOf i.d.params).length → bindArgs (PySem.W.fnOf i.d.name i.d.qual i.d.params i.d.body i.d.scope .none kV doc pm an cdv ct) ⟨us, []⟩ = pure ((parsOf i.d.params).zip us)
  fns : ∀ f ∈ G.fns, ∃ i ∈ defs, i.key = f ∧ i.d.at_ = (f, none)
  eqm : ∀ c f, G.Γ.eqm c = some f → c ∈ G.cls ∧ ∃ i ∈ defs, i.key = f ∧ i.d.at_ = (c, some ("__eq__" : Str)) ∧ (parsOf i.d.params).length = 2
  ini : ∀ c f, G.Γ.ini c = some f → c ∈ G.cls ∧ ∃ i ∈ defs, i.key = f ∧ i.d.at_ = (c, some ("__init__" : Str)) ∧ ∀ fn, G.Γ.fn f = some fn → 0 ∈ fn.pins
def caOf (G : Sig) (K : PySem.W.Frag) (c : Str) : Option Addr := if G.cls.contains c = true then some (He.ga K c) else none
def txOf (G : Sig) (P : Program) (w : World) (K : PySem.W.Frag) (mg : Str → Option Value) (base : Heap) : TX := ⟨P, w, K, mg, base, caOf G K, fun _ => none⟩
/-- what the head tells of the written part -/
structure Told (G : Sig) (defs : List DefI) (K : PySem.W.Frag) (mg : Str → Option Value) : Prop where
  fnG : ∀ f ∈ G.fns, mg f = some (.ref (He.ga K f))
  clG : ∀ c ∈ G.cls, mg c = some (.ref (He.ga K c)) ∧ Cls K (He.ga K c) ∧ ∀ f ∈ G.fld, NoAttr K (He.ga K c) f
  mkr : ∀ c f, G.Γ.ini c = some f → Mk K (He.ga K c) (He.ma K (He.ga K c) "__init__")
  eqm : ∀ c f, G.Γ.eqm c = some f → PySem.W.findIn K (.ref (He.ga K c)) "__eq__" = some (some (.ref (He.ma K (He.ga K c) "__eq__"))) ∧ PySem.W.isFn K (.ref (He.ma K (He.ga K c) "__eq__")) = true
  bn : ∀ x ∈ G.bn, mg x = none
  cst : ∀ x d, G.Γ.cst x = some d → ∃ u v, mg x = some u ∧ RelV v u ∧ ∀ (T : TX) F, T.K = K → Rz T F d v
  own : ∀ (P : Program) (w : World) (base : Heap), ∀ t ∈ G.cls, ∀ d tv, tyD (txOf G P w K mg base) d = some tv → PySem.W.kitOne K tv (.ref (He.ga K t)) = some (isaOne d t)
  bty : ∀ (P : Program) (w : World) (base : Heap), ∀ t ∈ tyNames, ∃ n, bootBuiltins t = some (.type n) ∧ ∀ d tv, tyD (txOf G P w K mg base) d = some tv → PySem.W.kitOne K tv (.type n) = some (isaOne d t)
  ins : ∀ c ∈ G.cls, ∀ (H : Hp) (a dx : Addr) (fs : List (Str × V)), H a = some (.ins (He.ga K c) dx fs) → TyX K H (.ref a) (.ref (He.ga K c))
  fd : ∀ i ∈ defs, ∃ fd, L2.FunD K i.d.name i.d.qual i.d.params i.d.body i.d.scope (i.d.dvs K) (i.d.kws K) (He.fAd K i.d.at_) fd
theorem caOf_some {G : Sig} {K : PySem.W.Frag} {c : Str} {C : Addr} (h : caOf G K c = some C) : c ∈ G.cls ∧ C = He.ga K c := by
  unfold caOf at h
  split at h
  · rename_i z
    cases h
    exact ⟨by simpa using z, rfl⟩
  · cases h
theorem caOf_in {G : Sig} {K : PySem.W.Frag} {c : Str} (h : c ∈ G.cls) : caOf G K c = some (He.ga K c) := if_pos (by simpa using h)
section
variable {G : Sig} {defs : List DefI} {P : Program} {w : World} {K : PySem.W.Frag} {mg : Str → Option Value} {base : Heap}
def ambOf (G : Sig) (P : Program) (w : World) (K : PySem.W.Frag) (mg : Str → Option Value) (base : Heap) (E : XK) (n : Nat) : Amb := ⟨txOf G P w K mg base, CX0, E, 2 * n, G.Γ, callF G.Γ n⟩
/-- every def keeps its promise, calls so and so deep -/
def Kept (G : Sig) (defs : List DefI) (P : Program) (w : World) (K : PySem.W.Frag) (mg : Str → Option Value) (base : Heap) (n : Nat) : Prop :=
  ∀ i ∈ defs, ∀ fn, G.Γ.fn i.key = some fn → ∀ fd, L2.FunD K i.d.name i.d.qual i.d.params i.d.body i.d.scope (i.d.dvs K) (i.d.kws K) (He.fAd K i.d.at_) fd →
    FnG P w K mg base CX0 (2 * n) (He.fAd K i.d.at_) fd (parsOf i.d.params) (spOf (txOf G P w K mg base) (callF G.Γ n) i.key fn.pins fn.np)
theorem amb_ok (ok : TextOk G defs) (t : Told G defs K mg) {E : XK} {n : Nat} (kp : Kept G defs P w K mg base n) : AmbOk G (ambOf G P w K mg base E n) where
  eΓ := rfl
  fx := ⟨fun c C h => by obtain ⟨h1, rfl⟩ := caOf_some h; exact (t.clG c h1).2.1, fun c C h f hf => by obtain ⟨h1, rfl⟩ := caOf_some h; exact (t.clG c h1).2.2 f hf, t.bn⟩
  it := ⟨fun c C h H a dx fs e => by obtain ⟨h1, rfl⟩ := caOf_some h; exact t.ins c h1 H a dx fs e⟩
  cx := fun _ _ _ _ _ h => h
  own := fun c hc => ⟨He.ga K c, (t.clG c hc).1, t.own P w base c hc⟩
  bty := t.bty P w base
  cst := fun x d h => by
    obtain ⟨u, v, h1, h2, h3⟩ := t.cst x d h
    exact ⟨u, v, h1, h2, fun F => h3 _ F rfl⟩
  fn := fun f fn hf e => by
    obtain ⟨i, hi, rfl, ha⟩ := ok.fns f hf
    obtain ⟨fd, F⟩ := t.fd i hi
    have c := ok.chk i hi
    unfold defC at c
    rw [e] at c
    obtain ⟨c, c7⟩ := band c
    obtain ⟨c, c6⟩ := band c
    obtain ⟨c, c5⟩ := band c
    obtain ⟨c, c4⟩ := band c
    obtain ⟨c, c3⟩ := band c
    obtain ⟨c1, c2⟩ := band c
    have g := t.fnG i.key hf
    have e1 : He.fAd K i.d.at_ = He.ga K i.key := by rw [ha]; rfl
    have F' := F
    rw [e1] at F'
    have k := kp i hi fn e fd F
    rw [e1] at k
    have hd : i.d.dvs K = [] := by
      unfold He.DefD.dvs
      rw [List.isEmpty_iff.mp c5]
      rfl
    rw [hd] at F'
    exact ⟨He.ga K i.key, fd, parsOf i.d.params, g, F'.kp, F'.bindsN (ok.bind i hi), (of_decide_eq_true c2).symm, k⟩
  eqf := fun cn f hi => by
    obtain ⟨hc, i, hi', rfl, ha, hp⟩ := ok.eqm cn f hi
    have cc := ok.chk i hi'
    unfold defC at cc
    cases e : G.Γ.fn i.key with
    | none => rw [e] at cc; cases cc
    | some fn =>
    clear cc
    obtain ⟨fd, F⟩ := t.fd i hi'
    have c := ok.chk i hi'
    unfold defC at c
    rw [e] at c
    obtain ⟨c, c7⟩ := band c
    obtain ⟨c, c6⟩ := band c
    obtain ⟨c, c5⟩ := band c
    obtain ⟨c, c4⟩ := band c
    obtain ⟨c, c3⟩ := band c
    obtain ⟨c1, c2⟩ := band c
    have e1 : He.fAd K i.d.at_ = He.ma K (He.ga K cn) "__eq__" := by rw [ha]; rfl
    have F' := F
    rw [e1] at F'
    have k := kp i hi' fn e fd F
    rw [e1] at k
    have hd : i.d.dvs K = [] := by
      unfold He.DefD.dvs
      rw [List.isEmpty_iff.mp c5]
      rfl
    rw [hd] at F'
    obtain ⟨q1, q2⟩ := t.eqm cn i.key hi
    exact ⟨fn, He.ga K cn, _, fd, parsOf i.d.params, rfl, caOf_in hc, q1, q2, F'.bindsN (ok.bind i hi'), (of_decide_eq_true c2).trans hp, k⟩
  mki := fun cn f fn hi e => by
    obtain ⟨hc, i, hi', rfl, ha, hp⟩ := ok.ini cn f hi
    obtain ⟨fd, F⟩ := t.fd i hi'
    have c := ok.chk i hi'
    unfold defC at c
    rw [e] at c
    obtain ⟨c, c7⟩ := band c
    obtain ⟨c, c6⟩ := band c
    obtain ⟨c, c5⟩ := band c
    have e1 : He.fAd K i.d.at_ = He.ma K (He.ga K cn) "__init__" := by rw [ha]; rfl
    have F' := F
    rw [e1] at F'
    have k := kp i hi' fn e fd F
    rw [e1] at k
    have hd : i.d.dvs K = [] := by
      unfold He.DefD.dvs
      rw [List.isEmpty_iff.mp c5]
      rfl
    rw [hd] at F'
    exact ⟨He.ga K cn, _, fd, parsOf i.d.params, caOf_in hc, (t.clG _ hc).1, t.mkr _ _ hi, F'.bindsN (ok.bind i hi'), hp fn e, k⟩
theorem kept (ok : TextOk G defs) (t : Told G defs K mg) : ∀ n, Kept G defs P w K mg base n
  | 0 => fun i hi fn e fd F => by
    have no : ∀ vs H Q E, ¬ spOf (txOf G P w K mg base) (callF G.Γ 0) i.key fn.pins fn.np vs H Q E := fun vs H Q E ⟨ws, F, _, _, _, h⟩ => h
    exact ⟨fun vs H Q E h => (no _ _ _ _ h).elim, fun A out s0 H ar us vs Q E hr gd e0 hb r h => (no _ _ _ _ h).elim⟩
  | n + 1 => fun i hi fn e fd F => by
    have ih := kept ok t n
    have c := ok.chk i hi
    unfold defC at c
    rw [e] at c
    obtain ⟨c, c7⟩ := band c
    obtain ⟨c, c6⟩ := band c
    obtain ⟨c, c5⟩ := band c
    obtain ⟨c, c4⟩ := band c
    obtain ⟨c, c3⟩ := band c
    obtain ⟨c1, c2⟩ := band c
    have Sc := scope_ok c1
    obtain ⟨oc, od, dV, kV, doc, pm, an, cdv, ct, osl, rfl, lk, hcd, _, _⟩ := F.ex
    refine fn_ofG (k := 2 * n + 1) lk hcd Sc (fun vs H Q E h => spOf_len (of_decide_eq_true c2) vs H Q E h) fun A out s0 H vs Q E hr gd hsp => ?_
    have am : AmbOk G (ambOf G P w K mg base E n) := amb_ok ok t ih
    obtain ⟨tt, h1, h2⟩ := chkSs_ok am fn.body ⟨i.N, i.d.scope, fun _ => true⟩ Sc.nd Sc.kind i.d.body c7
    refine ⟨tt, h1 _ ⟨rfl, rfl, rfl, rfl, rfl, rfl, rfl, rfl, rfl, gd, hr, passes_of (X := cxOf CX0 P w K mg base i.N i.d.qual i.d.scope (He.fAd K i.d.at_) cdv A out s0 H E) rfl, fun _ _ _ _ _ _ _ h => h.elim⟩, ?_⟩
    exact fn_body e (of_decide_eq_true c3) h2 (fun j hj => of_decide_eq_true (List.all_eq_true.mp c4 j hj)) hsp
end
end Rx

set_option Elab.async false
set_option linter.all false
set_option autoImplicit false
set_option maxRecDepth 100000
namespace Rx
open PySem L2
open PySem.Spec
open PyProof.Rows
/-! ### the law's own call -/
section
variable {P : Program} {w : World} {K : PySem.W.Frag} {mg : Str → Option Value}
/-- the script, as it is tracked -/
def scrH (K : PySem.W.Frag) (a : Addr) (vs : List Value) (ns : List Int) : Hp := fun b => if K.lookup a = none ∧ b = a then some (.frz { cls := .type "list", data := .seq vs.toArray } (.lst (ns.map V.int))) else none
theorem scrH_at {a b : Addr} {vs : List Value} {ns : List Int} {u : HO} (h : scrH K a vs ns b = some u) : K.lookup a = none ∧ b = a ∧ u = .frz { cls := .type "list", data := .seq vs.toArray } (.lst (ns.map V.int)) := by
  unfold scrH at h
  split at h
  · rename_i c
    cases h
    exact ⟨c.1, c.2, rfl⟩
  · cases h
/-- a def that gives True for the script, called at the top -/
theorem top_call {mb : Str → Option Value} {k : Nat} {f a : Addr} {fd : FuncData} {x : Str} {sp : Heap → Sp} {t : Shared} {vs : List Value} {ns : List Int} (kin : K.In t.heap) (gns : t.heap.Ns mainGlobals mg) (bns : t.heap.Ns builtinsNs mb) (bq : ∀ y : Str, y ≠ "__name__" → mb y = bootBuiltins y)
    (nl : t.heap.NoLimit) (ng : t.gens = #[]) (at_ : t.heap.get? a = some { cls := .type "list", data := .seq vs.toArray }) (is_ : IntsAre vs ns) (most : ns.length ≤ sizeLine) (rm : Room k callerA)
    (F : ∀ b : Heap, K.In b → b.Ns mainGlobals mg → FnG P w K mg b CX0 k f fd [x] (sp b)) (bd : ∀ (s : Shared) (u : Value), BindsTo s fd ⟨[u], []⟩ [(x, u)])
    (hsp : ∀ (b : Heap) (H : Hp), SqL K H a (ns.map V.int) → sp b [.ref a] H (fun v _ => v = .bl true) fun _ _ _ => False) :
    codeAny (model P w) callerA (.call (.ref f) ⟨[.ref a], []⟩) (fun r s' => r = .ok (.ret (.bool true)) ∧ OldK t.heap s'.heap ∧ s'.os = t.os ∧ AllBare s'.gens) t := by
  have rv := vals_ints is_
  have ln := is_.length
  have sq : SqL K (scrH K a vs ns) a (ns.map V.int) := by
    cases hk : K.lookup a with
    | some o =>
      have e := kin a o hk
      rw [at_] at e
      cases e
      exact .inr ⟨_, vs.toArray, _, hk, rfl, rfl, rfl, by rw [List.size_toArray, ln]; exact most, by simpa using rv⟩
    | none => exact .inl (.inr ⟨_, if_pos ⟨hk, rfl⟩⟩)
  have hok : HOk P w (scrH K a vs ns) t.heap := fun b u e => by
    obtain ⟨_, rfl, rfl⟩ := scrH_at e
    exact ⟨at_, by rw [List.length_map]; exact most, vs, _, rv, at_⟩
  have free : ∀ {b : Addr} {o : Obj}, t.heap.get? b = some o → scrH K a vs ns b = none → (hidT t.heap (scrH K a vs ns)).get? b = some o := fun e n => hidT_get e n
  have nod : ∀ {b : Addr} {o : Obj} {es : Array DictEntry} {ep : Nat}, t.heap.get? b = some o → o.data = .dict es ep → scrH K a vs ns b = none := fun {b o es ep} e d => by
    cases q : scrH K a vs ns b with
    | none => rfl
    | some u =>
      obtain ⟨_, rfl, _⟩ := scrH_at q
      rw [at_] at e
      cases e
      cases (show Data.seq vs.toArray _ = Data.dict es ep from d)
  have keepN : ∀ {b : Addr} {m : Str → Option Value}, t.heap.Ns b m → (hidT t.heap (scrH K a vs ns)).Ns b m := fun {b m} ⟨o, es, ep, e, d, r⟩ => ⟨o, es, ep, free e (nod e d), d, r⟩
  have keepK : K.In (hidT t.heap (scrH K a vs ns)) := fun b o e => free (kin b o e) (by
    cases q : scrH K a vs ns b with
    | none => rfl
    | some u =>
      obtain ⟨z, rfl, _⟩ := scrH_at q
      rw [z] at e
      cases e)
  have md : Mod K mg (hidT t.heap (scrH K a vs ns)) := ⟨keepK, keepN gns, ⟨mb, keepN bns, bq⟩, let ⟨mc, h1, h2⟩ := nl; ⟨mc, keepN h1, h2⟩⟩
  have env0 : Env0 P w K mg (hidT t.heap (scrH K a vs ns)) callerA [] t (scrH K a vs ns) := ⟨rfl, md, fun b o e => of_hidT e, Nat.le_of_eq (hidT_size _ _), trivial, fun b hb => absurd (show b ∈ ([] : List Addr) from hb) (by simp), hok, .of_eq ng⟩
  refine codeAny_mono ((F _ keepK (keepN gns)).run callerA [] t (scrH K a vs ns) ⟨[.ref a], []⟩ [.ref a] [.ref a] _ _ rm rfl env0 (bd t (.ref a)) (.cons rfl .nil) (hsp _ _ sq)) fun r s' h => ?_
  cases r with
  | error e => exact False.elim h
  | ok fl =>
    cases fl with
    | ret u =>
      obtain ⟨v, H', os, bare, un, hok', rl, q⟩ := h
      subst q
      obtain rfl : u = Value.bool true := rl
      refine ⟨rfl, OldK.of_keep fun b o e => ?_, os, bare⟩
      cases q : scrH K a vs ns b with
      | none => exact un.keep b o e q (by intro z; exact absurd (show b ∈ ([] : List Addr) from z) (by simp)) (by simp)
      | some u =>
        obtain ⟨_, rfl, rfl⟩ := scrH_at q
        obtain ⟨e2, _⟩ := hok' _ _ (un.frzs _ _ _ q)
        rw [at_] at e
        cases e
        exact e2
    | next => exact False.elim h
    | brk => exact False.elim h
    | cont => exact False.elim h
end
/-- the walk of a law whose def's run over plain data gives True -/
theorem walkX {l : PySem.W.OpenLaw} {n m : Nat} {q : Program} {loose : List Str} {XP : (Str → Option Value) → Heap → Prop} {YP : World → Heap → Prop} {d : DefRec} {x : Str} {G : Sig} {defs : List DefI} (hn : l.most = some n) (hn2 : n ≤ sizeLine) (hdf : d.params.defaults = []) (hm : Room (2 * m) callerA)
    (ok : TextOk G defs) (i : DefI) (hi : i ∈ defs) (hp : parsOf i.d.params = [x]) (ha : i.d.at_ = (d.name, none)) (hf : d.name ∈ G.fns)
    (told : ∀ (w : World) (mg : Str → Option Value) (h : Heap), YP w h → h.Ns mainGlobals mg → ∃ K : PySem.W.Frag, K.In h ∧ Told G defs K mg)
    (run : ∀ ns : List Int, ns.length ≤ n → ∃ outs, callF G.Γ m i.key [.fz (.scr ns)] = .ok (.fz (.bl true), outs)) :
    PySem.W.WalkO q loose XP YP l.row.toRowW d [] (fun f vs => PySem.call f vs) := by
  refine Att.attach_call hn hdf fun w s₀ s₁ mg mb f o pm cd doc a vs ns Gd Y ho hd hcd hmg hobj hints hlen hg => ?_
  obtain ⟨K, kin, td⟩ := told w mg _ Y Gd.T.g
  obtain ⟨fd, F⟩ := td.fd i hi
  have c := ok.chk i hi
  unfold defC at c
  cases e : G.Γ.fn i.key with
  | none => rw [e] at c; cases c
  | some fn =>
    rw [e] at c
    obtain ⟨c, c7⟩ := band c
    obtain ⟨c, c6⟩ := band c
    obtain ⟨c, c5⟩ := band c
    obtain ⟨c, c4⟩ := band c
    obtain ⟨c, c3⟩ := band c
    obtain ⟨c1, c2⟩ := band c
    have hd0 : i.d.dvs K = [] := by
      unfold He.DefD.dvs
      rw [List.isEmpty_iff.mp c5]
      rfl
    have e1 : He.fAd K i.d.at_ = f := by
      rw [ha]
      show He.ga K d.name = f
      have := td.fnG d.name hf
      rw [hmg] at this
      cases this
      rfl
    have F' := F
    rw [e1, hd0] at F'
    have np1 : fn.np = 1 := by rw [of_decide_eq_true c2, hp]; rfl
    have bd := F'.bindsA (ok.bind i hi)
    rw [hp] at bd
    have kf : ∀ b, FnG l.prog w K mg b CX0 (2 * m) f fd [x] (spOf (txOf G l.prog w K mg b) (callF G.Γ m) i.key fn.pins fn.np) := fun b => by
      have := kept (P := l.prog) (w := w) (base := b) ok td m i hi fn e fd F
      rw [e1, hp] at this
      exact this
    refine top_call kin Gd.T.g Gd.T.b Gd.T.builtins Gd.T.nolimit hg hobj hints (Nat.le_trans hlen hn2) hm (fun b kb nb => kf b) (fun s u => bd s [u] rfl) fun b H sq => ?_
    obtain ⟨outs, eo⟩ := run ns hlen
    refine ⟨[.fz (.scr ns)], H, by rw [np1]; rfl, Sub.refl H, ⟨.ref a, [], rfl, ⟨a, rfl, sq⟩, rfl, fun b hw => by cases hw⟩, ?_⟩
    rw [eo]
    exact fun v F2 H2 pc => pc.sl
end Rx

set_option Elab.async false
set_option linter.all false
set_option autoImplicit false
set_option maxRecDepth 100000
namespace Rx
open PySem L2
open PySem.Spec
open PyProof.Rows
/-! ### what the head is asked for -/
def faOf (G : Sig) (cis : List (Str × Int)) (eqs : List Str) : List He.Fa := G.fns.map .glo ++ (G.cls.map .glo ++ (G.bn.map .free ++ (cis.map (fun p => .int p.1 p.2) ++ (G.cls.map .cls ++ ((G.cls.flatMap fun c => G.fld.map fun f => He.Fa.noat c f) ++ (G.cls.map .mkr ++ eqs.map fun c => .meth c "__eq__"))))))
def reps (cls : List Str) : List D := [.non, .bl true, .int 0, .str Str.empty, .tup [], .lst []] ++ cls.map fun c => .ins c []
def tyK (K : PySem.W.Frag) : D → Option Value
  | .non => some (.type "NoneType")
  | .bl _ => some (.type "bool")
  | .int _ => some (.type "int")
  | .str _ => some (.type "str")
  | .tup _ => some (.type "tuple")
  | .lst _ => some (.type "list")
  | .dk _ => none
  | .dt _ => none
  | .scr _ => none
  | .ins c _ => some (.ref (He.ga K c))
def tyPairs : List (Str × String) := [("int", "int"), ("bool", "bool"), ("str", "str"), ("tuple", "tuple"), ("list", "list"), ("dict", "dict")]
def kitR (G : Sig) (K : PySem.W.Frag) (t : Str) (u : Value) : Bool := (reps G.cls).all fun d => match tyK K d with
  | some tv => decide (PySem.W.kitOne K tv u = some (isaOne d t))
  | none => true
def insR (K : PySem.W.Frag) (C : Addr) : Bool := decide (PySem.W.findIn K (.ref C) "__class__" = some (some (.builtin "object.__class__"))) && decide (PySem.W.specialIn K (.builtin "object.__class__") "__get__" = some (some (.builtin "getset_descriptor.__get__"))) &&
  decide (PySem.W.takesIn K (.builtin "object.__class__") = some true) && decide (PySem.W.mroIn K C (.type "object") = some true)
def exOf (G : Sig) (K : PySem.W.Frag) : Bool := (tyPairs.all fun p => kitR G K p.1 (.type p.2)) && (G.cls.all fun t => kitR G K t (.ref (He.ga K t))) && (G.cls.all fun c => insR K (He.ga K c))
theorem isa_rep {d : D} {t : Str} {tv : Value} {G : Sig} {P : Program} {w : World} {K : PySem.W.Frag} {mg : Str → Option Value} {base : Heap} {u : Value} (h : kitR G K t u = true) (e : tyD (txOf G P w K mg base) d = some tv) : PySem.W.kitOne K tv u = some (isaOne d t) := by
  have key : ∀ d0 ∈ reps G.cls, tyK K d0 = some tv → isaOne d0 t = isaOne d t → PySem.W.kitOne K tv u = some (isaOne d t) := fun d0 hd e0 e1 => by
    have := List.all_eq_true.mp h d0 hd
    rw [e0] at this
    rw [← e1]
    exact of_decide_eq_true this
  cases d with
  | non => exact key .non (by simp [reps]) e rfl
  | bl b => exact key (.bl true) (by simp [reps]) e rfl
  | int b => exact key (.int 0) (by simp [reps]) e rfl
  | str b => exact key (.str Str.empty) (by simp [reps]) e rfl
  | tup b => exact key (.tup []) (by simp [reps]) e rfl
  | lst b => exact key (.lst []) (by simp [reps]) e rfl
  | dk b => cases e
  | dt b => cases e
  | scr b => cases e
  | ins c fs =>
    cases hc : caOf G K c with
    | none =>
      have e : (caOf G K c).map Value.ref = some tv := e
      rw [hc] at e
      cases e
    | some C =>
      have e : (caOf G K c).map Value.ref = some tv := e
      rw [hc] at e
      obtain ⟨h1, rfl⟩ := caOf_some hc
      refine key (.ins c []) ?_ e rfl
      unfold reps
      exact List.mem_append_right _ (List.mem_map_of_mem h1)
theorem boot_ty : ∀ p ∈ tyPairs, bootBuiltins p.1 = some (.type p.2) := by
  intro p hp
  unfold tyPairs at hp
  simp only [List.mem_cons, List.not_mem_nil, or_false] at hp
  rcases hp with rfl | rfl | rfl | rfl | rfl | rfl <;> decide +kernel
theorem told_of {G : Sig} {defs : List DefI} {cis : List (Str × Int)} {eqs : List Str} {w : World} {h : Heap} {K : PySem.W.Frag} {mg : Str → Option Value} (kin : K.In h) (ns : h.Ns mainGlobals mg) (s : He.SaysX (faOf G cis eqs) (defs.map (·.d)) [] [] (exOf G) w h K)
    (heqm : ∀ c f, G.Γ.eqm c = some f → c ∈ eqs) (hini : ∀ c f, G.Γ.ini c = some f → c ∈ G.cls) (hcst : ∀ x d, G.Γ.cst x = some d → ∃ i, d = .int i ∧ (x, i) ∈ cis) : Told G defs K mg := by
  have c := s.t.d
  obtain ⟨m, m3⟩ := band s.more
  obtain ⟨m1, m2⟩ := band m
  have mem : ∀ {f : He.Fa}, f ∈ faOf G cis eqs → f.ok K = true := fun h => He.SaysD.facts c h
  refine ⟨fun f hf => He.glo_ok kin ns (mem (by unfold faOf; exact List.mem_append_left _ (List.mem_map_of_mem hf))), fun x hx => ⟨He.glo_ok kin ns (mem ?_), He.cls_ok (mem ?_), fun f hf => He.noat_ok (mem ?_)⟩, fun x f hx => He.mkr_ok (mem ?_), fun x f hx => ?_, fun x hx => He.free_ok kin ns (mem ?_), fun x d hx => ?_, fun P w b t ht d tv e => isa_rep (List.all_eq_true.mp m2 t ht) e, fun P w b t ht => ?_, fun x hx H a dx fs e => ?_, fun i hi => He.SaysD.defs c (List.mem_map_of_mem hi)⟩
  · unfold faOf
    exact List.mem_append_right _ (List.mem_append_left _ (List.mem_map_of_mem hx))
  · unfold faOf
    exact List.mem_append_right _ (List.mem_append_right _ (List.mem_append_right _ (List.mem_append_right _ (List.mem_append_left _ (List.mem_map_of_mem hx)))))
  · unfold faOf
    exact List.mem_append_right _ (List.mem_append_right _ (List.mem_append_right _ (List.mem_append_right _ (List.mem_append_right _ (List.mem_append_left _ (List.mem_flatMap.mpr ⟨x, hx, List.mem_map_of_mem hf⟩))))))
  · unfold faOf
    exact List.mem_append_right _ (List.mem_append_right _ (List.mem_append_right _ (List.mem_append_right _ (List.mem_append_right _ (List.mem_append_right _ (List.mem_append_left _ (List.mem_map_of_mem (hini x f hx))))))))
  · have z := He.meth_ok (mem (f := .meth x "__eq__") (by
      unfold faOf
      exact List.mem_append_right _ (List.mem_append_right _ (List.mem_append_right _ (List.mem_append_right _ (List.mem_append_right _ (List.mem_append_right _ (List.mem_append_right _ (List.mem_map_of_mem (f := fun c => He.Fa.meth c "__eq__") (heqm x f hx))))))))))
    exact ⟨z.1, z.2⟩
  · unfold faOf
    exact List.mem_append_right _ (List.mem_append_right _ (List.mem_append_left _ (List.mem_map_of_mem hx)))
  · obtain ⟨i, rfl, hm⟩ := hcst x d hx
    have hm' : He.Fa.int x i ∈ faOf G cis eqs := by
      unfold faOf
      exact List.mem_append_right _ (List.mem_append_right _ (List.mem_append_right _ (List.mem_append_left _ (List.mem_map.mpr ⟨(x, i), hm, rfl⟩))))
    obtain ⟨t, e⟩ := He.int_ok kin ns (mem hm')
    exact ⟨_, .int i, e, ⟨t, rfl⟩, fun T F _ => rfl⟩
  · have ht' : ∃ p ∈ tyPairs, p.1 = t := by
      unfold tyNames at ht
      simp only [List.mem_cons, List.not_mem_nil, or_false] at ht
      rcases ht with rfl | rfl | rfl | rfl | rfl | rfl <;> simp [tyPairs]
    obtain ⟨p, hp, rfl⟩ := ht'
    exact ⟨p.2, boot_ty p hp, fun d tv e => isa_rep (List.all_eq_true.mp m1 p hp) e⟩
  · have q := List.all_eq_true.mp m3 x hx
    unfold insR at q
    obtain ⟨q, q4⟩ := band q
    obtain ⟨q, q3⟩ := band q
    obtain ⟨q1, q2⟩ := band q
    have cx : Cls K (He.ga K x) := He.cls_ok (mem (by
      unfold faOf
      exact List.mem_append_right _ (List.mem_append_right _ (List.mem_append_right _ (List.mem_append_right _ (List.mem_append_left _ (List.mem_map_of_mem hx)))))))
    exact .base (.ins e cx (of_decide_eq_true q1) (of_decide_eq_true q2) (of_decide_eq_true q3) (of_decide_eq_true q4))
end Rx

set_option Elab.async false
set_option linter.all false
set_option autoImplicit false
set_option maxRecDepth 100000
namespace Rx
open PySem L2
open PySem.Spec
open PyProof.Rows
/-! ### a text told by lists -/
def mkTbl (fnL : List (Str × Fn)) (cisL : List (Str × Int)) (iniL eqmL : List (Str × Str)) : Tbl := { fn := fun f => fnL.lookup f, cst := fun f => (cisL.lookup f).map D.int, ini := fun f => iniL.lookup f, exn := fun _ => none, eqm := fun f => eqmL.lookup f }
def ParOk (i : DefI) : Prop := ∀ (kV doc pm : Value) (an : Option Addr) (cdv ct : Value) (us : List Value), us.length = (parsOf i.d.params).length → bindArgs (PySem.W.fnOf i.d.name i.d.qual i.d.params i.d.body i.d.scope .none kV doc pm an cdv ct) ⟨us, []⟩ = pure ((parsOf i.d.params).zip us)
def textC (G : Sig) (defs : List DefI) (fnL : List (Str × Fn)) (iniL eqmL : List (Str × Str)) : Bool :=
  (G.fns.all fun f => defs.any fun i => i.key == f && decide (i.d.at_ = (f, none))) &&
  (iniL.all fun p => G.cls.contains p.1 && defs.any fun i => i.key == p.2 && decide (i.d.at_ = (p.1, some ("__init__" : Str))) && (match fnL.lookup p.2 with
    | some fn => fn.pins.contains 0
    | none => true)) &&
  (eqmL.all fun p => G.cls.contains p.1 && defs.any fun i => i.key == p.2 && decide (i.d.at_ = (p.1, some ("__eq__" : Str))) && decide ((parsOf i.d.params).length = 2))
theorem textOk_of {G : Sig} {defs : List DefI} {fnL : List (Str × Fn)} {cisL : List (Str × Int)} {iniL eqmL : List (Str × Str)} (eΓ : G.Γ = mkTbl fnL cisL iniL eqmL) (h1 : ∀ i ∈ defs, defC G i = true) (h2 : ∀ i ∈ defs, ParOk i) (h3 : textC G defs fnL iniL eqmL = true) : TextOk G defs := by
  unfold textC at h3
  obtain ⟨h3, h5⟩ := band h3
  obtain ⟨h3, h4⟩ := band h3
  refine ⟨h1, h2, fun f hf => ?_, fun c f e => ?_, fun c f e => ?_⟩
  · obtain ⟨i, hi, z⟩ := List.any_eq_true.mp (List.all_eq_true.mp h3 f hf)
    obtain ⟨z1, z2⟩ := band z
    exact ⟨i, hi, beqE z1, of_decide_eq_true z2⟩
  · rw [eΓ] at e
    obtain ⟨z1, z2⟩ := band (List.all_eq_true.mp h5 _ (PySem.mem_of_lookup (show eqmL.lookup c = some f from e)))
    obtain ⟨i, hi, z⟩ := List.any_eq_true.mp z2
    obtain ⟨z, z4⟩ := band z
    obtain ⟨z2, z3⟩ := band z
    exact ⟨by simpa using z1, i, hi, beqE z2, of_decide_eq_true z3, of_decide_eq_true z4⟩
  · rw [eΓ] at e
    obtain ⟨z1, z2⟩ := band (List.all_eq_true.mp h4 _ (PySem.mem_of_lookup (show iniL.lookup c = some f from e)))
    obtain ⟨i, hi, z⟩ := List.any_eq_true.mp z2
    obtain ⟨z, z4⟩ := band z
    obtain ⟨z2, z3⟩ := band z
    refine ⟨by simpa using z1, i, hi, beqE z2, of_decide_eq_true z3, fun fn ef => ?_⟩
    rw [eΓ] at ef
    have ef : fnL.lookup f = some fn := ef
    dsimp only at z4
    rw [ef] at z4
    simpa using z4
theorem told_by {G : Sig} {defs : List DefI} {fnL : List (Str × Fn)} {cisL : List (Str × Int)} {iniL eqmL : List (Str × Str)} {w : World} {h : Heap} {K : PySem.W.Frag} {mg : Str → Option Value} (eΓ : G.Γ = mkTbl fnL cisL iniL eqmL) (t : TextOk G defs) (kin : K.In h) (ns : h.Ns mainGlobals mg)
    (s : He.SaysX (faOf G cisL (eqmL.map (·.1))) (defs.map (·.d)) [] [] (exOf G) w h K) : Told G defs K mg :=
  told_of kin ns s (fun c f e => by
    rw [eΓ] at e
    exact List.mem_map_of_mem (f := (·.1)) (PySem.mem_of_lookup (show eqmL.lookup c = some f from e))) (fun c f e => (t.ini c f e).1) fun x d e => by
    rw [eΓ] at e
    have e : (cisL.lookup x).map D.int = some d := e
    cases h : cisL.lookup x with
    | none => rw [h] at e; cases e
    | some i =>
      rw [h] at e
      cases e
      exact ⟨i, rfl, PySem.mem_of_lookup h⟩
end Rx

set_option Elab.async false
set_option linter.all false
set_option autoImplicit false
set_option maxRecDepth 100000
namespace Rx
open PySem
/-! the operations, not to be run by the kernel -/
theorem primO_ex : ∃ f : Op → List D → Res Val, f = prim := ⟨_, rfl⟩
noncomputable def primO : Op → List D → Res Val := Classical.choose primO_ex
theorem primO_eq : primO = prim := Classical.choose_spec primO_ex
theorem iterO_ex : ∃ f : IK → List D → Res (List D), f = iterOf := ⟨_, rfl⟩
noncomputable def iterO : IK → List D → Res (List D) := Classical.choose iterO_ex
theorem iterO_eq : iterO = iterOf := Classical.choose_spec iterO_ex
theorem mtdO_ex : ∃ f : Mt → Val → List D → Res (D × Val), f = mtd := ⟨_, rfl⟩
noncomputable def mtdO : Mt → Val → List D → Res (D × Val) := Classical.choose mtdO_ex
theorem mtdO_eq : mtdO = mtd := Classical.choose_spec mtdO_ex
/-! ### runs over plain data: the evaluator by equations -/
/-- how a def's body ends -/
def fin (np : Nat) : Res (Fl × Env) → Res (Val × List Slot)
  | .ok (.nx, env) => .ok (.fz .non, env.take np)
  | .ok (.rt w, env) => .ok (w, env.take np)
  | .exc c fs => .exc c fs
  | _ => .bad
/-- by a truth value -/
def brB {α : Type} (w : Val) (t f : Res α) : Res α := match w with
  | .fz (.bl true) => t
  | .fz (.bl false) => f
  | _ => .bad
@[simp] theorem brB_bl {α : Type} {b : Bool} {t f : Res α} : brB (.fz (.bl b)) t f = if b = true then t else f := by cases b <;> rfl
def rdO (o : Option Slot) (env : Env) (i : Nat) : Res (Val × Env) := match o with
  | some (.val p w) => match w with
    | .fz d => .ok (.fz d, env)
    | w => .ok (.fz w.frz, env.set i (.val p (.fz w.frz)))
  | _ => .bad
@[simp] theorem rdO_fz {p : Bool} {d : D} {env : Env} {i : Nat} : rdO (some (.val p (.fz d))) env i = .ok (.fz d, env) := rfl
@[simp] theorem rdO_own {p : Bool} {l : List D} {env : Env} {i : Nat} : rdO (some (.val p (.own l))) env i = .ok (.fz (.lst l), env.set i (.val p (.fz (.lst l)))) := rfl
def mvO (o : Option Slot) (env : Env) (i : Nat) : Res (Val × Env) := match o with
  | some (.val p w) => match w with
    | .fz d => .ok (.fz d, env)
    | w => if p then .ok (.fz w.frz, env.set i (.val p (.fz w.frz))) else .ok (w, env.set i .emp)
  | _ => .bad
@[simp] theorem mvO_fz {p : Bool} {d : D} {env : Env} {i : Nat} : mvO (some (.val p (.fz d))) env i = .ok (.fz d, env) := rfl
@[simp] theorem mvO_own {l : List D} {env : Env} {i : Nat} : mvO (some (.val false (.own l))) env i = .ok (.own l, env.set i .emp) := rfl
def agO (o : Option Slot) (env : Env) (i : Nat) : Res (Arg × Env) := match o with
  | some (.val _ w) => match w with
    | .fz d => .ok (.val (.fz d), env)
    | _ => .ok (.ref i, env)
  | _ => .bad
@[simp] theorem agO_fz {p : Bool} {d : D} {env : Env} {i : Nat} : agO (some (.val p (.fz d))) env i = .ok (.val (.fz d), env) := rfl
@[simp] theorem agO_own {p : Bool} {l : List D} {env : Env} {i : Nat} : agO (some (.val p (.own l))) env i = .ok (.ref i, env) := rfl
def pkO (o : Option Slot) : Res D := match o with
  | some (.val _ w) => .ok w.frz
  | _ => .bad
@[simp] theorem pkO_val {p : Bool} {w : Val} : pkO (some (.val p w)) = .ok w.frz := rfl
def stO (o : Option Slot) (env : Env) (i : Nat) (w : Val) : Res Env := match o with
  | some .emp => .ok (env.set i (.val false w))
  | some (.val false _) => .ok (env.set i (.val false w))
  | _ => .bad
@[simp] theorem stO_emp {env : Env} {i : Nat} {w : Val} : stO (some .emp) env i w = .ok (env.set i (.val false w)) := rfl
@[simp] theorem stO_val {env : Env} {i : Nat} {w u : Val} : stO (some (.val false u)) env i w = .ok (env.set i (.val false w)) := rfl
section
variable {Γ : Tbl} {cl : Call} {env : Env} {i : Nat} {a b c t : CE} {es : List CE} {op : Op}
theorem callF_fn {n : Nat} {f : Str} {fn : Fn} {ws : List Val} (h : Γ.fn f = some fn) (hl : ws.length = fn.np) : callF Γ (n + 1) f ws = fin fn.np (evSs Γ (callF Γ n) fn.body (startE fn.pins 0 ws ++ List.replicate (fn.ns - fn.np) Slot.emp)) := by
  have e : callF Γ (n + 1) f ws = (match Γ.fn f with
    | none => Res.bad
    | some fn => if ws.length = fn.np then (match evSs Γ (callF Γ n) fn.body (startE fn.pins 0 ws ++ List.replicate (fn.ns - fn.np) Slot.emp) with
      | .ok (Fl.nx, env) => Res.ok (Val.fz D.non, env.take fn.np)
      | .ok (Fl.rt w, env) => Res.ok (w, env.take fn.np)
      | .exc c fs => Res.exc c fs
      | _ => Res.bad) else .bad) := rfl
  rw [e, h]
  exact if_pos hl
@[simp] theorem fin_nx {np : Nat} : fin np (.ok (.nx, env)) = .ok (.fz .non, env.take np) := rfl
@[simp] theorem fin_rt {np : Nat} {w : Val} : fin np (.ok (.rt w, env)) = .ok (w, env.take np) := rfl
@[simp] theorem startE_nil {pins : List Nat} {j : Nat} : startE pins j [] = [] := rfl
@[simp] theorem startE_cons {pins : List Nat} {j : Nat} {w : Val} {ws : List Val} : startE pins j (w :: ws) = .val (pins.contains j) w :: startE pins (j + 1) ws := rfl
@[simp] theorem rdVar_O : rdVar i env = rdO env[i]? env i := rfl
@[simp] theorem mvVar_O : mvVar i env = mvO env[i]? env i := rfl
@[simp] theorem argVar_O : argVar i env = agO env[i]? env i := rfl
@[simp] theorem pkSlot_O : pkSlot i env = pkO env[i]? := rfl
@[simp] theorem setSlot_O {w : Val} : setSlot i w env = stO env[i]? env i w := rfl
@[simp] theorem pkArgs_nil : pkArgs env [] = .ok [] := rfl
@[simp] theorem pkArgs_val {w : Val} {r : List Arg} : pkArgs env (.val w :: r) = (pkArgs env r).bind fun ds => .ok (w.frz :: ds) := rfl
@[simp] theorem pkArgs_ref {r : List Arg} : pkArgs env (.ref i :: r) = (pkO env[i]?).bind fun d => (pkArgs env r).bind fun ds => .ok (d :: ds) := rfl
@[simp] theorem evE_var : evE Γ cl (.var i) env = rdVar i env := rfl
@[simp] theorem evE_con {d : D} : evE Γ cl (.con d) env = .ok (.fz d, env) := rfl
@[simp] theorem evE_prim : evE Γ cl (.prim op es) env = (evAs Γ cl es env).bind fun r => (pkArgs r.2 r.1).bind fun ds => (primO op ds).bind fun w => .ok (w, r.2) := by rw [primO_eq]; rfl
@[simp] theorem evE_and : evE Γ cl (.and a b) env = (evE Γ cl a env).bind fun r => brB r.1 (evE Γ cl b r.2) (.ok (.fz (.bl false), r.2)) := rfl
@[simp] theorem evE_or : evE Γ cl (.or a b) env = (evE Γ cl a env).bind fun r => brB r.1 (.ok (.fz (.bl true), r.2)) (evE Γ cl b r.2) := rfl
def ntB (w : Val) (env : Env) : Res (Val × Env) := match w with
  | .fz (.bl c) => .ok (.fz (.bl (!c)), env)
  | _ => .bad
@[simp] theorem ntB_bl {c : Bool} : ntB (.fz (.bl c)) env = .ok (.fz (.bl (!c)), env) := rfl
@[simp] theorem evE_not : evE Γ cl (.not a) env = (evE Γ cl a env).bind fun r => ntB r.1 r.2 := rfl
@[simp] theorem evE_ite : evE Γ cl (.ite t a b) env = (evE Γ cl t env).bind fun r => brB r.1 (evE Γ cl a r.2) (evE Γ cl b r.2) := rfl
@[simp] theorem evE_chain {o p : Op} : evE Γ cl (.chain o p a b c) env = (evE Γ cl a env).bind fun x => (evE Γ cl b x.2).bind fun y => (primO o [x.1.frz, y.1.frz]).bind fun w => brB w ((evE Γ cl c y.2).bind fun z => (primO p [y.1.frz, z.1.frz]).bind fun w => .ok (w, z.2)) (.ok (.fz (.bl false), y.2)) := by rw [primO_eq]; rfl
@[simp] theorem evE_tup : evE Γ cl (.tup es) env = (evVs Γ cl es env).bind fun r => (tup? (r.1.map Val.frz)).bind fun w => .ok (w, r.2) := rfl
@[simp] theorem evE_lst : evE Γ cl (.lst es) env = (evVs Γ cl es env).bind fun r => (own? (r.1.map Val.frz)).bind fun w => .ok (w, r.2) := rfl
theorem evE_call {f : Str} {fn : Fn} (h : Γ.fn f = some fn) : evE Γ cl (.call f es) env = (evAs Γ cl es env).bind fun r => (bindCall fn.pins 0 r.1 r.2).bind fun q => (cl f q.1).bind fun o => (backCall fn.pins r.2 0 r.1 q.1 o.2 q.2).bind fun e => .ok (o.1, e) := by
  show (match Γ.fn f with
    | none => Res.bad
    | some fn => _) = _
  rw [h]
theorem evE_glob {x : Str} {d : D} (h : Γ.cst x = some d) : evE Γ cl (.glob x) env = .ok (.fz d, env) := by
  show (match Γ.cst x with
    | some d => Res.ok (Val.fz d, env)
    | none => .bad) = _
  rw [h]
@[simp] theorem evAs_nil : evAs Γ cl [] env = .ok ([], env) := rfl
@[simp] theorem evAs_var : evAs Γ cl (.var i :: es) env = (argVar i env).bind fun a => (evAs Γ cl es a.2).bind fun r => .ok (a.1 :: r.1, r.2) := rfl
@[simp] theorem evAs_prim {xs : List CE} : evAs Γ cl (.prim op xs :: es) env = (evE Γ cl (.prim op xs) env).bind fun a => (evAs Γ cl es a.2).bind fun r => .ok (.val a.1 :: r.1, r.2) := rfl
@[simp] theorem evAs_con {d : D} : evAs Γ cl (.con d :: es) env = (evE Γ cl (.con d) env).bind fun a => (evAs Γ cl es a.2).bind fun r => .ok (.val a.1 :: r.1, r.2) := rfl
@[simp] theorem evAs_glob {x : Str} : evAs Γ cl (.glob x :: es) env = (evE Γ cl (.glob x) env).bind fun a => (evAs Γ cl es a.2).bind fun r => .ok (.val a.1 :: r.1, r.2) := rfl
@[simp] theorem evAs_tup {xs : List CE} : evAs Γ cl (.tup xs :: es) env = (evE Γ cl (.tup xs) env).bind fun a => (evAs Γ cl es a.2).bind fun r => .ok (.val a.1 :: r.1, r.2) := rfl
@[simp] theorem evAs_lst {xs : List CE} : evAs Γ cl (.lst xs :: es) env = (evE Γ cl (.lst xs) env).bind fun a => (evAs Γ cl es a.2).bind fun r => .ok (.val a.1 :: r.1, r.2) := rfl
@[simp] theorem evAs_call {f : Str} {xs : List CE} : evAs Γ cl (.call f xs :: es) env = (evE Γ cl (.call f xs) env).bind fun a => (evAs Γ cl es a.2).bind fun r => .ok (.val a.1 :: r.1, r.2) := rfl
@[simp] theorem evVs_nil : evVs Γ cl [] env = .ok ([], env) := rfl
@[simp] theorem evVs_cons {e : CE} : evVs Γ cl (e :: es) env = (evE Γ cl e env).bind fun a => (evVs Γ cl es a.2).bind fun r => .ok (a.1 :: r.1, r.2) := rfl
@[simp] theorem bindCall_nil {pins : List Nat} {j : Nat} : bindCall pins j [] env = .ok ([], env) := rfl
@[simp] theorem bindCall_val {pins : List Nat} {j : Nat} {w : Val} {r : List Arg} : bindCall pins j (.val w :: r) env = (bindCall pins (j + 1) r env).bind fun q => .ok (w :: q.1, q.2) := rfl
@[simp] theorem backCall_nil {pins : List Nat} {j : Nat} {old : Env} {ws : List Val} {outs : List Slot} : backCall pins old j [] ws outs env = .ok env := rfl
@[simp] theorem backCall_val {pins : List Nat} {j : Nat} {old : Env} {w u : Val} {r : List Arg} {ws : List Val} {outs : List Slot} : backCall pins old j (.val w :: r) (u :: ws) outs env = backCall pins old (j + 1) r ws outs env := rfl
/-- on to the next statement -/
def nxt (r : Fl × Env) (k : Env → Res (Fl × Env)) : Res (Fl × Env) := match r.1 with
  | .nx => k r.2
  | f => .ok (f, r.2)
@[simp] theorem nxt_nx {k : Env → Res (Fl × Env)} : nxt (.nx, env) k = k env := rfl
@[simp] theorem nxt_rt {w : Val} {k : Env → Res (Fl × Env)} : nxt (.rt w, env) k = .ok (.rt w, env) := rfl
@[simp] theorem evSs_nil : evSs Γ cl [] env = .ok (.nx, env) := rfl
@[simp] theorem evSs_cons {s : CS} {r : List CS} : evSs Γ cl (s :: r) env = (evS Γ cl s env).bind fun q => nxt q (evSs Γ cl r) := rfl
@[simp] theorem evS_retV : evS Γ cl (.ret (.var i)) env = (mvVar i env).bind fun q => .ok (.rt q.1, q.2) := rfl
@[simp] theorem evS_retP {xs : List CE} : evS Γ cl (.ret (.prim op xs)) env = (evE Γ cl (.prim op xs) env).bind fun q => .ok (.rt q.1, q.2) := rfl
@[simp] theorem evS_retC {d : D} : evS Γ cl (.ret (.con d)) env = .ok (.rt (.fz d), env) := rfl
@[simp] theorem evS_retA : evS Γ cl (.ret (.and a b)) env = (evE Γ cl (.and a b) env).bind fun q => .ok (.rt q.1, q.2) := rfl
@[simp] theorem evS_retT : evS Γ cl (.ret (.tup es)) env = (evE Γ cl (.tup es) env).bind fun q => .ok (.rt q.1, q.2) := rfl
@[simp] theorem evS_retL : evS Γ cl (.ret (.lst es)) env = (evE Γ cl (.lst es) env).bind fun q => .ok (.rt q.1, q.2) := rfl
@[simp] theorem evS_ite {p q : List CS} : evS Γ cl (.ite t p q) env = (evE Γ cl t env).bind fun r => brB r.1 (evSs Γ cl p r.2) (evSs Γ cl q r.2) := rfl
@[simp] theorem evS_expr {e : CE} : evS Γ cl (.expr e) env = (evE Γ cl e env).bind fun q => .ok (.nx, q.2) := rfl
@[simp] theorem evS_asgN {e : CE} : evS Γ cl (.asg (.nm i) e) env = (evE Γ cl e env).bind fun q => (setSlot i q.1 q.2).bind fun e => .ok (.nx, e) := rfl
end
/-! ### operations -/
@[simp] theorem p_add {i j : Int} : primO .add [.int i, .int j] = .ok (.fz (.int (i + j))) := by rw [primO_eq]; rfl
@[simp] theorem p_sub {i j : Int} : primO .sub [.int i, .int j] = .ok (.fz (.int (i - j))) := by rw [primO_eq]; rfl
@[simp] theorem p_neg {i : Int} : primO .neg [.int i] = .ok (.fz (.int (-i))) := by rw [primO_eq]; rfl
@[simp] theorem p_lt {i j : Int} : primO .lt [.int i, .int j] = .ok (.fz (.bl (decide (i < j)))) := by rw [primO_eq]; rfl
@[simp] theorem p_le {i j : Int} : primO .le [.int i, .int j] = .ok (.fz (.bl (decide (i ≤ j)))) := by rw [primO_eq]; rfl
@[simp] theorem p_gt {i j : Int} : primO .gt [.int i, .int j] = .ok (.fz (.bl (decide (j < i)))) := by rw [primO_eq]; rfl
@[simp] theorem p_ge {i j : Int} : primO .ge [.int i, .int j] = .ok (.fz (.bl (decide (j ≤ i)))) := by rw [primO_eq]; rfl
theorem eqv_int (i j : Int) : PyData.eqv (.int i) (.int j) = decide (i = j) := by
  show PyData.eqv (.int i) (.int j) = decide (i = j)
  unfold PyData.eqv
  by_cases h : i = j
  · subst h
    simp
  · rw [decide_eq_false h]
    exact beq_eq_false_iff_ne.mpr h
@[simp] theorem p_eqI {i j : Int} : primO .eq [.int i, .int j] = .ok (.fz (.bl (decide (i = j)))) := by
  rw [primO_eq]
  show (if ((D.int i).fit 40 && (D.int j).fit 40) = true then rB ((D.int i).eqD (D.int j)) else .bad) = _
  rw [if_pos (by rfl)]
  show rB (PyData.eqv (.int i) (.int j)) = _
  rw [eqv_int]
  rfl
@[simp] theorem p_lenT {l : List D} : primO .len [.tup l] = .ok (.fz (.int l.length)) := by rw [primO_eq]; rfl
@[simp] theorem p_lenL {l : List D} : primO .len [.lst l] = .ok (.fz (.int l.length)) := by rw [primO_eq]; rfl
@[simp] theorem p_isa {ts : List Str} {d : D} : primO (.isa ts) [d] = if d.typed = true then rB (ts.any fun t => isaOne d t) else .bad := by rw [primO_eq]; rfl
end Rx

set_option Elab.async false
set_option linter.all false
set_option autoImplicit false
set_option maxRecDepth 100000
namespace Rx
open PySem
section
variable {Γ : Tbl} {cl : Call} {env : Env} {i j : Nat} {a b c t : CE} {es : List CE} {op : Op}
/-! ### own == -/
noncomputable def eqR (Γ : Tbl) (cl : Call) (as : List Arg) (env1 : Env) : Res (Val × Env) := match as with
    | [.val (.fz (.ins c fs)), .val (.fz (.ins e gs))] => (match Γ.eqm c with
      | some f => if c = e then (cl f [.fz (.ins c fs), .fz (.ins e gs)]).bind fun (w, _) => match w with
        | .fz (.bl r) => .ok (.fz (.bl r), env1)
        | _ => .bad else .bad
      | none => .bad)
    | as => (pkArgs env1 as).bind fun ds => (primO .eq ds).bind fun w => .ok (w, env1)
@[simp] theorem evE_eqc : evE Γ cl (.eqc es) env = (evAs Γ cl es env).bind fun r => eqR Γ cl r.1 r.2 := by unfold eqR; rw [primO_eq]; rfl
noncomputable def eqN (as : List Arg) (env : Env) : Res (Val × Env) := (pkArgs env as).bind fun ds => (primO .eq ds).bind fun w => .ok (w, env)
@[simp] theorem eqR_ref {x : Arg} : eqR Γ cl [.ref i, x] env = eqN [.ref i, x] env := rfl
@[simp] theorem eqR_own {l : List D} {x : Arg} : eqR Γ cl [.val (.own l), x] env = eqN [.val (.own l), x] env := rfl
@[simp] theorem eqR_int {l : Int} {x : Arg} : eqR Γ cl [.val (.fz (.int l)), x] env = eqN [.val (.fz (.int l)), x] env := rfl
@[simp] theorem eqR_tup {l : List D} {x : Arg} : eqR Γ cl [.val (.fz (.tup l)), x] env = eqN [.val (.fz (.tup l)), x] env := rfl
@[simp] theorem eqR_lst {l : List D} {x : Arg} : eqR Γ cl [.val (.fz (.lst l)), x] env = eqN [.val (.fz (.lst l)), x] env := rfl
@[simp] theorem eqR_str {l : Str} {x : Arg} : eqR Γ cl [.val (.fz (.str l)), x] env = eqN [.val (.fz (.str l)), x] env := rfl
@[simp] theorem eqR_bl {l : Bool} {x : Arg} : eqR Γ cl [.val (.fz (.bl l)), x] env = eqN [.val (.fz (.bl l)), x] env := rfl
@[simp] theorem eqR_non {x : Arg} : eqR Γ cl [.val (.fz .non), x] env = eqN [.val (.fz .non), x] env := rfl
def eqB (w : Val) (env : Env) : Res (Val × Env) := match w with
  | .fz (.bl r) => .ok (.fz (.bl r), env)
  | _ => .bad
@[simp] theorem eqB_bl {r : Bool} : eqB (.fz (.bl r)) env = .ok (.fz (.bl r), env) := rfl
theorem eqR_ins {c f : Str} {fs gs : List (Str × D)} (h : Γ.eqm c = some f) : eqR Γ cl [.val (.fz (.ins c fs)), .val (.fz (.ins c gs))] env = (cl f [.fz (.ins c fs), .fz (.ins c gs)]).bind fun r => eqB r.1 env := by
  show (match Γ.eqm c with
      | some f => if c = c then (cl f [.fz (.ins c fs), .fz (.ins c gs)]).bind fun r => eqB r.1 env else .bad
      | none => .bad) = _
  rw [h]
  exact if_pos rfl
@[simp] theorem evAs_eqc {xs : List CE} : evAs Γ cl (.eqc xs :: es) env = (evE Γ cl (.eqc xs) env).bind fun a => (evAs Γ cl es a.2).bind fun r => .ok (.val a.1 :: r.1, r.2) := rfl
@[simp] theorem evAs_ite : evAs Γ cl (.ite t a b :: es) env = (evE Γ cl (.ite t a b) env).bind fun a => (evAs Γ cl es a.2).bind fun r => .ok (.val a.1 :: r.1, r.2) := rfl
@[simp] theorem evAs_make {f : Str} {xs : List CE} : evAs Γ cl (.make f xs :: es) env = (evE Γ cl (.make f xs) env).bind fun a => (evAs Γ cl es a.2).bind fun r => .ok (.val a.1 :: r.1, r.2) := rfl
@[simp] theorem evAs_mut {m : Mt} {xs : List CE} : evAs Γ cl (.mut m i xs :: es) env = (evE Γ cl (.mut m i xs) env).bind fun a => (evAs Γ cl es a.2).bind fun r => .ok (.val a.1 :: r.1, r.2) := rfl
@[simp] theorem evAs_comp {e : CE} {t : Tg} {k : IK} {ss c : List CE} {wp : List Nat} : evAs Γ cl (.comp e t k ss c wp :: es) env = (evE Γ cl (.comp e t k ss c wp) env).bind fun a => (evAs Γ cl es a.2).bind fun r => .ok (.val a.1 :: r.1, r.2) := rfl
/-! ### calls that lend -/
def bcO (o : Option Slot) (pins : List Nat) (j i : Nat) (env : Env) (k : Env → Res (List Val × Env)) : Res (List Val × Env) := match o with
  | some (.val p w) => if pins.contains j then (k (env.set i .lck)).bind fun q => .ok (w :: q.1, q.2) else (k (env.set i (.val p (.fz w.frz)))).bind fun q => .ok (.fz w.frz :: q.1, q.2)
  | _ => .bad
@[simp] theorem bcO_val {p : Bool} {w : Val} {pins : List Nat} {k : Env → Res (List Val × Env)} : bcO (some (.val p w)) pins j i env k = if pins.contains j then (k (env.set i .lck)).bind fun q => .ok (w :: q.1, q.2) else (k (env.set i (.val p (.fz w.frz)))).bind fun q => .ok (.fz w.frz :: q.1, q.2) := rfl
@[simp] theorem bindCall_ref {pins : List Nat} {r : List Arg} : bindCall pins j (.ref i :: r) env = bcO env[i]? pins j i env (fun e => bindCall pins (j + 1) r e) := rfl
def kcO (o1 o2 : Option Slot) (w0 : Val) (k : Slot → Res Env) : Res Env := match o1, o2 with
      | some (.val _ w), some (.val p _) => k (.val p (match w0 with
        | .fz d => .fz d
        | _ => w))
      | _, _ => .bad
@[simp] theorem kcO_own {p q : Bool} {w u : Val} {l : List D} {k : Slot → Res Env} : kcO (some (.val p w)) (some (.val q u)) (.own l) k = k (.val q w) := rfl
@[simp] theorem kcO_fz {p q : Bool} {w u : Val} {d : D} {k : Slot → Res Env} : kcO (some (.val p w)) (some (.val q u)) (.fz d) k = k (.val q (.fz d)) := rfl
@[simp] theorem backCall_ref {pins : List Nat} {old : Env} {w0 : Val} {r : List Arg} {ws : List Val} {outs : List Slot} : backCall pins old j (.ref i :: r) (w0 :: ws) outs env = if pins.contains j then kcO outs[j]? old[i]? w0 (fun s => backCall pins old (j + 1) r ws outs (env.set i s)) else backCall pins old (j + 1) r ws outs env := by
  show (if pins.contains j then _ else _) = _
  split
  · unfold kcO
    cases outs[j]? with
    | none => rfl
    | some s => cases s <;> first | rfl | (cases old[i]? with | none => rfl | some s => cases s <;> rfl)
  · rfl
/-! ### new instances, methods -/
def mkO (o : Option (List (Str × D))) (c : Str) (env : Env) : Res (Val × Env) := match o with
      | some fs => .ok (.fz (.ins c fs), env)
      | none => .bad
@[simp] theorem mkO_some {c : Str} {fs : List (Str × D)} : mkO (some fs) c env = .ok (.fz (.ins c fs), env) := rfl
theorem evE_make {c f : Str} (h : Γ.ini c = some f) : evE Γ cl (.make c es) env = (evVs Γ cl es env).bind fun r => (cl f (.oi c [] :: r.1.map fun w : Val => Val.fz w.frz)).bind fun q => mkO (madeOf c q.1 q.2) c r.2 := by
  show (match Γ.ini c with
    | none => Res.bad
    | some f => (evVs Γ cl es env).bind fun r => (cl f (.oi c [] :: r.1.map fun w : Val => Val.fz w.frz)).bind fun q => mkO (madeOf c q.1 q.2) c r.2) = _
  rw [h]
@[simp] theorem madeOf_is {c : Str} {fs : List (Str × D)} {p : Bool} {r : List Slot} : madeOf c (.fz .non) (.val p (.oi c fs) :: r) = some fs := if_pos rfl
def muO {α : Type} (o : Option Slot) (k : Res α) : Res α := match o with
  | some (.val _ (.own _)) => k
  | _ => .bad
@[simp] theorem muO_own {α : Type} {p : Bool} {l : List D} {k : Res α} : muO (some (.val p (.own l))) k = k := rfl
def msO {α : Type} (o : Option Slot) (env : Env) (i : Nat) (f : Val → Res (α × Val)) : Res (α × Env) := match o with
  | some (.val p w) => (f w).bind fun q => .ok (q.1, env.set i (.val p q.2))
  | _ => .bad
@[simp] theorem msO_val {α : Type} {p : Bool} {w : Val} {f : Val → Res (α × Val)} : msO (some (.val p w)) env i f = (f w).bind fun q => .ok (q.1, env.set i (.val p q.2)) := rfl
@[simp] theorem mutSlot_O {α : Type} {f : Val → Res (α × Val)} : mutSlot i env f = msO env[i]? env i f := rfl
@[simp] theorem evE_mut {m : Mt} : evE Γ cl (.mut m i es) env = muO env[i]? ((evVs Γ cl es env).bind fun r => (mutSlot i r.2 fun w => mtdO m w (r.1.map Val.frz)).bind fun q => .ok (.fz q.1, q.2)) := by rw [mtdO_eq]; rfl
@[simp] theorem mtd_append {l : List D} {d : D} : mtdO .append (.own l) [d] = if l.length < SL then .ok (.non, .own (l ++ [d])) else .bad := by rw [mtdO_eq]; rfl
@[simp] theorem mtd_extend {l m : List D} : mtdO .extend (.own l) [.lst m] = if l.length + m.length ≤ SL then .ok (.non, .own (l ++ m)) else .bad := by rw [mtdO_eq]; rfl
/-! ### stores -/
@[simp] theorem evS_asgT {ts : List Tg} {e : CE} : evS Γ cl (.asg (.tp ts) e) env = (evE Γ cl e env).bind fun q => (bindT Γ cl (.tp ts) q.1.frz q.2).bind fun e => .ok (.nx, e) := rfl
@[simp] theorem evS_asgS {k : Nat} {x e : CE} : evS Γ cl (.asg (.sub k x) e) env = (evE Γ cl e env).bind fun q => (bindT Γ cl (.sub k x) q.1.frz q.2).bind fun e => .ok (.nx, e) := rfl
@[simp] theorem bindT_nm {d : D} : bindT Γ cl (.nm i) d env = setSlot i (.fz d) env := rfl
@[simp] theorem bindT_tp {ts : List Tg} {l : List D} : bindT Γ cl (.tp ts) (.tup l) env = if l.length = ts.length then bindTs Γ cl ts l env else .bad := rfl
@[simp] theorem bindTs_nil : bindTs Γ cl [] [] env = .ok env := rfl
@[simp] theorem bindTs_cons {t : Tg} {ts : List Tg} {d : D} {ds : List D} : bindTs Γ cl (t :: ts) (d :: ds) env = (bindT Γ cl t d env).bind fun e => bindTs Γ cl ts ds e := rfl
@[simp] theorem bindT_sub {k : Nat} {e : CE} {d : D} : bindT Γ cl (.sub k e) d env = muO env[k]? ((evE Γ cl e env).bind fun r => (mutSlot k r.2 fun w => (setI w r.1.frz d).bind fun w' => .ok ((), w')).bind fun q => .ok q.2) := rfl
theorem setI_at {l : List D} {k : Int} {d : D} (h0 : 0 ≤ k) (h1 : k < l.length) : setI (.own l) (.int k) d = .ok (.own (l.set k.toNat d)) := by
  show (match L2.ixN l.length k with
    | some j => Res.ok (Val.own (l.set j d))
    | none => .bad) = _
  have : L2.ixN l.length k = some k.toNat := by
    unfold L2.ixN
    rw [if_pos h0, if_pos (by omega)]
  rw [this]
@[simp] theorem evS_par {l : List Nat} : evS Γ cl (.par l es) env = (evVs Γ cl es env).bind fun r => (parSet l r.1 r.2).bind fun e => .ok (.nx, e) := rfl
@[simp] theorem parSet_nil : parSet [] [] env = .ok env := rfl
@[simp] theorem parSet_cons {is : List Nat} {w : Val} {ws : List Val} : parSet (i :: is) (w :: ws) env = (setSlot i w env).bind fun e => parSet is ws e := rfl
def auO (o : Option Slot) (k : Int → Res (Fl × Env)) : Res (Fl × Env) := match o with
  | some (.val false (.fz (.int x))) => k x
  | _ => .bad
@[simp] theorem auO_int {x : Int} {k : Int → Res (Fl × Env)} : auO (some (.val false (.fz (.int x)))) k = k x := rfl
def inI {α : Type} (w : Val) (k : Int → Res α) : Res α := match w with
  | .fz (.int y) => k y
  | _ => .bad
@[simp] theorem inI_int {α : Type} {y : Int} {k : Int → Res α} : inI (.fz (.int y)) k = k y := rfl
@[simp] theorem evS_augA {e : CE} : evS Γ cl (.aug i .add e) env = auO env[i]? fun x => (evE Γ cl e env).bind fun r => inI r.1 fun y => (setSlot i (.fz (.int (x + y))) r.2).bind fun e => .ok (.nx, e) := rfl
@[simp] theorem evS_augS {e : CE} : evS Γ cl (.aug i .sub e) env = auO env[i]? fun x => (evE Γ cl e env).bind fun r => inI r.1 fun y => (setSlot i (.fz (.int (x - y))) r.2).bind fun e => .ok (.nx, e) := rfl
def fsO (f : Str) (d : D) (o : Val) : Res (Unit × Val) := match o with
      | .oi c fs => if (fs.lookup f).isNone && decide (fs.length < 1000) then .ok ((), .oi c (fs ++ [(f, d)])) else .bad
      | _ => .bad
@[simp] theorem fsO_oi {f c : Str} {d : D} {fs : List (Str × D)} : fsO f d (.oi c fs) = if (fs.lookup f).isNone && decide (fs.length < 1000) then .ok ((), .oi c (fs ++ [(f, d)])) else .bad := rfl
@[simp] theorem evS_fset {k : Nat} {f : Str} {e : CE} : evS Γ cl (.fset k f e) env = (evE Γ cl e env).bind fun r => (mutSlot k r.2 (fsO f r.1.frz)).bind fun q => .ok (.nx, q.2) := rfl
@[simp] theorem evS_pass : evS Γ cl .pass env = .ok (.nx, env) := rfl
@[simp] theorem evS_retN : evS Γ cl .retN env = .ok (.rt (.fz .non), env) := rfl
@[simp] theorem evS_retK {f : Str} : evS Γ cl (.ret (.call f es)) env = (evE Γ cl (.call f es) env).bind fun q => .ok (.rt q.1, q.2) := rfl
@[simp] theorem evS_retE : evS Γ cl (.ret (.eqc es)) env = (evE Γ cl (.eqc es) env).bind fun q => .ok (.rt q.1, q.2) := rfl
/-! ### loops -/
def lkO (o : Option Slot) (i : Nat) (env : Env) (k : Env → Res (List (Nat × Slot) × Env)) : Res (List (Nat × Slot) × Env) := match o with
  | some (.val p w) => (k (env.set i .lck)).bind fun q => .ok ((i, .val p w) :: q.1, q.2)
  | _ => .bad
@[simp] theorem lkO_val {p : Bool} {w : Val} {k : Env → Res (List (Nat × Slot) × Env)} : lkO (some (.val p w)) i env k = (k (env.set i .lck)).bind fun q => .ok ((i, .val p w) :: q.1, q.2) := rfl
@[simp] theorem lockArgs_nil : lockArgs [] env = .ok ([], env) := rfl
@[simp] theorem lockArgs_val {w : Val} {r : List Arg} : lockArgs (.val w :: r) env = lockArgs r env := rfl
@[simp] theorem lockArgs_ref {r : List Arg} : lockArgs (.ref i :: r) env = lkO env[i]? i env (fun e => lockArgs r e) := rfl
@[simp] theorem unlock_nil : unlock [] env = env := rfl
@[simp] theorem unlock_cons {s : Slot} {r : List (Nat × Slot)} : unlock ((i, s) :: r) env = (unlock r env).set i s := rfl
noncomputable def forB (Γ : Tbl) (cl : Call) (t : Tg) (b : List CS) : D → Env → Res (Fl × Env) := fun d env => (bindT Γ cl t d env).bind fun e => evSs Γ cl b e
@[simp] theorem evS_forE {t : Tg} {k : IK} {ss : List CE} {b : List CS} : evS Γ cl (.for t k ss b) env = (evAs Γ cl ss env).bind fun r => (pkArgs r.2 r.1).bind fun ds => (iterO k ds).bind fun its => (lockArgs r.1 r.2).bind fun q => (forL (forB Γ cl t b) its q.2).bind fun o => .ok (o.1, unlock q.1 o.2) := by rw [iterO_eq]; rfl
def ctB (w : Val) (env : Env) : Res (Bool × Env) := match w with
  | .fz (.bl b) => .ok (b, env)
  | _ => .bad
@[simp] theorem ctB_bl {b : Bool} : ctB (.fz (.bl b)) env = .ok (b, env) := rfl
@[simp] theorem evTs_nil : evTs Γ cl [] env = .ok (true, env) := rfl
@[simp] theorem evTs_cons {e : CE} : evTs Γ cl (e :: es) env = (evE Γ cl e env).bind fun r => ctB r.1 r.2 := rfl
noncomputable def compB (Γ : Tbl) (cl : Call) (e : CE) (t : Tg) (c : List CE) (wp : List Nat) : D → Env → Res (Option D × Env) := fun d env => (bindT Γ cl t d (wipeE env wp)).bind fun e3 => (evTs Γ cl c e3).bind fun r => match r.1 with
        | true => (evE Γ cl e r.2).bind fun q => .ok (some q.1.frz, q.2)
        | false => .ok (none, r.2)
@[simp] theorem evE_compE {e : CE} {t : Tg} {k : IK} {ss c : List CE} {wp : List Nat} : evE Γ cl (.comp e t k ss c wp) env = (evAs Γ cl ss env).bind fun r => (pkArgs r.2 r.1).bind fun ds => (iterO k ds).bind fun its => (lockArgs r.1 r.2).bind fun q =>
    (compL (compB Γ cl e t c wp) its [] (wipeE q.2 wp)).nox.bind fun o => .ok (.own o.1, unlock q.1 (restE q.2 o.2 wp)) := by rw [iterO_eq]; rfl
def whlB (Γ : Tbl) (cl : Call) (t : CE) (b : List CS) : Env → Res (Option Fl × Env) := fun env => (evE Γ cl t env).bind fun r => brB r.1 ((evSs Γ cl b r.2).bind fun q => .ok (some q.1, q.2)) (.ok (none, r.2))
@[simp] theorem evS_whlE {b : List CS} : evS Γ cl (.whl t b) env = whlL (whlB Γ cl t b) WF env := rfl
/-- a loop by its invariant -/
theorem forL_inv {step : D → Env → Res (Fl × Env)} (I : Nat → Env → Prop) : ∀ {its : List D} {env0 : Env} {k : Nat}, I k env0 → (∀ i d e, its[i]? = some d → I (k + i) e → ∃ e', (step d e = .ok (.nx, e') ∨ step d e = .ok (.ct, e')) ∧ I (k + i + 1) e') → ∃ e', forL step its env0 = .ok (.nx, e') ∧ I (k + its.length) e'
  | [], env0, k, h0, _ => ⟨env0, rfl, h0⟩
  | d :: r, env0, k, h0, hs => by
    obtain ⟨e1, h1, h2⟩ := hs 0 d env0 rfl h0
    obtain ⟨e2, h3, h4⟩ := forL_inv I (its := r) (k := k + 1) h2 fun i d e hd he => by
      have := hs (i + 1) d e hd (by rw [← Nat.add_assoc, Nat.add_right_comm]; exact he)
      rw [← Nat.add_assoc] at this
      rw [Nat.add_right_comm k 1 i]
      exact this
    refine ⟨e2, ?_, by rw [List.length_cons, ← Nat.add_assoc, Nat.add_right_comm]; exact h4⟩
    rcases h1 with h1 | h1
    · show (step d env0).bind _ = _
      rw [h1]
      exact h3
    · show (step d env0).bind _ = _
      rw [h1]
      exact h3
/-- a comprehension by its invariant -/
theorem compL_inv {step : D → Env → Res (Option D × Env)} (I : Nat → List D → Env → Prop) : ∀ {its acc : List D} {env0 : Env} {k : Nat}, I k acc env0 → acc.length + its.length ≤ SL →
    (∀ i d l e, its[i]? = some d → I (k + i) l e → ∃ e', (∃ x, step d e = .ok (some x, e') ∧ I (k + i + 1) (l ++ [x]) e') ∨ (step d e = .ok (none, e') ∧ I (k + i + 1) l e')) → ∃ l e', compL step its acc env0 = .ok (l, e') ∧ I (k + its.length) l e'
  | [], acc, env0, k, h0, _, _ => ⟨acc, env0, rfl, h0⟩
  | d :: r, acc, env0, k, h0, hl, hs => by
    obtain ⟨e1, h1⟩ := hs 0 d acc env0 rfl h0
    rw [List.length_cons] at hl
    have nxt : ∀ l, l.length + r.length ≤ SL → I (k + 1) l e1 → ∃ l' e', compL step r l e1 = .ok (l', e') ∧ I (k + (r.length + 1)) l' e' := fun l hl h => by
      obtain ⟨l', e', h3, h4⟩ := compL_inv I (its := r) (k := k + 1) h hl fun i d l e hd he => by
        have := hs (i + 1) d l e hd (by rw [← Nat.add_assoc, Nat.add_right_comm]; exact he)
        rw [← Nat.add_assoc] at this
        rw [Nat.add_right_comm k 1 i]
        exact this
      exact ⟨l', e', h3, by rw [← Nat.add_assoc, Nat.add_right_comm]; exact h4⟩
    rcases h1 with ⟨x, h1, h2⟩ | ⟨h1, h2⟩
    · obtain ⟨l', e', h3, h4⟩ := nxt (acc ++ [x]) (by rw [List.length_append, List.length_singleton]; omega) h2
      refine ⟨l', e', ?_, h4⟩
      show (step d env0).bind _ = _
      rw [h1]
      show (if acc.length < SL then compL step r (acc ++ [x]) e1 else .bad) = _
      rw [if_pos (by omega)]
      exact h3
    · obtain ⟨l', e', h3, h4⟩ := nxt acc (by omega) h2
      refine ⟨l', e', ?_, h4⟩
      show (step d env0).bind _ = _
      rw [h1]
      exact h3
/-- while, by a measure -/
theorem whlL_inv {step : Env → Res (Option Fl × Env)} (I : Nat → Env → Prop) (Z : Env → Prop) (hs : ∀ m e, I m e → (∃ e', step e = .ok (none, e') ∧ Z e') ∨ ∃ e' m', m' < m ∧ (step e = .ok (some .nx, e') ∨ step e = .ok (some .ct, e')) ∧ I m' e') : ∀ {n m : Nat} {env0 : Env}, m < n → I m env0 → ∃ e', whlL step n env0 = .ok (.nx, e') ∧ Z e'
  | 0, m, env0, h, _ => absurd h (Nat.not_lt_zero _)
  | n + 1, m, env0, h, h0 => by
    rcases hs m env0 h0 with ⟨e', h1, h2⟩ | ⟨e', m', h1, h2, h3⟩
    · refine ⟨e', ?_, h2⟩
      show (step env0).bind _ = _
      rw [h1]
      rfl
    · obtain ⟨e2, h4, h5⟩ := whlL_inv I Z hs (n := n) (m := m') (env0 := e') (by omega) h3
      refine ⟨e2, ?_, h5⟩
      show (step env0).bind _ = _
      rcases h2 with h2 | h2 <;> (rw [h2]; exact h4)
end
end Rx

set_option Elab.async false
set_option linter.all false
set_option autoImplicit false
set_option maxRecDepth 100000
set_option maxHeartbeats 1000000
namespace Rx
open PySem
/-! ### more operations -/
@[simp] theorem p_mul {i j : Int} : primO .mul [.int i, .int j] = if (B64 i || B64 j) = true then .ok (.fz (.int (i * j))) else .bad := by rw [primO_eq]; rfl
@[simp] theorem p_fdiv {i j : Int} : primO .fdiv [.int i, .int j] = if (decide (0 < j) && B62 j) = true then .ok (.fz (.int (i / j))) else .bad := by rw [primO_eq]; rfl
@[simp] theorem p_mod {i j : Int} : primO .mod [.int i, .int j] = if decide (0 < j) = true then .ok (.fz (.int (i % j))) else .bad := by rw [primO_eq]; rfl
@[simp] theorem p_pow {i j : Int} : primO .pow [.int i, .int j] = if (decide (0 ≤ j) && decide (j.toNat ≤ 1000000) && B62 i) = true then .ok (.fz (.int (i ^ j.toNat))) else .bad := by rw [primO_eq]; rfl
def ixO (o : Option D) : Res Val := match o with
  | some d => .ok (.fz d)
  | none => .bad
@[simp] theorem ixO_some {d : D} : ixO (some d) = .ok (.fz d) := rfl
@[simp] theorem p_idxL {l : List D} {i : Int} : primO .idx [.lst l, .int i] = ixO (L2.atI l i) := by rw [primO_eq]; rfl
@[simp] theorem p_idxT {l : List D} {i : Int} : primO .idx [.tup l, .int i] = ixO (L2.atI l i) := by rw [primO_eq]; rfl
@[simp] theorem p_int {i : Int} : primO .int [.int i] = .ok (.fz (.int i)) := by rw [primO_eq]; rfl
@[simp] theorem p_abs {i : Int} : primO .abs [.int i] = .ok (.fz (.int (if i < 0 then -i else i))) := by rw [primO_eq]; rfl
@[simp] theorem p_listL {l : List D} : primO .list [.lst l] = .ok (.own l) := by rw [primO_eq]; rfl
@[simp] theorem p_listT {l : List D} : primO .list [.tup l] = .ok (.own l) := by rw [primO_eq]; rfl
@[simp] theorem p_tupL {l : List D} : primO .tuple [.lst l] = .ok (.fz (.tup l)) := by rw [primO_eq]; rfl
@[simp] theorem p_tupT {l : List D} : primO .tuple [.tup l] = .ok (.fz (.tup l)) := by rw [primO_eq]; rfl
theorem atI_nat {l : List D} {i : Int} (h0 : 0 ≤ i) (h1 : i < l.length) : L2.atI l i = l[i.toNat]? := by
  unfold L2.atI L2.ixN
  rw [if_pos h0, if_pos h1]
  rfl
@[simp] theorem at2_0 {a b : D} : L2.atI [a, b] 0 = some a := rfl
@[simp] theorem at2_1 {a b : D} : L2.atI [a, b] 1 = some b := rfl
@[simp] theorem at5_0 {a b c d e : D} : L2.atI [a, b, c, d, e] 0 = some a := rfl
@[simp] theorem at5_1 {a b c d e : D} : L2.atI [a, b, c, d, e] 1 = some b := rfl
@[simp] theorem at5_2 {a b c d e : D} : L2.atI [a, b, c, d, e] 2 = some c := rfl
@[simp] theorem at5_3 {a b c d e : D} : L2.atI [a, b, c, d, e] 3 = some d := rfl
@[simp] theorem at5_4 {a b c d e : D} : L2.atI [a, b, c, d, e] 4 = some e := rfl
@[simp] theorem si5_1 {a b c d e x : D} : setI (.own [a, b, c, d, e]) (.int 1) x = .ok (.own [a, x, c, d, e]) := rfl
@[simp] theorem si5_2 {a b c d e x : D} : setI (.own [a, b, c, d, e]) (.int 2) x = .ok (.own [a, b, x, d, e]) := rfl
@[simp] theorem si5_3 {a b c d e x : D} : setI (.own [a, b, c, d, e]) (.int 3) x = .ok (.own [a, b, c, x, e]) := rfl
@[simp] theorem si5_4 {a b c d e x : D} : setI (.own [a, b, c, d, e]) (.int 4) x = .ok (.own [a, b, c, d, x]) := rfl
@[simp] theorem eqN_rc {env : Env} {i : Nat} {w : Val} : eqN [.ref i, .val w] env = (pkO env[i]?).bind fun d => (primO .eq [d, w.frz]).bind fun w => .ok (w, env) := by
  show ((pkO env[i]?).bind fun d => _).bind _ = _
  cases pkO env[i]? <;> rfl
@[simp] theorem eqN_cc {env : Env} {u w : Val} : eqN [.val u, .val w] env = (primO .eq [u.frz, w.frz]).bind fun w => .ok (w, env) := rfl
/-! ### the laws' own drawing -/
def c_draw : Fn := { np := 2, ns := 5, pins := [0, 1], body := [.ite (.and (.eqc [.prim .idx [.var 0, .con (.int 2)], .con (.int 0)]) (.prim .lt [.prim .idx [.var 0, .con (.int 1)], .prim .len [.prim .idx [.var 0, .con (.int 0)]]])) [.asg (.nm 3) (.prim .idx [.prim .idx [.var 0, .con (.int 0)], .prim .idx [.var 0, .con (.int 1)]]), .asg (.sub 0 (.con (.int 1))) (.prim .add [.prim .idx [.var 0, .con (.int 1)], .con (.int 1)]), .asg (.sub 0 (.con (.int 3))) (.prim .mod [.prim .int [.prim .add [.prim .add [.prim .mul [.prim .idx [.var 0, .con (.int 3)], .con (.int 69621)], .prim .mul [.var 3, .con (.int 40692)]], .con (.int 29)]], .con (.int 2147483629)]), .ite (.prim .ge [.var 3, .prim .pow [.con (.int 10), .con (.int 18)]]) [.asg (.sub 0 (.con (.int 2))) (.var 3)] []] [], .ite (.prim .gt [.prim .idx [.var 0, .con (.int 2)], .con (.int 0)]) [.asg (.nm 4) (.prim .mod [.prim .int [.prim .idx [.var 0, .con (.int 2)]], .var 1]), .asg (.sub 0 (.con (.int 2))) (.prim .fdiv [.prim .idx [.var 0, .con (.int 2)], .var 1]), .ret (.var 4)] [], .asg (.sub 0 (.con (.int 4))) (.prim .add [.prim .idx [.var 0, .con (.int 4)], .con (.int 1)]), .asg (.nm 2) (.prim .mod [.prim .int [.prim .mul [.prim .int [.prim .add [.prim .idx [.var 0, .con (.int 3)], .prim .mul [.con (.int 7919), .prim .idx [.var 0, .con (.int 4)]]]], .con (.int 48271)]], .con (.int 2147483647)]), .asg (.nm 2) (.prim .mod [.prim .int [.prim .mul [.var 2, .prim .add [.prim .fdiv [.var 2, .con (.int 1009)], .con (.int 69621)]]], .con (.int 2147483647)]), .asg (.nm 2) (.prim .mod [.prim .int [.prim .mul [.var 2, .prim .add [.prim .fdiv [.var 2, .con (.int 2003)], .con (.int 40014)]]], .con (.int 2147483563)]), .ret (.prim .mod [.prim .int [.prim .fdiv [.var 2, .con (.int 16)]], .var 1])] }
/-- a hand -/
def Hd (l : List D) : Prop := ∃ (cs : List Int) (p q s t : Int), l = [.lst (cs.map D.int), .int p, .int q, .int s, .int t] ∧ (∀ c ∈ cs, 0 ≤ c) ∧ 0 ≤ p ∧ 0 ≤ q
theorem b64_mod {x m : Int} (h0 : 0 < m) (h1 : m ≤ 2 ^ 62) : B64 (x % m) = true := by
  have a := Int.emod_nonneg x (show m ≠ 0 by omega)
  have b := Int.emod_lt_of_pos x h0
  unfold B64
  exact decide_eq_true (by omega)
@[simp] theorem b64_m1 {x : Int} : B64 (x % 2147483647) = true := b64_mod (by omega) (by omega)
@[simp] theorem b64_m2 {x : Int} : B64 (x % 2147483563) = true := b64_mod (by omega) (by omega)
theorem b64_c {i : Int} (h0 : -18446744073709551616 < i) (h1 : i < 18446744073709551616) : B64 i = true := by
  unfold B64
  exact decide_eq_true (by omega)
theorem draw_ok {Γ : Tbl} (hf : Γ.fn "_law_draw" = some c_draw) {l : List D} {z : Int} (n : Nat) (h : Hd l) (z0 : 0 < z) (z1 : z < 2 ^ 62) :
    ∃ d l', callF Γ (n + 1) "_law_draw" [.own l, .fz (.int z)] = .ok (.fz (.int d), [.val true (.own l'), .val true (.fz (.int z))]) ∧ 0 ≤ d ∧ d < z ∧ Hd l' := by
  obtain ⟨cs, p, q, s, t, rfl, hc, hp, hq⟩ := h
  have b62 : B62 z = true := by
    unfold B62
    rw [decide_eq_true (show z.natAbs < 2 ^ 62 by omega)]
    rfl
  have k1 : B64 69621 = true := by decide
  have k2 : B64 40692 = true := by decide
  have k3 : B64 7919 = true := by decide
  have k4 : B64 48271 = true := by decide
  have k5 : B62 10 = true := by decide
  have k6 : B62 1009 = true := by decide
  have k7 : B62 2003 = true := by decide
  have k8 : B62 16 = true := by decide
  have digit : ∀ x : Int, 0 ≤ x % z ∧ x % z < z := fun x => ⟨Int.emod_nonneg x (by omega), Int.emod_lt_of_pos x z0⟩
  rw [callF_fn hf rfl]
  by_cases h1 : q = 0
  · subst h1
    by_cases h2 : p < cs.length
    · obtain ⟨c, e1, e2⟩ : ∃ c, L2.atI (cs.map D.int) p = some (.int c) ∧ 0 ≤ c := by
        have hl : p.toNat < cs.length := by omega
        refine ⟨cs[p.toNat], ?_, hc _ (List.getElem_mem hl)⟩
        rw [atI_nat hp (by rw [List.length_map]; exact h2), List.getElem?_map, List.getElem?_eq_getElem hl]
        rfl
      by_cases h3 : (1000000000000000000 : Int) ≤ c
      · have h4 : 0 < c := by omega
        simp [c_draw, z0, b62, h2, e1, h3, h4, k1, k2, k3, k4, k5, k6, k7, k8]
        exact ⟨_, _, ⟨rfl, rfl⟩, (digit c).1, (digit c).2, cs, _, _, _, _, rfl, hc, by omega, Int.ediv_nonneg (by omega) (by omega)⟩
      · simp [c_draw, z0, b62, h2, e1, h3, k1, k2, k3, k4, k5, k6, k7, k8]
        exact ⟨_, _, ⟨rfl, rfl⟩, (digit _).1, (digit _).2, cs, _, _, _, _, rfl, hc, by omega, by omega⟩
    · simp [c_draw, z0, b62, h2, k1, k2, k3, k4, k5, k6, k7, k8]
      exact ⟨_, _, ⟨rfl, rfl⟩, (digit _).1, (digit _).2, cs, _, _, _, _, rfl, hc, by omega, by omega⟩
  · have h4 : 0 < q := by omega
    simp [c_draw, z0, b62, h1, h4, k1, k2, k3, k4, k5, k6, k7, k8]
    exact ⟨_, _, ⟨rfl, rfl⟩, (digit q).1, (digit q).2, cs, _, _, _, _, rfl, hc, hp, Int.ediv_nonneg (by omega) (by omega)⟩
end Rx

set_option Elab.async false
set_option linter.all false
set_option autoImplicit false
set_option maxRecDepth 100000
set_option maxHeartbeats 1000000
namespace Rx
open PySem
@[simp] theorem wipeE_nil {env : Env} : wipeE env [] = env := rfl
@[simp] theorem wipeE_cons {env : Env} {v : Nat} {vs : List Nat} : wipeE env (v :: vs) = (wipeE env vs).set v .emp := rfl
@[simp] theorem restE_nil {old env : Env} : restE old env [] = env := rfl
@[simp] theorem restE_cons {old env : Env} {v : Nat} {vs : List Nat} : restE old env (v :: vs) = (restE old env vs).set v (old.getD v .emp) := rfl
@[simp] theorem p_sliceS {l : List Int} {j : Int} : primO (.slice false true) [.scr l, .int j] = .ok (.own ((cut l none (some j)).map D.int)) := by rw [primO_eq]; rfl
@[simp] theorem p_sliceL {l : List D} {j : Int} : primO (.slice false true) [.lst l, .int j] = .ok (.own (cut l none (some j))) := by rw [primO_eq]; rfl
@[simp] theorem it_plainL {l : List D} : iterO .plain [.lst l] = .ok l := by rw [iterO_eq]; rfl
@[simp] theorem it_plainT {l : List D} : iterO .plain [.tup l] = .ok l := by rw [iterO_eq]; rfl
@[simp] theorem own?_ite {l : List D} : own? l = if l.length ≤ SL then .ok (.own l) else .bad := rfl
@[simp] theorem tup?_ite {l : List D} : tup? l = if l.length ≤ SL then .ok (.fz (.tup l)) else .bad := rfl
theorem sl5 : 5 ≤ SL := by decide
theorem sl_le {n m : Nat} (h : n ≤ m) (h2 : m ≤ 1000000) : n ≤ SL := Nat.le_trans h (Nat.le_trans h2 (by decide))
@[simp] theorem nox_ok {α : Type} {a : α} : (Res.ok a).nox = .ok a := rfl
/-! ### the laws' hand -/
def c_hand : Fn := { np := 1, ns := 3, pins := [0], body := [.asg (.nm 1) (.comp (.prim .abs [.prim .int [.var 2]]) (.nm 2) .plain [.prim (.slice false true) [.var 0, .con (.int 63)]] [] [2]), .ret (.lst [.var 1, .con (.int 0), .con (.int 0), .prim .add [.con (.int 431), .prim .mul [.con (.int 7), .prim .len [.var 1]]], .con (.int 0)])] }
theorem hand_ok {Γ : Tbl} (hf : Γ.fn "_law_hand" = some c_hand) (ns : List Int) (hn : ns.length ≤ 63) (n : Nat) : ∃ l outs, callF Γ (n + 1) "_law_hand" [.fz (.scr ns)] = .ok (.own l, outs) ∧ Hd l := by
  rw [callF_fn hf rfl]
  have hcut : (cut ns none (some 63)).length ≤ 63 := by
    unfold cut
    rw [List.length_take, List.length_drop]
    omega
  obtain ⟨l, e, h1, cs, s2, rfl, h2, rfl⟩ := compL_inv (its := (cut ns none (some 63)).map D.int) (acc := []) (env0 := [.val true (.fz (.scr ns)), .emp, .emp]) (k := 0)
    (step := compB Γ (callF Γ n) (.prim .abs [.prim .int [.var 2]]) (.nm 2) [] [2])
    (fun k l e => ∃ (cs : List Int) (s2 : Slot), l = cs.map D.int ∧ (∀ c ∈ cs, 0 ≤ c) ∧ e = [.val true (.fz (.scr ns)), .emp, s2]) ⟨[], .emp, rfl, by simp, rfl⟩ (by rw [List.length_nil, List.length_map]; exact sl_le (m := 63) (by omega) (by omega)) fun i d l e hd ⟨cs, s2, h1, h2, h3⟩ => by
      subst h1 h3
      rw [List.getElem?_map] at hd
      cases hi : (cut ns none (some 63))[i]? with
      | none => rw [hi] at hd; cases hd
      | some x =>
        rw [hi] at hd
        cases hd
        refine ⟨[.val true (.fz (.scr ns)), .emp, .val false (.fz (.int x))], .inl ⟨.int (if x < 0 then -x else x), ?_, cs ++ [if x < 0 then -x else x], _, by simp, ?_, rfl⟩⟩
        · simp [compB]
        · intro c hc
          rcases List.mem_append.mp hc with hc | hc
          · exact h2 c hc
          · rw [List.mem_singleton.mp hc]
            split <;> omega
  have k7 : B64 7 = true := by decide
  simp [c_hand]
  rw [h1]
  simp [k7, sl5]
  exact ⟨cs, 0, 0, _, 0, rfl, h2, by omega, by omega⟩
def c_some : Fn := { np := 2, ns := 2, pins := [0, 1], body := [.ret (.prim .idx [.var 1, .call "_law_draw" [.var 0, .prim .len [.var 1]]])] }
theorem some_ok {Γ : Tbl} (hd : Γ.fn "_law_draw" = some c_draw) (hf : Γ.fn "_law_some" = some c_some) {l m : List D} (n : Nat) (h : Hd l) (m0 : 0 < m.length) (m1 : m.length ≤ 1000000) :
    ∃ (d : D) (l' : List D) (o : Slot), callF Γ (n + 2) "_law_some" [.own l, .own m] = .ok (.fz d, [.val true (.own l'), o]) ∧ d ∈ m ∧ Hd l' := by
  rw [callF_fn hf rfl]
  obtain ⟨d, l', e, d0, d1, h'⟩ := draw_ok hd (z := (m.length : Int)) n h (by omega) (by omega)
  have e3 : L2.atI m d = m[d.toNat]? := atI_nat d0 d1
  have hl : d.toNat < m.length := by omega
  rw [List.getElem?_eq_getElem hl] at e3
  refine ⟨m[d.toNat], l', .val true (.own m), ?_, List.getElem_mem hl, h'⟩
  simp [c_some, evE_call hd, c_draw, e, e3]
theorem erase_perm : ∀ {l : List D} {i : Nat} (h : i < l.length), (l[i] :: l.eraseIdx i).Perm l
  | [], i, h => absurd h (Nat.not_lt_zero _)
  | x :: l, 0, h => List.Perm.refl _
  | x :: l, i + 1, h => by
    have hi : i < l.length := by simpa using h
    have := erase_perm (l := l) (i := i) hi
    show (l[i] :: x :: l.eraseIdx i).Perm (x :: l)
    exact (List.Perm.swap _ _ _).trans (this.cons x)
def ppO (o : Option D) (l : List D) (i : Nat) : Res (D × Val) := match o with
  | some d => .ok (d, .own (l.eraseIdx i))
  | none => .bad
@[simp] theorem ppO_some {d : D} {l : List D} {i : Nat} : ppO (some d) l i = .ok (d, .own (l.eraseIdx i)) := rfl
@[simp] theorem mtd_popAt {l : List D} {i : Int} : mtdO .popAt (.own l) [.int i] = if (decide (0 ≤ i) && B62 i) = true then ppO l[i.toNat]? l i.toNat else .bad := by rw [mtdO_eq]; rfl
theorem b62_c {i : Int} (h0 : 0 ≤ i) (h1 : i < 4611686018427387904) : B62 i = true := by
  unfold B62
  rw [decide_eq_true (show i.natAbs < 2 ^ 62 by omega)]
  rfl
def c_shuffled : Fn := { np := 2, ns := 4, pins := [0, 1], body := [.par [2, 3] [.prim .list [.var 1], .lst []], .whl (.prim .gt [.prim .len [.var 2], .con (.int 0)]) [.expr (.mut .append 3 [.mut .popAt 2 [.call "_law_draw" [.var 0, .prim .len [.var 2]]]])], .ret (.var 3)] }
theorem shuffled_ok {Γ : Tbl} (hd : Γ.fn "_law_draw" = some c_draw) (hf : Γ.fn "_law_shuffled" = some c_shuffled) {l m : List D} (n : Nat) (h : Hd l) (m1 : m.length ≤ 100000) :
    ∃ (r l' : List D) (o : Slot), callF Γ (n + 2) "_law_shuffled" [.own l, .own m] = .ok (.own r, [.val true (.own l'), o]) ∧ r.Perm m ∧ Hd l' := by
  rw [callF_fn hf rfl]
  have wf : 100000 < WF := by decide
  have sl : 100000 < SL := by decide
  obtain ⟨e', h1, l', r, rfl, hl', hr⟩ := whlL_inv (step := whlB Γ (callF Γ (n + 1)) (.prim .gt [.prim .len [.var 2], .con (.int 0)]) [.expr (.mut .append 3 [.mut .popAt 2 [.call "_law_draw" [.var 0, .prim .len [.var 2]]]])])
    (I := fun k e => ∃ (hand pool found : List D), e = [.val true (.own hand), .val true (.own m), .val false (.own pool), .val false (.own found)] ∧ Hd hand ∧ (pool ++ found).Perm m ∧ pool.length = k)
    (Z := fun e => ∃ (hand found : List D), e = [.val true (.own hand), .val true (.own m), .val false (.own []), .val false (.own found)] ∧ Hd hand ∧ found.Perm m) (fun k e ⟨hand, pool, found, he, hh, hp, hk⟩ => by
      subst he
      have tot : pool.length + found.length = m.length := by
        have := hp.length_eq
        rw [List.length_append] at this
        exact this
      by_cases h0 : pool.length = 0
      · have hp0 : pool = [] := List.eq_nil_of_length_eq_zero h0
        subst hp0
        refine .inl ⟨_, ?_, hand, found, rfl, hh, hp⟩
        simp [whlB]
      · obtain ⟨d, hand', ed, d0, d1, hh'⟩ := draw_ok hd (z := (pool.length : Int)) n hh (by omega) (by omega)
        have hl : d.toNat < pool.length := by omega
        refine .inr ⟨[.val true (.own hand'), .val true (.own m), .val false (.own (pool.eraseIdx d.toNat)), .val false (.own (found ++ [pool[d.toNat]]))], pool.length - 1, by omega, .inl ?_, hand', _, _, rfl, hh', ?_, ?_⟩
        · have b6 : B62 d = true := b62_c d0 (by omega)
          have hpos : (0 : Int) < pool.length := by omega
          have hlen : found.length < SL := by omega
          have hne : pool ≠ [] := fun z => h0 (by rw [z]; rfl)
          simp [whlB, evE_call hd, c_draw, ed, d0, b6, hpos, List.getElem?_eq_getElem hl, hlen, hne]
        · refine List.Perm.trans ?_ hp
          have p1 := List.perm_append_comm (l₁ := found) (l₂ := [pool[d.toNat]])
          have p2 : (pool.eraseIdx d.toNat ++ (found ++ [pool[d.toNat]])).Perm (pool[d.toNat] :: pool.eraseIdx d.toNat ++ found) := by
            refine (List.Perm.append_left _ p1).trans ?_
            exact List.perm_middle
          refine p2.trans (List.Perm.append_right _ ?_)
          exact erase_perm hl
        · rw [List.length_eraseIdx_of_lt hl]) (n := WF) (m := m.length) (env0 := [.val true (.own l), .val true (.own m), .val false (.own m), .val false (.own [])]) (by omega) ⟨l, m, [], rfl, h, by simp, rfl⟩
  refine ⟨r, l', .val true (.own m), ?_, hr, hl'⟩
  simp [c_shuffled]
  rw [h1]
  simp
end Rx

set_option Elab.async false
set_option linter.all false
set_option autoImplicit false
set_option maxRecDepth 100000
set_option maxHeartbeats 1000000
namespace Rx
open PySem
/-! ### a place that may be stored to -/
def Fr (s : Slot) : Prop := s = .emp ∨ ∃ w, s = .val false w
theorem Fr.emp : Fr .emp := .inl rfl
theorem Fr.val {w : Val} : Fr (.val false w) := .inr ⟨w, rfl⟩
theorem stO_fr {s : Slot} (h : Fr s) {env : Env} {i : Nat} {w : Val} : stO (some s) env i w = .ok (env.set i (.val false w)) := by
  rcases h with rfl | ⟨u, rfl⟩ <;> rfl
/-! ### swaps and rows -/
def encS (s : List (Nat × Nat)) : List D := s.map fun p => .tup [.int p.1, .int p.2]
def sw1 (r : List Int) (p : Nat × Nat) : List Int := if r.getD p.2 0 < r.getD p.1 0 then (r.set p.1 (r.getD p.2 0)).set p.2 (r.getD p.1 0) else r
def runS (s : List (Nat × Nat)) (r : List Int) : List Int := s.foldl sw1 r
def okS (n : Nat) (s : List (Nat × Nat)) : Prop := ∀ p ∈ s, p.1 < n ∧ p.2 < n ∧ p.1 ≠ p.2
theorem sw1_len (r : List Int) (p : Nat × Nat) : (sw1 r p).length = r.length := by
  unfold sw1
  split <;> simp
theorem runS_len : ∀ (s : List (Nat × Nat)) (r : List Int), (runS s r).length = r.length
  | [], r => rfl
  | p :: s, r => by
    show (runS s (sw1 r p)).length = _
    rw [runS_len, sw1_len]
theorem runS_snoc (s : List (Nat × Nat)) (p : Nat × Nat) (r : List Int) : runS (s ++ [p]) r = sw1 (runS s r) p := by
  unfold runS
  rw [List.foldl_append]
  rfl
theorem take_succ_get {α : Type} {l : List α} {i : Nat} {x : α} (h : l[i]? = some x) : l.take (i + 1) = l.take i ++ [x] := by
  rw [List.take_succ, h]
  rfl
theorem at_map {xs : List Int} {i : Nat} (h : i < xs.length) : L2.atI (xs.map D.int) (i : Int) = some (.int (xs.getD i 0)) := by
  rw [atI_nat (by omega) (by rw [List.length_map]; omega), List.getElem?_map]
  simp [h]
theorem set_map {xs : List Int} {i : Nat} {v : Int} (h : i < xs.length) : setI (.own (xs.map D.int)) (.int (i : Int)) (.int v) = .ok (.own ((xs.set i v).map D.int)) := by
  rw [setI_at (by omega) (by rw [List.length_map]; omega)]
  simp [List.map_set]
def runB : List CS := [.ite (.prim .gt [.prim .idx [.var 1, .var 2], .prim .idx [.var 1, .var 3]]) [.asg (.tp [.sub 1 (.var 2), .sub 1 (.var 3)]) (.tup [.prim .idx [.var 1, .var 3], .prim .idx [.var 1, .var 2]])] []]
def c_run2 : Fn := { np := 2, ns := 4, pins := [0], body := [.asg (.nm 1) (.prim .list [.var 1]), .for (.tp [.nm 2, .nm 3]) .plain [.var 0] runB, .ret (.prim .tuple [.var 1])] }
theorem run2_ok {Γ : Tbl} (hf : Γ.fn "_law_run" = some c_run2) (n : Nat) {s : List (Nat × Nat)} {r : List Int} (hs : okS r.length s) : ∃ o, callF Γ (n + 1) "_law_run" [.fz (.tup (encS s)), .fz (.tup (r.map D.int))] = .ok (.fz (.tup ((runS s r).map D.int)), o) := by
  rw [callF_fn hf rfl]
  have sl : 2 ≤ SL := by decide
  obtain ⟨e', h1, s2, s3, he, _, _⟩ := forL_inv (step := forB Γ (callF Γ n) (.tp [.nm 2, .nm 3]) runB) (its := encS s) (k := 0) (env0 := [.val true (.fz (.tup (encS s))), .val false (.own (r.map D.int)), .emp, .emp])
    (fun k e => ∃ s2 s3, e = [.val true (.fz (.tup (encS s))), .val false (.own ((runS (s.take k) r).map D.int)), s2, s3] ∧ Fr s2 ∧ Fr s3) ⟨.emp, .emp, rfl, .emp, .emp⟩ fun i d e hd ⟨s2, s3, he, f2, f3⟩ => by
      subst he
      rw [Nat.zero_add]
      unfold encS at hd
      rw [List.getElem?_map] at hd
      cases hi : s[i]? with
      | none => rw [hi] at hd; cases hd
      | some p =>
        rw [hi] at hd
        cases hd
        obtain ⟨a, b⟩ := p
        obtain ⟨h1, h2, h3⟩ := hs (a, b) (List.mem_of_getElem? hi)
        have l1 : a < (runS (s.take i) r).length := by rw [runS_len]; exact h1
        have l2 : b < (runS (s.take i) r).length := by rw [runS_len]; exact h2
        refine ⟨[.val true (.fz (.tup (encS s))), .val false (.own ((runS (s.take (i + 1)) r).map D.int)), .val false (.fz (.int a)), .val false (.fz (.int b))], .inl ?_, _, _, rfl, .val, .val⟩
        rw [take_succ_get hi, runS_snoc]
        generalize hx : runS (s.take i) r = x at l1 l2
        have l3 : b < (x.set a (x.getD b 0)).length := by rw [List.length_set]; exact l2
        by_cases hlt : x.getD b 0 < x.getD a 0
        · have e1 : sw1 x (a, b) = (x.set a (x.getD b 0)).set b (x.getD a 0) := if_pos hlt
          rw [e1]
          have m1 := set_map (v := x.getD b 0) l1
          have m2 := set_map (v := x.getD a 0) l3
          simp only [List.getD_eq_getElem?_getD, List.map_set] at hlt m1 m2
          simp [forB, runB, stO_fr f2, stO_fr f3, at_map l1, at_map l2, hlt, sl, m1, m2]
        · have e1 : sw1 x (a, b) = x := if_neg hlt
          rw [e1]
          simp only [List.getD_eq_getElem?_getD] at hlt
          simp [forB, runB, stO_fr f2, stO_fr f3, at_map l1, at_map l2, hlt]
  have hk : s.take (0 + (encS s).length) = s := by
    unfold encS
    rw [Nat.zero_add, List.length_map, List.take_length]
  rw [hk] at he
  subst he
  simp [c_run2]
  rw [h1]
  simp
end Rx

set_option Elab.async false
set_option linter.all false
set_option autoImplicit false
set_option maxRecDepth 100000
set_option maxHeartbeats 1000000
namespace Rx
open PySem
/-! ### checks -/
def k_is_integer : Fn := { np := 1, ns := 1, pins := [0], body := [.ret (.and (.prim (.isa ["int"]) [.var 0]) (.not (.prim (.isa ["bool"]) [.var 0])))] }
def k_is_within : Fn := { np := 3, ns := 3, pins := [0, 1, 2], body := [.ret (.and (.call "is_integer" [.var 0]) (.chain .le .le (.var 1) (.var 0) (.var 2)))] }
def k_is_tuple : Fn := { np := 2, ns := 2, pins := [0, 1], body := [.ret (.and (.prim (.isa ["tuple"]) [.var 0]) (.eqc [.prim .len [.var 0], .var 1]))] }
def k_is_sized : Fn := { np := 3, ns := 3, pins := [0, 1, 2], body := [.ret (.and (.prim (.isa ["tuple"]) [.var 0]) (.chain .le .le (.var 1) (.prim .len [.var 0]) (.var 2)))] }
structure Chk (Γ : Tbl) : Prop where
  i : Γ.fn "is_integer" = some k_is_integer
  w : Γ.fn "is_within" = some k_is_within
  t : Γ.fn "is_tuple" = some k_is_tuple
  s : Γ.fn "is_sized" = some k_is_sized
section
variable {Γ : Tbl} (k : Chk Γ) (n : Nat)
include k
theorem r_integer (x : Int) : callF Γ (n + 1) "is_integer" [.fz (.int x)] = .ok (.fz (.bl true), [.val true (.fz (.int x))]) := by
  rw [callF_fn k.i rfl]
  rfl
theorem r_within {x a b : Int} (h1 : a ≤ x) (h2 : x ≤ b) : callF Γ (n + 2) "is_within" [.fz (.int x), .fz (.int a), .fz (.int b)] = .ok (.fz (.bl true), [.val true (.fz (.int x)), .val true (.fz (.int a)), .val true (.fz (.int b))]) := by
  rw [callF_fn k.w rfl]
  simp [k_is_within, evE_call k.i, r_integer k n, k_is_integer, h1, h2]
theorem r_tuple {l : List D} {m : Int} (h : (l.length : Int) = m) : callF Γ (n + 1) "is_tuple" [.fz (.tup l), .fz (.int m)] = .ok (.fz (.bl true), [.val true (.fz (.tup l)), .val true (.fz (.int m))]) := by
  rw [callF_fn k.t rfl]
  simp [k_is_tuple, D.typed, isaOne, rB, h]
theorem r_sized {l : List D} {a b : Int} (h1 : a ≤ l.length) (h2 : (l.length : Int) ≤ b) : callF Γ (n + 1) "is_sized" [.fz (.tup l), .fz (.int a), .fz (.int b)] = .ok (.fz (.bl true), [.val true (.fz (.tup l)), .val true (.fz (.int a)), .val true (.fz (.int b))]) := by
  rw [callF_fn k.s rfl]
  simp [k_is_sized, D.typed, isaOne, rB, h1, h2]
end
/-- all of a list of truth values -/
theorem all_true {l : List D} (h : ∀ d ∈ l, d = .bl true) : primO .all [.lst l] = .ok (.fz (.bl true)) := by
  rw [primO_eq]
  have e : ∃ bs, bls? l = some bs ∧ bs.all id = true := by
    induction l with
    | nil => exact ⟨[], rfl, rfl⟩
    | cons d r ih =>
      obtain ⟨bs, h1, h2⟩ := ih fun x hx => h x (List.mem_cons_of_mem _ hx)
      rw [h d List.mem_cons_self]
      refine ⟨true :: bs, ?_, by simpa using h2⟩
      show (bls? r).map (true :: ·) = _
      rw [h1] <;> rfl
  obtain ⟨bs, h1, h2⟩ := e
  show (match bls? l with | some r => rB (r.all id) | _ => .bad) = _
  rw [h1]
  show rB (bs.all id) = _
  rw [h2] <;> rfl
/-- a comprehension whose every item is True: its list -/
theorem comp_true {step : D → Env → Res (Option D × Env)} {its : List D} {env0 : Env} (J : Env → Prop) (h0 : J env0) (hl : its.length ≤ 1000000) (hs : ∀ d e, d ∈ its → J e → ∃ e', step d e = .ok (some (.bl true), e') ∧ J e') :
    ∃ l e', compL step its [] env0 = .ok (l, e') ∧ (∀ d ∈ l, d = .bl true) ∧ J e' := by
  obtain ⟨l, e', h1, h2, h3⟩ := compL_inv (step := step) (its := its) (acc := []) (env0 := env0) (k := 0) (fun _ l e => (∀ d ∈ l, d = D.bl true) ∧ J e) ⟨by simp, h0⟩ (by rw [List.length_nil, Nat.zero_add]; exact sl_le hl (Nat.le_refl _)) fun i d l e hd ⟨h1, h2⟩ => by
    obtain ⟨e', h3, h4⟩ := hs d e (List.mem_of_getElem? hd) h2
    refine ⟨e', .inl ⟨_, h3, fun x hx => ?_, h4⟩⟩
    rcases List.mem_append.mp hx with hx | hx
    · exact h1 x hx
    · exact List.mem_singleton.mp hx
  exact ⟨l, e', h1, h2, h3⟩
def k_is_row : Fn := { np := 2, ns := 3, pins := [0, 1], body := [.ret (.and (.call "is_tuple" [.var 0, .var 1]) (.prim .all [.comp (.call "is_within" [.var 2, .prim .neg [.glob "MOST_SIZE"], .glob "MOST_SIZE"]) (.nm 2) .plain [.var 0] [] [2]]))] }
def k_check_row : Fn := { np := 2, ns := 2, pins := [0, 1], body := [.ite (.not (.call "is_row" [.var 0, .var 1])) [.raise "NoRow" []] []] }
theorem r_row {Γ : Tbl} (k : Chk Γ) (n : Nat) (hf : Γ.fn "is_row" = some k_is_row) (hc : Γ.cst "MOST_SIZE" = some (.int 1000000000)) {r : List Int} (h : ∀ x ∈ r, -1000000000 ≤ x ∧ x ≤ 1000000000) (hl : r.length ≤ 1000000) :
    callF Γ (n + 3) "is_row" [.fz (.tup (r.map D.int)), .fz (.int r.length)] = .ok (.fz (.bl true), [.val true (.fz (.tup (r.map D.int))), .val true (.fz (.int r.length))]) := by
  rw [callF_fn hf rfl]
  obtain ⟨l, e, h1, h2, s2, he, hs2⟩ := comp_true (step := compB Γ (callF Γ (n + 2)) (.call "is_within" [.var 2, .prim .neg [.glob "MOST_SIZE"], .glob "MOST_SIZE"]) (.nm 2) [] [2]) (its := r.map D.int) (env0 := [.val true (.fz (.tup (r.map D.int))), .val true (.fz (.int r.length)), .emp])
    (fun e => ∃ s2, e = [.val true (.fz (.tup (r.map D.int))), .val true (.fz (.int r.length)), s2] ∧ Fr s2) ⟨_, rfl, .emp⟩ (by rw [List.length_map]; exact hl) fun d e hd ⟨s2, he, _⟩ => by
      subst he
      obtain ⟨x, hx, rfl⟩ := List.mem_map.mp hd
      refine ⟨_, ?_, .val false (.fz (.int x)), rfl, .val⟩
      simp [compB, evE_call k.w, evE_glob hc, k_is_within, r_within k n (h x hx).1 (h x hx).2]
  subst he
  have ht := r_tuple k (n + 1) (l := r.map D.int) (m := (r.length : Int)) (by rw [List.length_map])
  simp [k_is_row, evE_call k.t, k_is_tuple, ht]
  rw [h1]
  simp [all_true h2]
end Rx

set_option Elab.async false
set_option linter.all false
set_option autoImplicit false
set_option maxRecDepth 100000
set_option maxHeartbeats 1000000
namespace Rx
open PySem
theorem eqD_int (i j : Int) : (D.int i).eqD (.int j) = decide (i = j) := eqv_int i j
@[simp] theorem p_neI {i j : Int} : primO .ne [.int i, .int j] = .ok (.fz (.bl (!decide (i = j)))) := by
  rw [primO_eq]
  show (if ((D.int i).fit 40 && (D.int j).fit 40) = true then rB (!(D.int i).eqD (D.int j)) else .bad) = _
  rw [if_pos (by rfl), eqD_int]
  rfl
theorem r_check {Γ : Tbl} (k : Chk Γ) (n : Nat) (hr : Γ.fn "is_row" = some k_is_row) (hf : Γ.fn "check_row" = some k_check_row) (hc : Γ.cst "MOST_SIZE" = some (.int 1000000000)) {r : List Int} (h : ∀ x ∈ r, -1000000000 ≤ x ∧ x ≤ 1000000000) (hl : r.length ≤ 1000000) :
    callF Γ (n + 4) "check_row" [.fz (.tup (r.map D.int)), .fz (.int r.length)] = .ok (.fz .non, [.val true (.fz (.tup (r.map D.int))), .val true (.fz (.int r.length))]) := by
  rw [callF_fn hf rfl]
  simp [k_check_row, evE_call hr, k_is_row, r_row k n hr hc h hl]
def k_are_swaps : Fn := { np := 2, ns := 4, pins := [0, 1], body := [.ite (.or (.not (.call "is_sized" [.var 0, .con (.int 0), .glob "MOST_SWAPS"])) (.not (.prim .all [.comp (.call "is_tuple" [.var 2, .con (.int 2)]) (.nm 2) .plain [.var 0] [] [2]]))) [.ret (.con (.bl false))] [], .ret (.prim .all [.comp (.and (.prim .all [.comp (.call "is_within" [.var 3, .con (.int 0), .prim .sub [.var 1, .con (.int 1)]]) (.nm 3) .plain [.var 2] [] [3]]) (.prim .ne [.prim .idx [.var 2, .con (.int 0)], .prim .idx [.var 2, .con (.int 1)]])) (.nm 2) .plain [.var 0] [] [2]])] }
theorem r_swaps {Γ : Tbl} (k : Chk Γ) (n : Nat) (hf : Γ.fn "are_swaps" = some k_are_swaps) (hc : Γ.cst "MOST_SWAPS" = some (.int 60)) {m : Nat} {s : List (Nat × Nat)} (h : okS m s) (hl : s.length ≤ 60) :
    ∃ o, callF Γ (n + 3) "are_swaps" [.fz (.tup (encS s)), .fz (.int m)] = .ok (.fz (.bl true), o) := by
  rw [callF_fn hf rfl]
  have ln : (encS s).length = s.length := by unfold encS; rw [List.length_map]
  obtain ⟨l, e, h1, h2, s2, he, hs2⟩ := comp_true (step := compB Γ (callF Γ (n + 2)) (.call "is_tuple" [.var 2, .con (.int 2)]) (.nm 2) [] [2]) (its := encS s) (env0 := [.val true (.fz (.tup (encS s))), .val true (.fz (.int m)), .emp, .emp])
    (fun e => ∃ s2, e = [.val true (.fz (.tup (encS s))), .val true (.fz (.int m)), s2, .emp] ∧ Fr s2) ⟨_, rfl, .emp⟩ (by omega) fun d e hd ⟨s2, he, _⟩ => by
      subst he
      obtain ⟨p, hp, rfl⟩ := List.mem_map.mp hd
      have ht := r_tuple k (n + 1) (l := [.int p.1, .int p.2]) (m := 2) rfl
      refine ⟨_, ?_, .val false (.fz (.tup [.int p.1, .int p.2])), rfl, .val⟩
      simp [compB, evE_call k.t, k_is_tuple, ht]
  subst he
  obtain ⟨l', e', h1', h2', s2', s3', he', hs2', hs3'⟩ := comp_true (step := compB Γ (callF Γ (n + 2)) (.and (.prim .all [.comp (.call "is_within" [.var 3, .con (.int 0), .prim .sub [.var 1, .con (.int 1)]]) (.nm 3) .plain [.var 2] [] [3]]) (.prim .ne [.prim .idx [.var 2, .con (.int 0)], .prim .idx [.var 2, .con (.int 1)]])) (.nm 2) [] [2]) (its := encS s) (env0 := [.val true (.fz (.tup (encS s))), .val true (.fz (.int m)), .emp, .emp])
    (fun e => ∃ s2 s3, e = [.val true (.fz (.tup (encS s))), .val true (.fz (.int m)), s2, s3] ∧ Fr s2 ∧ s3 = .emp) ⟨_, _, rfl, .emp, rfl⟩ (by omega) fun d e hd ⟨s2, s3, he, _, h3⟩ => by
      subst he h3
      obtain ⟨p, hp, rfl⟩ := List.mem_map.mp hd
      obtain ⟨p1, p2, p3⟩ := h p hp
      obtain ⟨l, e, q1, q2, s3, he, hs3⟩ := comp_true (step := compB Γ (callF Γ (n + 2)) (.call "is_within" [.var 3, .con (.int 0), .prim .sub [.var 1, .con (.int 1)]]) (.nm 3) [] [3]) (its := [.int p.1, .int p.2]) (env0 := [.val true (.fz (.tup (encS s))), .val true (.fz (.int m)), .val false (.fz (.tup [.int p.1, .int p.2])), .emp])
        (fun e => ∃ s3, e = [.val true (.fz (.tup (encS s))), .val true (.fz (.int m)), .val false (.fz (.tup [.int p.1, .int p.2])), s3] ∧ Fr s3) ⟨_, rfl, .emp⟩ (by simp) fun d e hd ⟨s3, he, _⟩ => by
          subst he
          have hw : ∃ j : Nat, d = .int (j : Int) ∧ j < m := by
            simp only [List.mem_cons, List.not_mem_nil, or_false] at hd
            rcases hd with rfl | rfl
            · exact ⟨p.1, rfl, p1⟩
            · exact ⟨p.2, rfl, p2⟩
          obtain ⟨j, rfl, hj⟩ := hw
          have hwi := r_within k n (x := (j : Int)) (a := 0) (b := (m : Int) - 1) (by omega) (by omega)
          refine ⟨_, ?_, .val false (.fz (.int j)), rfl, .val⟩
          simp [compB, evE_call k.w, k_is_within, hwi]
      subst he
      have hne : ¬ ((p.1 : Int) = (p.2 : Int)) := by omega
      refine ⟨_, ?_, .val false (.fz (.tup [.int p.1, .int p.2])), .emp, rfl, .val, rfl⟩
      simp [compB]
      rw [q1]
      simp [all_true q2]
      omega
  subst he'
  have hz := r_sized k (n + 1) (l := encS s) (a := 0) (b := 60) (by omega) (by omega)
  simp [k_are_swaps, evE_call k.s, k_is_sized, evE_glob hc, hz]
  rw [h1]
  simp [all_true h2]
  rw [h1']
  simp [all_true h2']
end Rx

set_option Elab.async false
set_option linter.all false
set_option autoImplicit false
set_option maxRecDepth 100000
set_option maxHeartbeats 1000000
namespace Rx
open PySem
/-! ### a net made, a raw run -/
def netD (m : Nat) (s : List (Nat × Nat)) : D := .ins "Net" [("wires", .int m), ("swaps", .tup (encS s))]
def k_Net_init : Fn := { np := 3, ns := 3, pins := [0, 1, 2], body := [.ite (.not (.call "is_within" [.var 1, .con (.int 1), .glob "MOST_WIRES"])) [.raise "BadNet" [.con (.str "wires")]] [], .ite (.not (.call "are_swaps" [.var 2, .var 1])) [.raise "BadNet" [.con (.str "swaps")]] [], .fset 0 "wires" (.var 1), .fset 0 "swaps" (.var 2)] }
structure NetK (Γ : Tbl) : Prop where
  f : Γ.fn "Net.__init__" = some k_Net_init
  s : Γ.fn "are_swaps" = some k_are_swaps
  cw : Γ.cst "MOST_WIRES" = some (.int 10)
  cs : Γ.cst "MOST_SWAPS" = some (.int 60)
  i : Γ.ini "Net" = some "Net.__init__"
theorem r_init {Γ : Tbl} (k : Chk Γ) (q : NetK Γ) (n : Nat) {m : Nat} {s : List (Nat × Nat)} (h1 : 1 ≤ m) (h2 : m ≤ 10) (h : okS m s) (hl : s.length ≤ 60) :
    callF Γ (n + 4) "Net.__init__" [.oi "Net" [], .fz (.int m), .fz (.tup (encS s))] = .ok (.fz .non, [.val true (.oi "Net" [("wires", .int m), ("swaps", .tup (encS s))]), .val true (.fz (.int m)), .val true (.fz (.tup (encS s)))]) := by
  rw [callF_fn q.f rfl]
  have hw := r_within k (n + 1) (x := (m : Int)) (a := 1) (b := 10) (by omega) (by omega)
  obtain ⟨o, hs⟩ := r_swaps k n q.s q.cs h hl
  simp [k_Net_init, evE_call k.w, k_is_within, evE_glob q.cw, hw]
  simp [evE_call q.s, k_are_swaps, hs]
  rw [if_neg (by decide)]
  rfl
theorem r_make {Γ : Tbl} (k : Chk Γ) (q : NetK Γ) (n : Nat) {m : Nat} {s : List (Nat × Nat)} (h1 : 1 ≤ m) (h2 : m ≤ 10) (h : okS m s) (hl : s.length ≤ 60) {es : List CE} {env env' : Env}
    (he : evVs Γ (callF Γ (n + 4)) es env = .ok ([.fz (.int m), .fz (.tup (encS s))], env')) : evE Γ (callF Γ (n + 4)) (.make "Net" es) env = .ok (.fz (netD m s), env') := by
  rw [evE_make q.i, he]
  have := r_init k q n h1 h2 h hl
  simp [Val.frz, this]
  rfl
end Rx

set_option Elab.async false
set_option linter.all false
set_option autoImplicit false
set_option maxRecDepth 100000
set_option maxHeartbeats 1000000
namespace Rx
open PySem
def rawB : List CS := [.ite (.prim .gt [.prim .idx [.var 2, .var 3], .prim .idx [.var 2, .var 4]]) [.asg (.tp [.sub 2 (.var 3), .sub 2 (.var 4)]) (.tup [.prim .idx [.var 2, .var 4], .prim .idx [.var 2, .var 3]])] []]
def k_raw_run : Fn := { np := 2, ns := 5, pins := [0, 1], body := [.asg (.nm 2) (.prim .list [.var 1]), .for (.tp [.nm 3, .nm 4]) .plain [.var 0] rawB, .ret (.var 2)] }
theorem raw_ok {Γ : Tbl} (hf : Γ.fn "raw_run" = some k_raw_run) (n : Nat) {s : List (Nat × Nat)} {r : List Int} (hs : okS r.length s) : ∃ o, callF Γ (n + 1) "raw_run" [.fz (.tup (encS s)), .fz (.tup (r.map D.int))] = .ok (.own ((runS s r).map D.int), o) := by
  rw [callF_fn hf rfl]
  have sl : 2 ≤ SL := by decide
  obtain ⟨e', h1, s2, s3, he, _, _⟩ := forL_inv (step := forB Γ (callF Γ n) (.tp [.nm 3, .nm 4]) rawB) (its := encS s) (k := 0) (env0 := [.val true (.fz (.tup (encS s))), .val true (.fz (.tup (r.map D.int))), .val false (.own (r.map D.int)), .emp, .emp])
    (fun k e => ∃ s2 s3, e = [.val true (.fz (.tup (encS s))), .val true (.fz (.tup (r.map D.int))), .val false (.own ((runS (s.take k) r).map D.int)), s2, s3] ∧ Fr s2 ∧ Fr s3) ⟨.emp, .emp, rfl, .emp, .emp⟩ fun i d e hd ⟨s2, s3, he, f2, f3⟩ => by
      subst he
      rw [Nat.zero_add]
      unfold encS at hd
      rw [List.getElem?_map] at hd
      cases hi : s[i]? with
      | none => rw [hi] at hd; cases hd
      | some p =>
        rw [hi] at hd
        cases hd
        obtain ⟨a, b⟩ := p
        obtain ⟨h1, h2, h3⟩ := hs (a, b) (List.mem_of_getElem? hi)
        have l1 : a < (runS (s.take i) r).length := by rw [runS_len]; exact h1
        have l2 : b < (runS (s.take i) r).length := by rw [runS_len]; exact h2
        refine ⟨[.val true (.fz (.tup (encS s))), .val true (.fz (.tup (r.map D.int))), .val false (.own ((runS (s.take (i + 1)) r).map D.int)), .val false (.fz (.int a)), .val false (.fz (.int b))], .inl ?_, _, _, rfl, .val, .val⟩
        rw [take_succ_get hi, runS_snoc]
        generalize hx : runS (s.take i) r = x at l1 l2
        have l3 : b < (x.set a (x.getD b 0)).length := by rw [List.length_set]; exact l2
        by_cases hlt : x.getD b 0 < x.getD a 0
        · have e1 : sw1 x (a, b) = (x.set a (x.getD b 0)).set b (x.getD a 0) := if_pos hlt
          rw [e1]
          have m1 := set_map (v := x.getD b 0) l1
          have m2 := set_map (v := x.getD a 0) l3
          simp only [List.getD_eq_getElem?_getD, List.map_set] at hlt m1 m2
          simp [forB, rawB, stO_fr f2, stO_fr f3, at_map l1, at_map l2, hlt, sl, m1, m2]
        · have e1 : sw1 x (a, b) = x := if_neg hlt
          rw [e1]
          simp only [List.getD_eq_getElem?_getD] at hlt
          simp [forB, rawB, stO_fr f2, stO_fr f3, at_map l1, at_map l2, hlt]
  have hk : s.take (0 + (encS s).length) = s := by
    unfold encS
    rw [Nat.zero_add, List.length_map, List.take_length]
  rw [hk] at he
  subst he
  simp [k_raw_run]
  rw [h1]
  simp
end Rx

set_option Elab.async false
set_option linter.all false
set_option autoImplicit false
set_option maxRecDepth 100000
set_option maxHeartbeats 1000000
namespace Rx
open PySem
@[simp] theorem p_wires {m : Nat} {s : List (Nat × Nat)} : primO (.fld "wires") [netD m s] = .ok (.fz (.int m)) := by rw [primO_eq]; rfl
@[simp] theorem p_swaps {m : Nat} {s : List (Nat × Nat)} : primO (.fld "swaps") [netD m s] = .ok (.fz (.tup (encS s))) := by rw [primO_eq]; rfl
def k_run : Fn := { np := 2, ns := 2, pins := [0, 1], body := [.expr (.call "check_row" [.var 1, .prim (.fld "wires") [.var 0]]), .ret (.prim .tuple [.call "raw_run" [.prim (.fld "swaps") [.var 0], .var 1]])] }
theorem run_ok {Γ : Tbl} (k : Chk Γ) (n : Nat) (hf : Γ.fn "run" = some k_run) (hr : Γ.fn "raw_run" = some k_raw_run) (hi : Γ.fn "is_row" = some k_is_row) (hc : Γ.fn "check_row" = some k_check_row) (hg : Γ.cst "MOST_SIZE" = some (.int 1000000000))
    {m : Nat} {s : List (Nat × Nat)} {r : List Int} (hs : okS m s) (hm : r.length = m) (h : ∀ x ∈ r, -1000000000 ≤ x ∧ x ≤ 1000000000) (hl : r.length ≤ 1000000) :
    ∃ o, callF Γ (n + 5) "run" [.fz (netD m s), .fz (.tup (r.map D.int))] = .ok (.fz (.tup ((runS s r).map D.int)), o) := by
  subst hm
  rw [callF_fn hf rfl]
  have h1 := r_check k n hi hc hg h hl
  obtain ⟨o, h2⟩ := raw_ok hr (n + 3) (s := s) (r := r) hs
  simp [k_run, evE_call hc, k_check_row, h1]
  simp [evE_call hr, k_raw_run, h2, Val.frz]
def k_is_standard : Fn := { np := 1, ns := 3, pins := [0], body := [.ret (.prim .all [.comp (.prim .lt [.var 1, .var 2]) (.tp [.nm 1, .nm 2]) .plain [.prim (.fld "swaps") [.var 0]] [] [1, 2]])] }
theorem standard_ok {Γ : Tbl} (n : Nat) (hf : Γ.fn "is_standard" = some k_is_standard) {m : Nat} {s : List (Nat × Nat)} (h : ∀ p ∈ s, p.1 < p.2) (hl : s.length ≤ 1000) :
    ∃ o, callF Γ (n + 1) "is_standard" [.fz (netD m s)] = .ok (.fz (.bl true), o) := by
  rw [callF_fn hf rfl]
  obtain ⟨l, e, h1, h2, s2, s3, he, _, _⟩ := comp_true (step := compB Γ (callF Γ n) (.prim .lt [.var 1, .var 2]) (.tp [.nm 1, .nm 2]) [] [1, 2]) (its := encS s) (env0 := [.val true (.fz (netD m s)), .emp, .emp])
    (fun e => ∃ s2 s3, e = [.val true (.fz (netD m s)), s2, s3] ∧ Fr s2 ∧ Fr s3) ⟨_, _, rfl, .emp, .emp⟩ (by unfold encS; rw [List.length_map]; omega) fun d e hd ⟨s2, s3, he, f2, f3⟩ => by
      subst he
      obtain ⟨p, hp, rfl⟩ := List.mem_map.mp hd
      have := h p hp
      refine ⟨_, ?_, .val false (.fz (.int p.1)), .val false (.fz (.int p.2)), rfl, .val, .val⟩
      simp [compB, stO_fr f2, stO_fr f3]
      omega
  subst he
  simp [k_is_standard]
  rw [h1]
  simp [all_true h2]
end Rx

set_option Elab.async false
set_option linter.all false
set_option autoImplicit false
set_option maxRecDepth 100000
set_option maxHeartbeats 1000000
namespace Rx
open PySem
/-! ### untangling, over plain lists -/
def un1 (st : List Nat × List (Nat × Nat)) (p : Nat × Nat) : List Nat × List (Nat × Nat) :=
  ((st.1.set p.1 (min (st.1.getD p.1 0) (st.1.getD p.2 0))).set p.2 (max (st.1.getD p.1 0) (st.1.getD p.2 0)),
   st.2 ++ [(min (st.1.getD p.1 0) (st.1.getD p.2 0), max (st.1.getD p.1 0) (st.1.getD p.2 0))])
def unS (m : Nat) (s : List (Nat × Nat)) : List Nat × List (Nat × Nat) := s.foldl un1 (List.range m, [])
theorem unS_snoc (m : Nat) (s : List (Nat × Nat)) (p : Nat × Nat) : unS m (s ++ [p]) = un1 (unS m s) p := by
  unfold unS
  rw [List.foldl_append]
  rfl
/-- a placing of m wires -/
structure Plc (m : Nat) (l : List Nat) : Prop where
  len : l.length = m
  lt : ∀ i, i < m → l.getD i 0 < m
  inj : ∀ i j, i < m → j < m → l.getD i 0 = l.getD j 0 → i = j
theorem getD_set {α : Type} {l : List α} {i j : Nat} {x d : α} (h : i < l.length) : (l.set i x).getD j d = if i = j then x else l.getD j d := by
  rw [List.getD_eq_getElem?_getD, List.getD_eq_getElem?_getD, List.getElem?_set]
  by_cases e : i = j
  · subst e
    rw [if_pos rfl, if_pos rfl, if_pos h]
    rfl
  · rw [if_neg e, if_neg e]
theorem getD_set2 {α : Type} {l : List α} {a b j : Nat} {x y d : α} (ha : a < l.length) (hb : b < l.length) : ((l.set a x).set b y).getD j d = if b = j then y else if a = j then x else l.getD j d := by
  rw [getD_set (by rw [List.length_set]; exact hb), getD_set ha]
theorem plc_un1 {m : Nat} {st : List Nat × List (Nat × Nat)} {p : Nat × Nat} (h : Plc m st.1) (h1 : p.1 < m) (h2 : p.2 < m) (h3 : p.1 ≠ p.2) : Plc m (un1 st p).1 := by
  obtain ⟨hl, hlt, hi⟩ := h
  have la := hlt _ h1
  have lb := hlt _ h2
  have hab : st.1.getD p.1 0 ≠ st.1.getD p.2 0 := fun e => h3 (hi _ _ h1 h2 e)
  have key : ∀ j, (un1 st p).1.getD j 0 = if p.2 = j then max (st.1.getD p.1 0) (st.1.getD p.2 0) else if p.1 = j then min (st.1.getD p.1 0) (st.1.getD p.2 0) else st.1.getD j 0 := fun j => getD_set2 (by omega) (by omega)
  refine ⟨by show ((st.1.set _ _).set _ _).length = m; rw [List.length_set, List.length_set, hl], fun i hm => ?_, fun i j hm hn he => ?_⟩
  · rw [key]
    have := hlt i hm
    split
    · omega
    · split <;> omega
  · rw [key, key] at he
    have c1 := hi i p.1 hm h1
    have c2 := hi i p.2 hm h2
    have c3 := hi j p.1 hn h1
    have c4 := hi j p.2 hn h2
    have c5 := hi i j hm hn
    split at he <;> split at he <;> (try split at he) <;> (try split at he) <;> omega
theorem plc_unS {m : Nat} : ∀ {s : List (Nat × Nat)} {st : List Nat × List (Nat × Nat)}, okS m s → Plc m st.1 → okS m st.2 → (∀ p ∈ st.2, p.1 < p.2) →
    Plc m (s.foldl un1 st).1 ∧ okS m (s.foldl un1 st).2 ∧ (∀ p ∈ (s.foldl un1 st).2, p.1 < p.2) ∧ (s.foldl un1 st).2.length = st.2.length + s.length
  | [], st, _, h, h2, h3 => ⟨h, h2, h3, rfl⟩
  | p :: s, st, hs, h, h2, h3 => by
    obtain ⟨a1, a2, a3⟩ := hs p List.mem_cons_self
    have la := h.lt _ a1
    have lb := h.lt _ a2
    have hab : st.1.getD p.1 0 ≠ st.1.getD p.2 0 := fun e => a3 (h.inj _ _ a1 a2 e)
    obtain ⟨b1, b2, b3, b4⟩ := plc_unS (s := s) (st := un1 st p) (fun q hq => hs q (List.mem_cons_of_mem _ hq)) (plc_un1 h a1 a2 a3) (fun q hq => by
      rcases List.mem_append.mp hq with hq | hq
      · exact h2 q hq
      · rw [List.mem_singleton.mp hq]
        refine ⟨?_, ?_, ?_⟩ <;> dsimp only <;> omega) (fun q hq => by
      rcases List.mem_append.mp hq with hq | hq
      · exact h3 q hq
      · rw [List.mem_singleton.mp hq]
        dsimp only
        omega)
    refine ⟨b1, b2, b3, ?_⟩
    show (s.foldl un1 (un1 st p)).2.length = _
    rw [b4]
    show (st.2 ++ [_]).length + _ = _
    rw [List.length_append]
    simp
    omega
theorem plc_range (m : Nat) : Plc m (List.range m) := by
  have e : ∀ i, i < m → (List.range m).getD i 0 = i := fun i h => by
    rw [List.getD_eq_getElem?_getD, List.getElem?_range h]
    rfl
  exact ⟨List.length_range, fun i h => by rw [e i h]; exact h, fun i j h h2 he => by rw [e i h, e j h2] at he; exact he⟩
/-- what one run holds at a wire the other holds at its place -/
theorem sw1_getD {r : List Int} {p : Nat × Nat} (h1 : p.1 < r.length) (h2 : p.2 < r.length) (h3 : p.1 ≠ p.2) (j : Nat) :
    (sw1 r p).getD j 0 = if p.2 = j then max (r.getD p.1 0) (r.getD p.2 0) else if p.1 = j then min (r.getD p.1 0) (r.getD p.2 0) else r.getD j 0 := by
  unfold sw1
  by_cases c : r.getD p.2 0 < r.getD p.1 0
  · rw [if_pos c, getD_set2 h1 h2]
    split
    · omega
    · split <;> omega
  · rw [if_neg c]
    split
    · rename_i e
      rw [← e]
      omega
    · split
      · rename_i e
        rw [← e]
        omega
      · rfl
theorem un_run {m : Nat} : ∀ {s : List (Nat × Nat)} {st : List Nat × List (Nat × Nat)} {R P r : List Int}, okS m s → Plc m st.1 → R.length = m → P.length = m → P = runS st.2 r → (∀ w, w < m → R.getD w 0 = P.getD (st.1.getD w 0) 0) →
    ∀ w, w < m → (runS s R).getD w 0 = (runS (s.foldl un1 st).2 r).getD ((s.foldl un1 st).1.getD w 0) 0
  | [], st, R, P, r, _, _, _, _, hP, h => by
    subst hP
    exact h
  | p :: s, st, R, P, r, hs, h, lR, lP, hP, hr => by
    obtain ⟨a1, a2, a3⟩ := hs p List.mem_cons_self
    have la := h.lt _ a1
    have lb := h.lt _ a2
    have hab : st.1.getD p.1 0 ≠ st.1.getD p.2 0 := fun e => a3 (h.inj _ _ a1 a2 e)
    have ra := hr _ a1
    have rb := hr _ a2
    refine un_run (s := s) (st := un1 st p) (R := sw1 R p) (P := sw1 P (min (st.1.getD p.1 0) (st.1.getD p.2 0), max (st.1.getD p.1 0) (st.1.getD p.2 0))) (r := r) (fun q hq => hs q (List.mem_cons_of_mem _ hq)) (plc_un1 h a1 a2 a3) (by rw [sw1_len, lR]) (by rw [sw1_len, lP]) (by
      show _ = runS (st.2 ++ [_]) r
      rw [runS_snoc, hP]) fun w hw => ?_
    have key : (un1 st p).1.getD w 0 = if p.2 = w then max (st.1.getD p.1 0) (st.1.getD p.2 0) else if p.1 = w then min (st.1.getD p.1 0) (st.1.getD p.2 0) else st.1.getD w 0 := getD_set2 (by rw [h.len]; exact a1) (by rw [h.len]; exact a2)
    rw [sw1_getD (by omega) (by omega) a3, key, sw1_getD (by dsimp only; omega) (by dsimp only; omega) (by dsimp only; omega)]
    dsimp only
    have c1 := h.inj w p.1 hw a1
    have c2 := h.inj w p.2 hw a2
    have rw' := hr w hw
    rcases Nat.le_total (st.1.getD p.1 0) (st.1.getD p.2 0) with c | c
    · rw [Nat.max_eq_right c, Nat.min_eq_left c, ra, rb]
      by_cases e2 : p.2 = w
      · simp only [if_pos e2, if_true]
      · by_cases e1 : p.1 = w
        · rw [if_neg e2, if_pos e1, if_neg e2, if_pos e1, if_neg (by omega), if_pos rfl]
        · rw [if_neg e2, if_neg e1, if_neg e2, if_neg e1, if_neg (by omega), if_neg (by omega), rw']
    · rw [Nat.max_eq_left c, Nat.min_eq_right c, ra, rb]
      by_cases e2 : p.2 = w
      · simp only [if_pos e2, if_true]
        omega
      · by_cases e1 : p.1 = w
        · rw [if_neg e2, if_pos e1, if_neg e2, if_pos e1, if_neg (by omega), if_pos rfl]
          omega
        · rw [if_neg e2, if_neg e1, if_neg e2, if_neg e1, if_neg (by omega), if_neg (by omega), rw']
theorem unS_run {m : Nat} {s : List (Nat × Nat)} {r : List Int} (hs : okS m s) (hr : r.length = m) : ∀ w, w < m → (runS s r).getD w 0 = (runS (unS m s).2 r).getD ((unS m s).1.getD w 0) 0 :=
  un_run hs (plc_range m) hr hr rfl fun w hw => by
    rw [List.getD_eq_getElem?_getD (l := List.range m), List.getElem?_range hw]
    rfl
end Rx

set_option Elab.async false
set_option linter.all false
set_option autoImplicit false
set_option maxRecDepth 100000
set_option maxHeartbeats 1000000
namespace Rx
open PySem
/-! ### a net that stands already; the order -/
theorem range_getD {m i : Nat} (h : i < m) : (List.range m).getD i 0 = i := by
  rw [List.getD_eq_getElem?_getD, List.getElem?_range h]
  rfl
theorem un_std {m : Nat} : ∀ {s f : List (Nat × Nat)}, okS m s → (∀ p ∈ s, p.1 < p.2) → s.foldl un1 (List.range m, f) = (List.range m, f ++ s)
  | [], f, _, _ => by simp
  | p :: s, f, hs, h => by
    obtain ⟨a1, a2, a3⟩ := hs p List.mem_cons_self
    have lt := h p List.mem_cons_self
    have e : un1 (List.range m, f) p = (List.range m, f ++ [p]) := by
      unfold un1
      dsimp only
      rw [range_getD a1, range_getD a2, Nat.min_eq_left (by omega), Nat.max_eq_right (by omega)]
      refine Prod.ext ?_ rfl
      refine List.ext_getElem (by simp) fun i h1 h2 => ?_
      simp only [List.getElem_set, List.getElem_range]
      split
      · assumption
      · split
        · assumption
        · rfl
    show s.foldl un1 (un1 (List.range m, f) p) = _
    rw [e, un_std (fun q hq => hs q (List.mem_cons_of_mem _ hq)) (fun q hq => h q (List.mem_cons_of_mem _ hq))]
    simp
theorem unS_std {m : Nat} {s : List (Nat × Nat)} (hs : okS m s) (h : ∀ p ∈ s, p.1 < p.2) : unS m s = (List.range m, s) := by
  have := un_std (f := []) hs h
  unfold unS
  simpa using this
/-- the order after k wires -/
def invK (m : Nat) (l : List Nat) : Nat → List Nat
  | 0 => List.replicate m 0
  | k + 1 => (invK m l k).set (l.getD k 0) k
theorem invK_len (m : Nat) (l : List Nat) : ∀ k, (invK m l k).length = m
  | 0 => List.length_replicate
  | k + 1 => by
    show ((invK m l k).set _ _).length = m
    rw [List.length_set, invK_len]
theorem invK_at {m : Nat} {l : List Nat} (h : Plc m l) : ∀ k, k ≤ m → ∀ i, i < k → (invK m l k).getD (l.getD i 0) 0 = i
  | 0, _, i, hi => absurd hi (by omega)
  | k + 1, hk, i, hi => by
    show ((invK m l k).set (l.getD k 0) k).getD _ 0 = i
    rw [getD_set (by rw [invK_len]; exact h.lt k (by omega))]
    by_cases e : l.getD k 0 = l.getD i 0
    · rw [if_pos e]
      exact h.inj k i (by omega) (by omega) e
    · rw [if_neg e]
      have : i ≠ k := fun c => e (by rw [c])
      exact invK_at h k (by omega) i (by omega)
theorem invK_lt {m : Nat} {l : List Nat} : ∀ k, k ≤ m → ∀ j, j < m → (invK m l k).getD j 0 < m
  | 0, _, j, hj => by
    show (List.replicate m 0).getD j 0 < m
    rw [List.getD_eq_getElem?_getD, List.getElem?_replicate, if_pos hj]
    show 0 < m
    omega
  | k + 1, hk, j, hj => by
    show ((invK m l k).set (l.getD k 0) k).getD j 0 < m
    by_cases c : l.getD k 0 < (invK m l k).length
    · rw [getD_set c]
      split
      · omega
      · exact invK_lt k (by omega) j hj
    · rw [List.set_eq_of_length_le (by omega)]
      exact invK_lt k (by omega) j hj
end Rx

set_option Elab.async false
set_option linter.all false
set_option autoImplicit false
set_option maxRecDepth 100000
set_option maxHeartbeats 1000000
namespace Rx
open PySem
/-! ### untangled -/
def encN (l : List Nat) : List D := l.map fun i : Nat => D.int (i : Int)
theorem encN_len (l : List Nat) : (encN l).length = l.length := by
  unfold encN
  rw [List.length_map]
theorem at_encN {l : List Nat} {i : Nat} (h : i < l.length) : L2.atI (encN l) (i : Int) = some (.int (l.getD i 0 : Nat)) := by
  rw [atI_nat (by omega) (by rw [encN_len]; omega)]
  unfold encN
  rw [List.getElem?_map]
  simp [h]
theorem set_encN {l : List Nat} {i v : Nat} (h : i < l.length) : setI (.own (encN l)) (.int (i : Int)) (.int (v : Int)) = .ok (.own (encN (l.set i v))) := by
  rw [setI_at (by omega) (by rw [encN_len]; omega)]
  simp [encN, List.map_set]
theorem b62_nat {i : Nat} (h : i ≤ 1000000) : B62 (i : Int) = true := b62_c (by omega) (by omega)
theorem rng_nat (m : Nat) : rng 0 (m : Int) = encN (List.range m) := by
  unfold rng encN
  simp
theorem p_listR {k m : Nat} (h : m ≤ 1000000) : primO (.listR k) [.int (m : Int)] = .ok (.own (encN (List.range m))) := by
  rw [primO_eq]
  show (if B62 (m : Int) = true then Res.ok (rng 0 (m : Int)) else .bad).bind own? = _
  rw [if_pos (b62_nat h), rng_nat]
  show own? _ = _
  rw [own?_ite, if_pos (sl_le (by rw [encN_len, List.length_range]; exact h) (Nat.le_refl _))]
theorem p_mulZ {m : Nat} (h : m ≤ 1000000) : primO .mul [.lst [.int 0], .int (m : Int)] = .ok (.own (encN (List.replicate m 0))) := by
  rw [primO_eq]
  show (if B62 (m : Int) = true then own? (List.replicate (m : Int).toNat [D.int 0]).flatten else .bad) = _
  rw [if_pos (b62_nat h)]
  have e : (List.replicate (m : Int).toNat [D.int 0]).flatten = encN (List.replicate m 0) := by
    unfold encN
    simp
  rw [e, own?_ite, if_pos (sl_le (by rw [encN_len, List.length_replicate]; exact h) (Nat.le_refl _))]
def unB : List CS := [.par [8, 9] [.prim .idx [.var 2, .var 4], .prim .idx [.var 2, .var 5]], .ite (.prim .gt [.var 8, .var 9]) [.asg (.tp [.sub 2 (.var 4), .sub 2 (.var 5)]) (.tup [.var 9, .var 8]), .par [8, 9] [.var 9, .var 8]] [], .expr (.mut .append 3 [.tup [.var 8, .var 9]])]
theorem un_step {Γ : Tbl} (n m : Nat) {st : List Nat × List (Nat × Nat)} {p : Nat × Nat} {net : D} {s4 s5 s8 s9 : Slot} (h : Plc m st.1) (h1 : p.1 < m) (h2 : p.2 < m) (hl : st.2.length < 100) (f4 : Fr s4) (f5 : Fr s5) (f8 : Fr s8) (f9 : Fr s9) :
    ∃ t4 t5 t8 t9, forB Γ (callF Γ n) (.tp [.nm 4, .nm 5]) unB (.tup [.int p.1, .int p.2]) [.val true (.fz net), .emp, .val false (.own (encN st.1)), .val false (.own (encS st.2)), s4, s5, .emp, .emp, s8, s9]
      = .ok (.nx, [.val true (.fz net), .emp, .val false (.own (encN (un1 st p).1)), .val false (.own (encS (un1 st p).2)), t4, t5, .emp, .emp, t8, t9]) ∧ Fr t4 ∧ Fr t5 ∧ Fr t8 ∧ Fr t9 := by
  obtain ⟨a, b⟩ := p
  have l1 : a < st.1.length := by rw [h.len]; exact h1
  have l2 : b < st.1.length := by rw [h.len]; exact h2
  have sl : 2 ≤ SL := by decide
  have sl3 : st.2.length < SL := by
    have : 1000 ≤ SL := by decide
    omega
  generalize hx : st.1.getD a 0 = x
  generalize hy : st.1.getD b 0 = y
  have i1 := at_encN l1
  have i2 := at_encN l2
  rw [hx] at i1
  rw [hy] at i2
  have l3 : b < (st.1.set a y).length := by rw [List.length_set]; exact l2
  by_cases c : y < x
  · have e : un1 st (a, b) = ((st.1.set a y).set b x, st.2 ++ [(y, x)]) := by
      unfold un1
      dsimp only
      rw [hx, hy, Nat.min_eq_right (by omega), Nat.max_eq_left (by omega)]
    rw [e]
    have m1 := set_encN (v := y) l1
    have m2 := set_encN (v := x) l3
    refine ⟨.val false (.fz (.int a)), .val false (.fz (.int b)), .val false (.fz (.int y)), .val false (.fz (.int x)), ?_, .val, .val, .val, .val⟩
    simp [forB, unB, stO_fr f4, stO_fr f5, stO_fr f8, stO_fr f9, i1, i2, c, sl, sl3, m1, m2, encS]
  · have e : un1 st (a, b) = (st.1, st.2 ++ [(x, y)]) := by
      unfold un1
      dsimp only
      rw [hx, hy, Nat.min_eq_left (by omega), Nat.max_eq_right (by omega)]
      refine Prod.ext ?_ rfl
      refine List.ext_getElem (by simp) fun i q1 q2 => ?_
      have ha : st.1[a] = x := by rw [← hx, List.getD_eq_getElem?_getD, List.getElem?_eq_getElem l1] <;> rfl
      have hb : st.1[b] = y := by rw [← hy, List.getD_eq_getElem?_getD, List.getElem?_eq_getElem l2] <;> rfl
      simp only [List.getElem_set]
      split
      · rename_i z
        subst z
        exact hb.symm
      · split
        · rename_i z
          subst z
          exact ha.symm
        · rfl
    rw [e]
    refine ⟨.val false (.fz (.int a)), .val false (.fz (.int b)), .val false (.fz (.int x)), .val false (.fz (.int y)), ?_, .val, .val, .val, .val⟩
    simp [forB, unB, stO_fr f4, stO_fr f5, stO_fr f8, stO_fr f9, i1, i2, c, sl, sl3, encS]
theorem un_loop {Γ : Tbl} (n m : Nat) {s : List (Nat × Nat)} {net : D} (hs : okS m s) (hl : s.length ≤ 60) :
    ∃ t4 t5 t8 t9, forL (forB Γ (callF Γ n) (.tp [.nm 4, .nm 5]) unB) (encS s) [.val true (.fz net), .emp, .val false (.own (encN (List.range m))), .val false (.own []), .emp, .emp, .emp, .emp, .emp, .emp]
      = .ok (.nx, [.val true (.fz net), .emp, .val false (.own (encN (unS m s).1)), .val false (.own (encS (unS m s).2)), t4, t5, .emp, .emp, t8, t9]) ∧ Fr t4 ∧ Fr t5 ∧ Fr t8 ∧ Fr t9 := by
  obtain ⟨e', h1, t4, t5, t8, t9, he, f4, f5, f8, f9⟩ := forL_inv (step := forB Γ (callF Γ n) (.tp [.nm 4, .nm 5]) unB) (its := encS s) (k := 0) (env0 := [.val true (.fz net), .emp, .val false (.own (encN (List.range m))), .val false (.own []), .emp, .emp, .emp, .emp, .emp, .emp])
    (fun k e => ∃ t4 t5 t8 t9, e = [.val true (.fz net), .emp, .val false (.own (encN (unS m (s.take k)).1)), .val false (.own (encS (unS m (s.take k)).2)), t4, t5, .emp, .emp, t8, t9] ∧ Fr t4 ∧ Fr t5 ∧ Fr t8 ∧ Fr t9) ⟨.emp, .emp, .emp, .emp, rfl, .emp, .emp, .emp, .emp⟩ fun i d e hd ⟨t4, t5, t8, t9, he, f4, f5, f8, f9⟩ => by
      subst he
      rw [Nat.zero_add]
      unfold encS at hd
      rw [List.getElem?_map] at hd
      cases hi : s[i]? with
      | none => rw [hi] at hd; cases hd
      | some p =>
        rw [hi] at hd
        cases hd
        obtain ⟨a1, a2, a3⟩ := hs p (List.mem_of_getElem? hi)
        have ht : okS m (s.take i) := fun q hq => hs q (List.mem_of_mem_take hq)
        obtain ⟨b1, b2, b3, b4⟩ := plc_unS (st := (List.range m, [])) ht (plc_range m) (fun q hq => by cases hq) (fun q hq => by cases hq)
        have hlen : (unS m (s.take i)).2.length < 100 := by
          show ((s.take i).foldl un1 (List.range m, [])).2.length < 100
          rw [b4, List.length_take]
          simp
          omega
        obtain ⟨u4, u5, u8, u9, c1, c2, c3, c4, c5⟩ := un_step (Γ := Γ) n m (net := net) (p := p) b1 a1 a2 hlen f4 f5 f8 f9
        refine ⟨_, .inl c1, u4, u5, u8, u9, ?_, c2, c3, c4, c5⟩
        rw [take_succ_get hi, unS_snoc]
        rfl
  have hk : s.take (0 + (encS s).length) = s := by
    unfold encS
    rw [Nat.zero_add, List.length_map, List.take_length]
  rw [hk] at he
  subst he
  exact ⟨t4, t5, t8, t9, h1, f4, f5, f8, f9⟩
end Rx

set_option Elab.async false
set_option linter.all false
set_option autoImplicit false
set_option maxRecDepth 100000
set_option maxHeartbeats 1000000
namespace Rx
open PySem
theorem inv_loop {Γ : Tbl} (n m : Nat) {l : List Nat} {net : D} {s3 s4 s5 s8 s9 : Slot} (h : Plc m l) :
    ∃ t6 t7, forL (forB Γ (callF Γ n) (.tp [.nm 6, .nm 7]) [.asg (.sub 1 (.var 7)) (.var 6)]) ((encN l).mapIdx fun i d => D.tup [.int (i : Nat), d]) [.val true (.fz net), .val false (.own (encN (List.replicate m 0))), .lck, s3, s4, s5, .emp, .emp, s8, s9]
      = .ok (.nx, [.val true (.fz net), .val false (.own (encN (invK m l m))), .lck, s3, s4, s5, t6, t7, s8, s9]) ∧ Fr t6 ∧ Fr t7 := by
  have sl : 2 ≤ SL := by decide
  obtain ⟨e', h1, t6, t7, he, f6, f7⟩ := forL_inv (step := forB Γ (callF Γ n) (.tp [.nm 6, .nm 7]) [.asg (.sub 1 (.var 7)) (.var 6)]) (its := (encN l).mapIdx fun i d => D.tup [.int (i : Nat), d]) (k := 0) (env0 := [.val true (.fz net), .val false (.own (encN (List.replicate m 0))), .lck, s3, s4, s5, .emp, .emp, s8, s9])
    (fun k e => ∃ t6 t7, e = [.val true (.fz net), .val false (.own (encN (invK m l k))), .lck, s3, s4, s5, t6, t7, s8, s9] ∧ Fr t6 ∧ Fr t7) ⟨.emp, .emp, rfl, .emp, .emp⟩ fun i d e hd ⟨t6, t7, he, f6, f7⟩ => by
      subst he
      rw [Nat.zero_add]
      rw [List.getElem?_mapIdx] at hd
      unfold encN at hd
      rw [List.getElem?_map] at hd
      cases hi : l[i]? with
      | none => rw [hi] at hd; cases hd
      | some v =>
        rw [hi] at hd
        cases hd
        have hm : i < m := by
          have := (List.getElem?_eq_some_iff.mp hi).1
          rw [h.len] at this
          exact this
        have hv : l.getD i 0 = v := by rw [List.getD_eq_getElem?_getD, hi] <;> rfl
        have lt := h.lt i hm
        rw [hv] at lt
        have m1 := set_encN (l := invK m l i) (i := v) (v := i) (by rw [invK_len]; exact lt)
        have e2 : invK m l (i + 1) = (invK m l i).set v i := by
          show (invK m l i).set (l.getD i 0) i = _
          rw [hv]
        refine ⟨_, .inl ?_, .val false (.fz (.int i)), .val false (.fz (.int v)), rfl, .val, .val⟩
        rw [e2]
        simp [forB, stO_fr f6, stO_fr f7, m1]
  have hk : 0 + ((encN l).mapIdx fun i d => D.tup [.int (i : Nat), d]).length = m := by
    rw [List.length_mapIdx, encN_len, h.len, Nat.zero_add]
  rw [hk] at he
  subst he
  exact ⟨t6, t7, h1, f6, f7⟩
end Rx

set_option Elab.async false
set_option linter.all false
set_option autoImplicit false
set_option maxRecDepth 100000
set_option maxHeartbeats 1000000
namespace Rx
open PySem
section
variable {Γ : Tbl} {cl : Call}
theorem st_nx {s : CS} {r : List CS} {env env' : Env} (h : evS Γ cl s env = .ok (.nx, env')) : evSs Γ cl (s :: r) env = evSs Γ cl r env' := by
  rw [evSs_cons, h]
  rfl
theorem st_rt {s : CS} {r : List CS} {env env' : Env} {w : Val} (h : evS Γ cl s env = .ok (.rt w, env')) : evSs Γ cl (s :: r) env = .ok (.rt w, env') := by
  rw [evSs_cons, h]
  rfl
/-- a loop as a fold -/
theorem forL_fold {X σ : Type} {step : D → Env → Res (Fl × Env)} (enc : X → D) (f : σ → X → σ) (R : σ → Env → Prop) : ∀ {xs : List X} {st : σ} {env0 : Env}, R st env0 →
    (∀ x ∈ xs, ∀ st e, R st e → ∃ e', (step (enc x) e = .ok (.nx, e') ∨ step (enc x) e = .ok (.ct, e')) ∧ R (f st x) e') → ∃ e', forL step (xs.map enc) env0 = .ok (.nx, e') ∧ R (xs.foldl f st) e'
  | [], st, env0, h0, _ => ⟨env0, rfl, h0⟩
  | x :: xs, st, env0, h0, hs => by
    obtain ⟨e1, h1, h2⟩ := hs x List.mem_cons_self st env0 h0
    obtain ⟨e2, h3, h4⟩ := forL_fold enc f R (xs := xs) h2 fun y hy => hs y (List.mem_cons_of_mem _ hy)
    refine ⟨e2, ?_, h4⟩
    show (step (enc x) env0).bind _ = _
    rcases h1 with h1 | h1 <;> (rw [h1]; exact h3)
/-- a loop left at the first that fits -/
theorem forL_find {X : Type} {step : D → Env → Res (Fl × Env)} (enc : X → D) (p : X → Bool) (w : X → Val) (R : Env → Prop) : ∀ {xs : List X} {env0 : Env}, R env0 →
    (∀ x ∈ xs, p x = true → ∀ e, R e → ∃ e', step (enc x) e = .ok (.rt (w x), e')) →
    (∀ x ∈ xs, p x = false → ∀ e, R e → ∃ e', (step (enc x) e = .ok (.nx, e') ∨ step (enc x) e = .ok (.ct, e')) ∧ R e') →
    (∃ x, xs.find? p = some x ∧ ∃ e', forL step (xs.map enc) env0 = .ok (.rt (w x), e')) ∨ (xs.find? p = none ∧ ∃ e', forL step (xs.map enc) env0 = .ok (.nx, e') ∧ R e')
  | [], env0, h0, _, _ => .inr ⟨rfl, env0, rfl, h0⟩
  | x :: xs, env0, h0, h1, h2 => by
    cases hp : p x with
    | true =>
      obtain ⟨e', h3⟩ := h1 x List.mem_cons_self hp env0 h0
      refine .inl ⟨x, by rw [List.find?_cons, hp], e', ?_⟩
      show (step (enc x) env0).bind _ = _
      rw [h3]
      rfl
    | false =>
      obtain ⟨e1, h3, h4⟩ := h2 x List.mem_cons_self hp env0 h0
      have key : ∀ r, forL step (xs.map enc) e1 = r → forL step ((x :: xs).map enc) env0 = r := fun r hr => by
        show (step (enc x) env0).bind _ = _
        rcases h3 with h3 | h3 <;> (rw [h3]; exact hr)
      rw [List.find?_cons, hp]
      rcases forL_find enc p w R (xs := xs) h4 (fun y hy => h1 y (List.mem_cons_of_mem _ hy)) (fun y hy => h2 y (List.mem_cons_of_mem _ hy)) with ⟨y, a, e', b⟩ | ⟨a, e', b, c⟩
      · exact .inl ⟨y, a, e', key _ b⟩
      · exact .inr ⟨a, e', key _ b, c⟩
/-- a loop that only keeps -/
theorem forL_all {step : D → Env → Res (Fl × Env)} (R : Env → Prop) : ∀ {xs : List D} {env0 : Env}, R env0 →
    (∀ x ∈ xs, ∀ e, R e → ∃ e', (step x e = .ok (.nx, e') ∨ step x e = .ok (.ct, e')) ∧ R e') → ∃ e', forL step xs env0 = .ok (.nx, e') ∧ R e'
  | [], env0, h0, _ => ⟨env0, rfl, h0⟩
  | x :: xs, env0, h0, hs => by
    obtain ⟨e1, h1, h2⟩ := hs x List.mem_cons_self env0 h0
    obtain ⟨e2, h3, h4⟩ := forL_all R (xs := xs) h2 fun y hy => hs y (List.mem_cons_of_mem _ hy)
    refine ⟨e2, ?_, h4⟩
    show (step x env0).bind _ = _
    rcases h1 with h1 | h1 <;> (rw [h1]; exact h3)
/-- a comprehension as filter and map -/
theorem compL_map {X : Type} {step : D → Env → Res (Option D × Env)} (enc : X → D) (g : X → Option D) (R : Env → Prop) : ∀ {xs : List X} {acc : List D} {env0 : Env}, R env0 → acc.length + xs.length ≤ SL →
    (∀ x ∈ xs, ∀ e, R e → ∃ e', step (enc x) e = .ok (g x, e') ∧ R e') → ∃ e', compL step (xs.map enc) acc env0 = .ok (acc ++ xs.filterMap g, e') ∧ R e'
  | [], acc, env0, h0, _, _ => ⟨env0, by rw [List.filterMap_nil, List.append_nil]; rfl, h0⟩
  | x :: xs, acc, env0, h0, hl, hs => by
    obtain ⟨e1, h1, h2⟩ := hs x List.mem_cons_self env0 h0
    rw [List.length_cons] at hl
    cases hg : g x with
    | none =>
      rw [hg] at h1
      obtain ⟨e2, h3, h4⟩ := compL_map enc g R (xs := xs) (acc := acc) h2 (by omega) fun y hy => hs y (List.mem_cons_of_mem _ hy)
      refine ⟨e2, ?_, h4⟩
      show (step (enc x) env0).bind _ = _
      rw [h1, List.filterMap_cons, hg]
      exact h3
    | some d =>
      rw [hg] at h1
      obtain ⟨e2, h3, h4⟩ := compL_map enc g R (xs := xs) (acc := acc ++ [d]) h2 (by rw [List.length_append, List.length_singleton]; omega) fun y hy => hs y (List.mem_cons_of_mem _ hy)
      refine ⟨e2, ?_, h4⟩
      show (step (enc x) env0).bind _ = _
      rw [h1, List.filterMap_cons, hg]
      show (if acc.length < SL then compL step (xs.map enc) (acc ++ [d]) e1 else .bad) = _
      rw [if_pos (by omega), h3, List.append_assoc]
      rfl
theorem compL_m {X : Type} {step : D → Env → Res (Option D × Env)} (enc : X → D) (g : X → D) (R : Env → Prop) {xs : List X} {env0 : Env} (h0 : R env0) (hl : xs.length ≤ 1000000)
    (hs : ∀ x ∈ xs, ∀ e, R e → ∃ e', step (enc x) e = .ok (some (g x), e') ∧ R e') : ∃ e', compL step (xs.map enc) [] env0 = .ok (xs.map g, e') ∧ R e' := by
  obtain ⟨e', h1, h2⟩ := compL_map enc (fun x => some (g x)) R (xs := xs) (acc := []) h0 (by rw [List.length_nil, Nat.zero_add]; exact sl_le hl (Nat.le_refl _)) hs
  refine ⟨e', ?_, h2⟩
  rw [h1, List.nil_append]
  have : List.filterMap (fun x => some (g x)) xs = xs.map g := by
    rw [← List.filterMap_eq_map]
    rfl
  rw [this]
theorem compL_f {X : Type} {step : D → Env → Res (Option D × Env)} (enc : X → D) (p : X → Bool) (g : X → D) (R : Env → Prop) {xs : List X} {env0 : Env} (h0 : R env0) (hl : xs.length ≤ 1000000)
    (hs : ∀ x ∈ xs, ∀ e, R e → ∃ e', step (enc x) e = .ok (if p x = true then some (g x) else none, e') ∧ R e') : ∃ e', compL step (xs.map enc) [] env0 = .ok ((xs.filter p).map g, e') ∧ R e' := by
  obtain ⟨e', h1, h2⟩ := compL_map enc (fun x => if p x = true then some (g x) else none) R (xs := xs) (acc := []) h0 (by rw [List.length_nil, Nat.zero_add]; exact sl_le hl (Nat.le_refl _)) hs
  refine ⟨e', ?_, h2⟩
  rw [h1, List.nil_append]
  have : List.filterMap (fun x => if p x = true then some (g x) else none) xs = (xs.filter p).map g := by
    clear h1 hs hl
    induction xs with
    | nil => rfl
    | cons x xs ih =>
      rw [List.filterMap_cons, List.filter_cons]
      cases p x <;> simp [ih]
  rw [this]
end
end Rx

set_option Elab.async false
set_option linter.all false
set_option autoImplicit false
set_option maxRecDepth 100000
set_option maxHeartbeats 1000000
namespace Rx
open PySem
def k_untangled : Fn := { np := 1, ns := 10, pins := [0], body := [.par [2, 3] [.prim (.listR 1) [.prim (.fld "wires") [.var 0]], .lst []], .for (.tp [.nm 4, .nm 5]) .plain [.prim (.fld "swaps") [.var 0]] unB, .asg (.nm 1) (.prim .mul [.lst [.con (.int 0)], .prim (.fld "wires") [.var 0]]), .for (.tp [.nm 6, .nm 7]) .enum [.var 2] [.asg (.sub 1 (.var 7)) (.var 6)], .ret (.tup [.make "Net" [.prim (.fld "wires") [.var 0], .prim .tuple [.var 3]], .prim .tuple [.var 1]])] }
@[simp] theorem it_enum {l : List D} : iterO .enum [.lst l] = .ok (l.mapIdx fun i d => .tup [.int (i : Nat), d]) := by rw [iterO_eq]; rfl
def unD (m : Nat) (s : List (Nat × Nat)) : D := .tup [netD m (unS m s).2, .tup (encN (invK m (unS m s).1 m))]
theorem untangled_ok {Γ : Tbl} (k : Chk Γ) (q : NetK Γ) (n : Nat) (hf : Γ.fn "untangled" = some k_untangled) {m : Nat} {s : List (Nat × Nat)} (m1 : 1 ≤ m) (m2 : m ≤ 10) (hs : okS m s) (hl : s.length ≤ 60) :
    ∃ o, callF Γ (n + 5) "untangled" [.fz (netD m s)] = .ok (.fz (unD m s), o) := by
  rw [callF_fn hf rfl]
  obtain ⟨b1, b2, b3, b4⟩ := plc_unS (st := (List.range m, [])) hs (plc_range m) (fun q hq => by cases hq) (fun q hq => by cases hq)
  have hl2 : (unS m s).2.length ≤ 60 := by
    show (s.foldl un1 (List.range m, [])).2.length ≤ 60
    rw [b4]
    simpa using hl
  obtain ⟨t4, t5, t8, t9, e1, f4, f5, f8, f9⟩ := un_loop (Γ := Γ) (n + 4) m (net := netD m s) hs hl
  obtain ⟨t6, t7, e2, f6, f7⟩ := inv_loop (Γ := Γ) (n + 4) m (l := (unS m s).1) (net := netD m s) (s3 := .val false (.own (encS (unS m s).2))) (s4 := t4) (s5 := t5) (s8 := t8) (s9 := t9) b1
  have pr := p_listR (k := 1) (m := m) (by omega)
  have pm := p_mulZ (m := m) (by omega)
  have sl : 2 ≤ SL := sl_le (m := 2) (Nat.le_refl _) (by omega)
  have s1 : 1 ≤ SL := sl_le (m := 1) (Nat.le_refl _) (by omega)
  have s0 : 0 ≤ SL := Nat.zero_le _
  refine ⟨[.val true (.fz (netD m s))], (congrArg (fin 1) (st_nx (env' := [.val true (.fz (netD m s)), .emp, .val false (.own (encN (List.range m))), .val false (.own []), .emp, .emp, .emp, .emp, .emp, .emp]) ?a)).trans
    ((congrArg (fin 1) (st_nx (env' := [.val true (.fz (netD m s)), .emp, .val false (.own (encN (unS m s).1)), .val false (.own (encS (unS m s).2)), t4, t5, .emp, .emp, t8, t9]) ?b)).trans
    ((congrArg (fin 1) (st_nx (env' := [.val true (.fz (netD m s)), .val false (.own (encN (List.replicate m 0))), .val false (.own (encN (unS m s).1)), .val false (.own (encS (unS m s).2)), t4, t5, .emp, .emp, t8, t9]) ?c)).trans
    ((congrArg (fin 1) (st_nx (env' := [.val true (.fz (netD m s)), .val false (.own (encN (invK m (unS m s).1 m))), .val false (.own (encN (unS m s).1)), .val false (.own (encS (unS m s).2)), t4, t5, t6, t7, t8, t9]) ?d)).trans ?e)))⟩
  case a => simp [k_untangled, pr]
  case b =>
    simp
    rw [e1]
    simp
  case c => simp [pm, s1, Val.frz]
  case d =>
    simp
    rw [e2]
    simp
  case e =>
    simp
    rw [r_make k q n (m := m) (s := (unS m s).2) (env' := [.val true (.fz (netD m s)), .val false (.own (encN (invK m (unS m s).1 m))), .val false (.own (encN (unS m s).1)), .val false (.own (encS (unS m s).2)), t4, t5, t6, t7, t8, t9]) m1 m2 b2 hl2 (by simp [Val.frz])]
    simp [Val.frz, sl, unD]
end Rx

set_option Elab.async false
set_option linter.all false
set_option autoImplicit false
set_option maxRecDepth 100000
set_option maxHeartbeats 1000000
namespace Rx
open PySem
mutual
/-- ints, texts, None, tuples and lists of these -/
def D.pur : D → Bool
  | .non => true
  | .int _ => true
  | .str _ => true
  | .tup l => D.purs l
  | .lst l => D.purs l
  | _ => false
def D.purs : List D → Bool
  | [] => true
  | d :: r => D.pur d && D.purs r
end
theorem purs_iff : ∀ {l : List D}, D.purs l = true ↔ ∀ d ∈ l, d.pur = true
  | [] => by simp [D.purs]
  | d :: r => by rw [D.purs, Bool.and_eq_true, purs_iff]; simp
theorem str_beq (x y : Str) : (x == y) = true ↔ x = y := by
  constructor
  · intro h; exact eq_of_beq h
  · intro h; subst h; exact beq_self_eq_true _
mutual
theorem eqv_pur : ∀ (a b : D), a.pur = true → b.pur = true → (PyData.eqv a.py b.py = true ↔ a = b)
  | .non, b, _, hb => by cases b <;> simp_all [D.py, PyData.eqv, D.pur]
  | .int i, b, _, hb => by
    cases b <;> simp_all [D.py, PyData.eqv, D.pur]
  | .str x, b, _, hb => by
    cases b <;> simp_all [D.py, PyData.eqv, D.pur]
  | .tup l, b, ha, hb => by
    cases b with
    | tup m =>
      have := eqvs_pur l m (by simpa [D.pur] using ha) (by simpa [D.pur] using hb)
      simp [D.py, PyData.eqv, this]
    | _ => simp_all [D.py, PyData.eqv, D.pur]
  | .lst l, b, ha, hb => by
    cases b with
    | lst m =>
      have := eqvs_pur l m (by simpa [D.pur] using ha) (by simpa [D.pur] using hb)
      simp [D.py, PyData.eqv, this]
    | _ => simp_all [D.py, PyData.eqv, D.pur]
  | .bl _, _, ha, _ => by simp [D.pur] at ha
  | .dk _, _, ha, _ => by simp [D.pur] at ha
  | .dt _, _, ha, _ => by simp [D.pur] at ha
  | .ins _ _, _, ha, _ => by simp [D.pur] at ha
  | .scr _, _, ha, _ => by simp [D.pur] at ha
theorem eqvs_pur : ∀ (a b : List D), D.purs a = true → D.purs b = true → (PyData.eqvAll (D.pys a) (D.pys b) = true ↔ a = b)
  | [], [], _, _ => by simp [D.pys, PyData.eqvAll]
  | [], _ :: _, _, _ => by simp [D.pys, PyData.eqvAll]
  | _ :: _, [], _, _ => by simp [D.pys, PyData.eqvAll]
  | x :: a, y :: b, ha, hb => by
    rw [D.purs, Bool.and_eq_true] at ha hb
    have h1 := eqv_pur x y ha.1 hb.1
    have h2 := eqvs_pur a b ha.2 hb.2
    rw [D.pys, D.pys, PyData.eqvAll, Bool.and_eq_true, h1, h2]
    simp
end
theorem eqD_pur {a b : D} (ha : a.pur = true) (hb : b.pur = true) : (a.eqD b = true ↔ a = b) := eqv_pur a b ha hb
mutual
theorem eqv_self : ∀ (n : Nat) (a : D), a.fit n = true → PyData.eqv a.py a.py = true
  | _, .non, _ => rfl
  | _, .bl b, _ => by cases b <;> rfl
  | _, .int i, _ => by simp [D.py, PyData.eqv]
  | _, .str x, _ => by simp [D.py, PyData.eqv]
  | n + 1, .tup l, h => by rw [D.py, PyData.eqv]; exact eqvs_self n l (by simpa [D.fit] using h)
  | n + 1, .lst l, h => by rw [D.py, PyData.eqv]; exact eqvs_self n l (by simpa [D.fit] using h)
  | 0, .tup l, h => by simp [D.fit] at h
  | 0, .lst l, h => by simp [D.fit] at h
  | _, .dk _, h => by simp [D.fit] at h
  | _, .dt _, h => by simp [D.fit] at h
  | _, .ins _ _, h => by simp [D.fit] at h
  | _, .scr _, h => by simp [D.fit] at h
theorem eqvs_self : ∀ (n : Nat) (a : List D), D.fits n a = true → PyData.eqvAll (D.pys a) (D.pys a) = true
  | _, [], _ => rfl
  | n, x :: a, h => by
    rw [D.fits, Bool.and_eq_true] at h
    rw [D.pys, PyData.eqvAll, eqv_self n x h.1, eqvs_self n a h.2]
    rfl
end
theorem p_eq_self {a : D} (h : a.fit 40 = true) : primO .eq [a, a] = .ok (.fz (.bl true)) := by
  rw [primO_eq]
  show (if (a.fit 40 && a.fit 40) = true then rB (a.eqD a) else .bad) = _
  rw [h, show a.eqD a = true from eqv_self 40 a h]
  rfl
theorem p_ne_self {a : D} (h : a.fit 40 = true) : primO .ne [a, a] = .ok (.fz (.bl false)) := by
  rw [primO_eq]
  show (if (a.fit 40 && a.fit 40) = true then rB (!a.eqD a) else .bad) = _
  rw [h, show a.eqD a = true from eqv_self 40 a h]
  rfl
theorem p_eq_pur {a b : D} (h : a.fit 40 = true) (h' : b.fit 40 = true) (ha : a.pur = true) (hb : b.pur = true) [Decidable (a = b)] : primO .eq [a, b] = .ok (.fz (.bl (decide (a = b)))) := by
  rw [primO_eq]
  show (if (a.fit 40 && b.fit 40) = true then rB (a.eqD b) else .bad) = _
  have e : a.eqD b = decide (a = b) := by rw [Bool.eq_iff_iff, eqD_pur ha hb]; simp
  rw [h, h', e]
  rfl
theorem p_ne_pur {a b : D} (h : a.fit 40 = true) (h' : b.fit 40 = true) (ha : a.pur = true) (hb : b.pur = true) [Decidable (a = b)] : primO .ne [a, b] = .ok (.fz (.bl (!decide (a = b)))) := by
  rw [primO_eq]
  show (if (a.fit 40 && b.fit 40) = true then rB (!a.eqD b) else .bad) = _
  have e : a.eqD b = decide (a = b) := by rw [Bool.eq_iff_iff, eqD_pur ha hb]; simp
  rw [h, h', e]
  rfl
theorem fits_iff {n : Nat} : ∀ {l : List D}, D.fits n l = true ↔ ∀ d ∈ l, d.fit n = true
  | [] => by simp [D.fits]
  | d :: r => by rw [D.fits, Bool.and_eq_true, fits_iff]; simp
theorem fit_tup {n : Nat} {l : List D} : (D.tup l).fit (n + 1) = D.fits n l := rfl
theorem fit_lst {n : Nat} {l : List D} : (D.lst l).fit (n + 1) = D.fits n l := rfl
@[simp] theorem fit_int {n : Nat} {i : Int} : (D.int i).fit n = true := by cases n <;> rfl
/-! ### repr -/
mutual
def D.cnt : D → Nat
  | .tup l => 1 + D.cnts l
  | .lst l => 1 + D.cnts l
  | _ => 1
def D.cnts : List D → Nat
  | [] => 0
  | d :: r => D.cnt d + D.cnts r
end
mutual
/-- ints below 10 ** 24, no texts -/
def D.sml : D → Bool
  | .non => true
  | .bl _ => true
  | .int i => decide (i.natAbs < 10 ^ 24)
  | .tup l => D.smls l
  | .lst l => D.smls l
  | _ => false
def D.smls : List D → Bool
  | [] => true
  | d :: r => D.sml d && D.smls r
end
theorem smls_iff : ∀ {l : List D}, D.smls l = true ↔ ∀ d ∈ l, d.sml = true
  | [] => by simp [D.smls]
  | d :: r => by rw [D.smls, Bool.and_eq_true, smls_iff]; simp
theorem textFrom_le : ∀ (ts : List Str) (k : Nat) (acc : Str), (textFrom k acc ts).length ≤ acc.length + piled ts
  | [], k, acc => by show acc.length ≤ _; omega
  | t :: r, k, acc => by
    have h := textFrom_le r (k + 1) (acc ++ (if k > 0 then ", " else "" : String) ++ t)
    have e : (acc ++ (if k > 0 then ", " else "" : String) ++ t).length = acc.length + (if k > 0 then 2 else 0) + t.length := by
      rw [strLen_append, strLen_append]
      split <;> rfl
    rw [e] at h
    show (textFrom (k + 1) _ r).length ≤ _
    rw [piled_cons]
    have : (if k > 0 then 2 else 0) ≤ 2 := by split <;> omega
    omega
theorem listText_le (ts : List Str) : (listText ts).length ≤ piled ts + 2 := by
  have h := textFrom_le ts 0 "["
  unfold listText
  rw [strLen_append]
  have e1 : (("[" : String) : Str).length = 1 := rfl
  have e2 : (("]" : String) : Str).length = 1 := rfl
  rw [e1] at h
  rw [e2]
  omega
theorem tupleText_le (ts : List Str) : (tupleText ts).length ≤ piled ts + 3 := by
  unfold tupleText
  rw [strLen_append, strLen_append]
  have e1 : ((("(" : String) : Str)).length = 1 := rfl
  have e3 : (((if ts.length == 1 then ",)" else ")" : String) : Str)).length ≤ 2 := by split <;> decide
  rw [e1]
  by_cases h : ts = []
  · subst h
    have : (Str.join ", " []).length = 0 := rfl
    omega
  · have := join_length_add ts h
    omega
mutual
theorem shown_le : ∀ (d : D), d.sml = true → d.py.showable = true ∧ d.py.shown.length + 2 ≤ 30 * d.cnt
  | .non, _ => ⟨rfl, by decide⟩
  | .bl b, _ => ⟨rfl, by cases b <;> decide⟩
  | .int i, h => by
    have h' : i.natAbs < 10 ^ 24 := of_decide_eq_true h
    have h1 := int_text_length_le10 (by omega) h'
    refine ⟨?_, ?_⟩
    · show decide (i.natAbs.log2 < 1920) = true
      refine decide_eq_true ?_
      by_cases h0 : i.natAbs = 0
      · rw [h0]; decide
      · rw [Nat.log2_lt h0]
        exact Nat.lt_of_lt_of_le h' (by decide +kernel)
    · show (Str.ofString (toString i)).length + 2 ≤ 30 * 1
      rw [ofString_length]
      omega
  | .tup l, h => by
    obtain ⟨h1, h2⟩ := showns_le l h
    refine ⟨h1, ?_⟩
    show (tupleText (PyData.shownAll (D.pys l))).length + 2 ≤ 30 * (1 + D.cnts l)
    have := tupleText_le (PyData.shownAll (D.pys l))
    omega
  | .lst l, h => by
    obtain ⟨h1, h2⟩ := showns_le l h
    refine ⟨h1, ?_⟩
    show (listText (PyData.shownAll (D.pys l))).length + 2 ≤ 30 * (1 + D.cnts l)
    have := listText_le (PyData.shownAll (D.pys l))
    omega
  | .str _, h => by simp [D.sml] at h
  | .dk _, h => by simp [D.sml] at h
  | .dt _, h => by simp [D.sml] at h
  | .ins _ _, h => by simp [D.sml] at h
  | .scr _, h => by simp [D.sml] at h
theorem showns_le : ∀ (l : List D), D.smls l = true → PyData.showableAll (D.pys l) = true ∧ piled (PyData.shownAll (D.pys l)) ≤ 30 * D.cnts l
  | [], _ => ⟨rfl, by decide⟩
  | d :: r, h => by
    rw [D.smls, Bool.and_eq_true] at h
    obtain ⟨a1, a2⟩ := shown_le d h.1
    obtain ⟨b1, b2⟩ := showns_le r h.2
    refine ⟨by rw [D.pys, PyData.showableAll, a1, b1]; rfl, ?_⟩
    rw [D.pys, PyData.shownAll, piled_cons, D.cnts]
    omega
end
theorem p_reprT {l : List D} (h : D.fits 40 l = true) (h1 : D.smls l = true) (h2 : D.cnts l ≤ 3000) : primO .repr [.tup l] = .ok (.fz (.str (D.tup l).py.shown)) := by
  rw [primO_eq]
  obtain ⟨a1, a2⟩ := shown_le (.tup l) h1
  show (if (D.fits 40 l && (D.tup l).py.showable && decide ((D.tup l).py.shown.length ≤ 100000)) = true then Res.ok (Val.fz (.str (D.tup l).py.shown)) else .bad) = _
  have : (D.tup l).cnt = 1 + D.cnts l := rfl
  rw [h, a1, decide_eq_true (by omega)]
  rfl
theorem p_reprL {l : List D} (h : D.fits 40 l = true) (h1 : D.smls l = true) (h2 : D.cnts l ≤ 3000) : primO .repr [.lst l] = .ok (.fz (.str (D.lst l).py.shown)) := by
  rw [primO_eq]
  obtain ⟨a1, a2⟩ := shown_le (.lst l) h1
  show (if (D.fits 40 l && (D.lst l).py.showable && decide ((D.lst l).py.shown.length ≤ 100000)) = true then Res.ok (Val.fz (.str (D.lst l).py.shown)) else .bad) = _
  have : (D.lst l).cnt = 1 + D.cnts l := rfl
  rw [h, a1, decide_eq_true (by omega)]
  rfl
end Rx

set_option Elab.async false
set_option linter.all false
set_option autoImplicit false
set_option maxRecDepth 100000
set_option maxHeartbeats 1000000
namespace Rx
open PySem
theorem encS_pur (s : List (Nat × Nat)) : D.purs (encS s) = true := by
  rw [purs_iff]
  intro d hd
  obtain ⟨p, _, rfl⟩ := List.mem_map.mp hd
  rfl
theorem encS_fits (n : Nat) (s : List (Nat × Nat)) : D.fits (n + 1) (encS s) = true := by
  rw [fits_iff]
  intro d hd
  obtain ⟨p, _, rfl⟩ := List.mem_map.mp hd
  simp [fit_tup, D.fits]
theorem encS_inj {s t : List (Nat × Nat)} : encS s = encS t ↔ s = t := by
  constructor
  · intro h
    refine (List.map_inj_right ?_).mp h
    intro x y hxy
    simp at hxy
    exact Prod.ext (by omega) (by omega)
  · intro h; rw [h]
theorem encN_fits (n : Nat) (s : List Nat) : D.fits n (encN s) = true := by
  rw [fits_iff]
  intro d hd
  obtain ⟨p, _, rfl⟩ := List.mem_map.mp hd
  simp
theorem encN_pur (s : List Nat) : D.purs (encN s) = true := by
  rw [purs_iff]
  intro d hd
  obtain ⟨p, _, rfl⟩ := List.mem_map.mp hd
  rfl
theorem encN_inj {s t : List Nat} : encN s = encN t ↔ s = t := by
  constructor
  · intro h
    refine (List.map_inj_right ?_).mp h
    intro x y hxy
    simp at hxy
    omega
  · intro h; rw [h]
theorem encI_fits (n : Nat) (s : List Int) : D.fits n (s.map D.int) = true := by
  rw [fits_iff]
  intro d hd
  obtain ⟨p, _, rfl⟩ := List.mem_map.mp hd
  simp
theorem encI_pur (s : List Int) : D.purs (s.map D.int) = true := by
  rw [purs_iff]
  intro d hd
  obtain ⟨p, _, rfl⟩ := List.mem_map.mp hd
  rfl
/-! ### Net == Net -/
def k_Net_eq : Fn := { np := 2, ns := 2, pins := [0, 1], body := [.ret (.and (.prim (.isa ["Net"]) [.var 1]) (.and (.eqc [.prim (.fld "wires") [.var 0], .prim (.fld "wires") [.var 1]]) (.eqc [.prim (.fld "swaps") [.var 0], .prim (.fld "swaps") [.var 1]])))] }
@[simp] theorem netD_typed {m : Nat} {s : List (Nat × Nat)} : (netD m s).typed = true := rfl
@[simp] theorem netD_isa {m : Nat} {s : List (Nat × Nat)} : isaOne (netD m s) "Net" = true := rfl
@[simp] theorem rB_ok {b : Bool} : rB b = .ok (.fz (.bl b)) := rfl
theorem p_eqS {s t : List (Nat × Nat)} : primO .eq [.tup (encS s), .tup (encS t)] = .ok (.fz (.bl (decide (s = t)))) := by
  classical
  rw [p_eq_pur (a := .tup (encS s)) (b := .tup (encS t)) (by rw [fit_tup, encS_fits]) (by rw [fit_tup, encS_fits]) (encS_pur s) (encS_pur t)]
  simp [encS_inj]
theorem p_neS {s t : List (Nat × Nat)} : primO .ne [.tup (encS s), .tup (encS t)] = .ok (.fz (.bl (!decide (s = t)))) := by
  classical
  rw [p_ne_pur (a := .tup (encS s)) (b := .tup (encS t)) (by rw [fit_tup, encS_fits]) (by rw [fit_tup, encS_fits]) (encS_pur s) (encS_pur t)]
  simp [encS_inj]
theorem net_eq_ok {Γ : Tbl} (n : Nat) (hf : Γ.fn "Net.__eq__" = some k_Net_eq) {m m' : Nat} {s s' : List (Nat × Nat)} :
    ∃ o, callF Γ (n + 1) "Net.__eq__" [.fz (netD m s), .fz (netD m' s')] = .ok (.fz (.bl (decide (m = m' ∧ s = s'))), o) := by
  rw [callF_fn hf rfl]
  by_cases h : m = m' <;> by_cases h2 : s = s' <;> simp [k_Net_eq, p_eqS, h, h2, Int.natCast_inj]
/-! ### the law's own -/
def k_is_int : Fn := { np := 1, ns := 1, pins := [0], body := [.ret (.and (.prim (.isa ["int"]) [.var 0]) (.not (.prim (.isa ["bool"]) [.var 0])))] }
theorem is_int_ok {Γ : Tbl} (n : Nat) (hf : Γ.fn "_law_is_int" = some k_is_int) {i : Int} : ∃ o, callF Γ (n + 1) "_law_is_int" [.fz (.int i)] = .ok (.fz (.bl true), o) := by
  rw [callF_fn hf rfl]
  exact ⟨_, rfl⟩
end Rx

set_option Elab.async false
set_option linter.all false
set_option autoImplicit false
set_option maxRecDepth 100000
set_option maxHeartbeats 1000000
namespace Rx
open PySem
theorem st_then {Γ : Tbl} {cl : Call} {s : CS} {r : List CS} {env env' : Env} {X : Res (Fl × Env)} (h : evS Γ cl s env = .ok (.nx, env')) (h2 : evSs Γ cl r env' = X) : evSs Γ cl (s :: r) env = X := (st_nx h).trans h2
theorem cut_take {α : Type} {l : List α} {k : Nat} : cut l none (some (k : Int)) = l.take k := by
  unfold cut
  rw [HT.sIx_none, HT.sIx_nat, List.drop_zero, Nat.sub_zero, List.take_eq_take_iff]
  omega
theorem cut_drop {α : Type} {l : List α} {k : Nat} : cut l (some (k : Int)) none = l.drop k := by
  unfold cut
  rw [HT.sIx_none, HT.sIx_nat]
  rw [List.take_of_length_le (by rw [List.length_drop]; exact Nat.le_refl _)]
  by_cases h : k ≤ l.length
  · rw [Nat.min_eq_left h]
  · rw [Nat.min_eq_right (by omega), List.drop_length, List.drop_of_length_le (by omega)]
theorem perm2 {α : Type} {l : List α} {a b : α} (h : l.Perm [a, b]) : l = [a, b] ∨ l = [b, a] := by
  have hl := h.length_eq
  match l, hl with
  | [x, y], _ =>
    have hx : x ∈ [a, b] := h.mem_iff.mp List.mem_cons_self
    rcases List.mem_cons.mp hx with rfl | hx
    · have := (List.perm_cons x).mp h
      rw [List.perm_singleton] at this
      cases this
      exact .inl rfl
    · have hx := List.mem_singleton.mp hx
      subst hx
      have h' := h.trans (List.Perm.swap x a [])
      have := (List.perm_cons x).mp h'
      rw [List.perm_singleton] at this
      cases this
      exact .inr rfl
def decN : D → Nat
  | .int i => i.toNat
  | _ => 0
theorem dec_encN (l : List Nat) : (encN l).map decN = l := by
  unfold encN
  rw [List.map_map]
  conv => rhs; rw [← List.map_id l]
  rfl
theorem perm_encN {r : List D} {l : List Nat} (h : r.Perm (encN l)) : ∃ q, r = encN q ∧ q.Perm l := by
  refine ⟨r.map decN, ?_, ?_⟩
  · have : ∀ d ∈ r, d = D.int (decN d : Nat) := fun d hd => by
      obtain ⟨i, _, rfl⟩ := List.mem_map.mp (h.mem_iff.mp hd)
      rfl
    unfold encN
    rw [List.map_map]
    conv => lhs; rw [← List.map_id r]
    exact List.map_congr_left fun d hd => this d hd
  · have := h.map decN
    rw [dec_encN] at this
    exact this
theorem sortD_perm (l : List D) : (sortD l).Perm l := List.mergeSort_perm _ _
theorem p_sortedL {l : List D} (h : sortable l = true) : primO .sorted [.lst l] = .ok (.own (sortD l)) := by
  rw [primO_eq]
  exact if_pos h
theorem p_sortedT {l : List D} (h : sortable l = true) : primO .sorted [.tup l] = .ok (.own (sortD l)) := by
  rw [primO_eq]
  exact if_pos h
@[simp] theorem p_sliceT2 {l : List D} {j : Int} : primO (.slice false true) [.tup l, .int j] = .ok (.fz (.tup (cut l none (some j)))) := by rw [primO_eq]; rfl
theorem it_range {m : Nat} (h : m ≤ 1000000) : iterO (.range 1) [.int (m : Int)] = .ok (encN (List.range m)) := by
  rw [iterO_eq]
  show (if B62 (m : Int) = true then Res.ok (rng 0 (m : Int)) else .bad) = _
  rw [if_pos (b62_nat h), rng_nat]
@[simp] theorem evAs_iteE {Γ : Tbl} {cl : Call} {env : Env} {t a b : CE} {es : List CE} : evAs Γ cl (.ite t a b :: es) env = (evE Γ cl (.ite t a b) env).bind fun a => (evAs Γ cl es a.2).bind fun r => .ok (.val a.1 :: r.1, r.2) := rfl
/-- a pair of two wires, in a place: a list of its own, or one done with -/
def PairV (w : Val) (a b : Nat) : Prop := w = .own [.int a, .int b] ∨ w = .fz (.lst [.int a, .int b])
def netB1 : List CS := [.asg (.nm 6) (.prim (.slice false true) [.call "_law_shuffled" [.var 0, .prim (.listR 1) [.var 1]], .con (.int 2)]), .asg (.nm 6) (.ite (.var 3) (.prim .sorted [.var 6]) (.var 6)), .ite (.eqc [.call "_law_draw" [.var 0, .con (.int 3)], .con (.int 0)]) [.asg (.nm 7) (.call "_law_draw" [.var 0, .prim .sub [.var 1, .con (.int 1)]]), .asg (.nm 6) (.lst [.var 7, .prim .add [.var 7, .con (.int 1)]])] [], .expr (.mut .append 4 [.tup [.prim .idx [.var 6, .con (.int 0)], .prim .idx [.var 6, .con (.int 1)]]])]
def k_law_net : Fn := { np := 4, ns := 8, pins := [0, 1, 2, 3], body := [.asg (.nm 4) (.lst []), .for (.nm 5) (.range 1) [.ite (.prim .gt [.var 1, .con (.int 1)]) (.call "_law_draw" [.var 0, .prim .add [.var 2, .con (.int 1)]]) (.con (.int 0))] netB1, .ret (.prim .tuple [.var 4])] }
section
variable {Γ : Tbl} (hd : Γ.fn "_law_draw" = some c_draw) (hs : Γ.fn "_law_shuffled" = some c_shuffled)
include hd hs
theorem net_step (n : Nat) {l : List D} (h : Hd l) {m k : Nat} (m1 : 2 ≤ m) (m2 : m ≤ 100) (b : Bool) {s : List (Nat × Nat)} (hl : s.length ≤ 1000) {s5 s6 s7 : Slot} (f6 : Fr s6) (f7 : Fr s7) :
    ∃ (l' : List D) (x y : Nat) (w : Val) (t7 : Slot), evSs Γ (callF Γ (n + 2)) netB1 [.val true (.own l), .val true (.fz (.int m)), .val true (.fz (.int k)), .val true (.fz (.bl b)), .val false (.own (encS s)), s5, s6, s7]
      = .ok (.nx, [.val true (.own l'), .val true (.fz (.int m)), .val true (.fz (.int k)), .val true (.fz (.bl b)), .val false (.own (encS (s ++ [(x, y)]))), s5, .val false w, t7]) ∧ Hd l' ∧ x < m ∧ y < m ∧ x ≠ y ∧ Fr t7 := by
  have sl : s.length < SL := Nat.lt_of_lt_of_le (show s.length < 1001 by omega) (sl_le (m := 1001) (Nat.le_refl _) (by omega))
  have s2 : 2 ≤ SL := sl_le (m := 2) (Nat.le_refl _) (by omega)
  obtain ⟨r, l1, o1, e1, p1, h1⟩ := shuffled_ok hd hs n (l := l) (m := encN (List.range m)) h (by rw [encN_len, List.length_range]; omega)
  obtain ⟨q, rfl, pq⟩ := perm_encN p1
  have ql := pq.length_eq
  rw [List.length_range] at ql
  have qn : q.Nodup := pq.nodup_iff.mpr List.nodup_range
  have qm : ∀ i ∈ q, i < m := fun i hi => List.mem_range.mp (pq.mem_iff.mp hi)
  obtain ⟨a, c, q', hq⟩ : ∃ a c q', q = a :: c :: q' := by
    cases q with
    | nil => simp at ql; omega
    | cons a q => cases q with
      | nil => simp at ql; omega
      | cons c q => exact ⟨a, c, q, rfl⟩
  subst hq
  · have ha : a < m := qm a (by simp)
    have hc : c < m := qm c (by simp)
    have hac : a ≠ c := fun e => by
      subst e
      simp at qn
    have pr := p_listR (k := 1) (m := m) (by omega)
    have ec : cut (encN (a :: c :: q')) none (some 2) = [.int a, .int c] := by
      rw [show (2 : Int) = ((2 : Nat) : Int) from rfl, cut_take]
      rfl
    -- the pair, as it stands or sorted
    obtain ⟨x, y, w, hx, hy, hxy, hw, ew⟩ : ∃ (x y : Nat) (w : Val), x < m ∧ y < m ∧ x ≠ y ∧ PairV w x y ∧ evS Γ (callF Γ (n + 2)) (.asg (.nm 6) (.ite (.var 3) (.prim .sorted [.var 6]) (.var 6)))
        [.val true (.own l1), .val true (.fz (.int m)), .val true (.fz (.int k)), .val true (.fz (.bl b)), .val false (.own (encS s)), s5, .val false (.own [.int a, .int c]), s7] =
        .ok (.nx, [.val true (.own l1), .val true (.fz (.int m)), .val true (.fz (.int k)), .val true (.fz (.bl b)), .val false (.own (encS s)), s5, .val false w, s7]) := by
      cases b with
      | false => exact ⟨a, c, .fz (.lst [.int a, .int c]), ha, hc, hac, .inr rfl, by simp⟩
      | true =>
        have so : sortable [.int a, .int c] = true := rfl
        have sp := sortD_perm [.int a, .int c]
        rcases perm2 sp with e | e
        · exact ⟨a, c, .own [.int a, .int c], ha, hc, hac, .inl rfl, by simp [p_sortedL so, e]⟩
        · exact ⟨c, a, .own [.int c, .int a], hc, ha, fun z => hac z.symm, .inl rfl, by simp [p_sortedL so, e]⟩
    -- neighbours now and then
    obtain ⟨d, l2, e2, d0, d1, h2⟩ := draw_ok hd (z := 3) (n + 1) h1 (by omega) (by omega)
    obtain ⟨l3, x', y', w', t7, h3, hx', hy', hxy', hw', f7', e3⟩ : ∃ (l3 : List D) (x' y' : Nat) (w' : Val) (t7 : Slot), Hd l3 ∧ x' < m ∧ y' < m ∧ x' ≠ y' ∧ PairV w' x' y' ∧ Fr t7 ∧ evS Γ (callF Γ (n + 2)) (.ite (.eqc [.call "_law_draw" [.var 0, .con (.int 3)], .con (.int 0)]) [.asg (.nm 7) (.call "_law_draw" [.var 0, .prim .sub [.var 1, .con (.int 1)]]), .asg (.nm 6) (.lst [.var 7, .prim .add [.var 7, .con (.int 1)]])] [])
        [.val true (.own l1), .val true (.fz (.int m)), .val true (.fz (.int k)), .val true (.fz (.bl b)), .val false (.own (encS s)), s5, .val false w, s7] =
        .ok (.nx, [.val true (.own l3), .val true (.fz (.int m)), .val true (.fz (.int k)), .val true (.fz (.bl b)), .val false (.own (encS s)), s5, .val false w', t7]) := by
      by_cases hd0 : d = 0
      · obtain ⟨d', l3, e4, d0', d1', h3⟩ := draw_ok hd (z := (m : Int) - 1) (n + 1) h2 (by omega) (by omega)
        obtain ⟨j, rfl⟩ : ∃ j : Nat, d' = (j : Int) := ⟨d'.toNat, by omega⟩
        refine ⟨l3, j, j + 1, .own [.int j, .int ((j + 1 : Nat) : Int)], .val false (.fz (.int j)), h3, by omega, by omega, by omega, .inl rfl, .val, ?_⟩
        subst hd0
        simp [evE_call hd, c_draw, e2, e4, stO_fr f7, s2]
      · refine ⟨l2, x, y, w, s7, h2, hx, hy, hxy, hw, f7, ?_⟩
        simp [evE_call hd, c_draw, e2, hd0]
    refine ⟨l3, x', y', w', t7, ?_, h3, hx', hy', hxy', f7'⟩
    refine st_then (env' := [.val true (.own l1), .val true (.fz (.int m)), .val true (.fz (.int k)), .val true (.fz (.bl b)), .val false (.own (encS s)), s5, .val false (.own [.int a, .int c]), s7]) ?_ (st_then ew (st_then e3 (st_then ?_ rfl)))
    · simp [evE_call hs, c_shuffled, pr, e1, stO_fr f6, ec]
    · rcases hw' with rfl | rfl <;> simp [s2, sl, encS]
theorem net_ok (n : Nat) (hf : Γ.fn "_law_net" = some k_law_net) {l : List D} (h : Hd l) {m k : Nat} (m1 : 1 ≤ m) (m2 : m ≤ 100) (hk : k ≤ 1000) (b : Bool) :
    ∃ (l' : List D) (s : List (Nat × Nat)), callF Γ (n + 3) "_law_net" [.own l, .fz (.int m), .fz (.int k), .fz (.bl b)] = .ok (.fz (.tup (encS s)), [.val true (.own l'), .val true (.fz (.int m)), .val true (.fz (.int k)), .val true (.fz (.bl b))]) ∧ Hd l' ∧ okS m s ∧ s.length ≤ k := by
  rw [callF_fn hf rfl]
  -- how many laps
  obtain ⟨c, l0, e0, hc, h0, hc1⟩ : ∃ (c : Nat) (l0 : List D), evE Γ (callF Γ (n + 2)) (.ite (.prim .gt [.var 1, .con (.int 1)]) (.call "_law_draw" [.var 0, .prim .add [.var 2, .con (.int 1)]]) (.con (.int 0))) [.val true (.own l), .val true (.fz (.int m)), .val true (.fz (.int k)), .val true (.fz (.bl b)), .val false (.own []), .emp, .emp, .emp]
      = .ok (.fz (.int c), [.val true (.own l0), .val true (.fz (.int m)), .val true (.fz (.int k)), .val true (.fz (.bl b)), .val false (.own []), .emp, .emp, .emp]) ∧ c ≤ k ∧ Hd l0 ∧ (c ≠ 0 → 2 ≤ m) := by
    by_cases h1 : 1 < m
    · obtain ⟨d, l0, e4, d0, d1, h3⟩ := draw_ok hd (z := (k : Int) + 1) (n + 1) h (by omega) (by omega)
      obtain ⟨j, rfl⟩ : ∃ j : Nat, d = (j : Int) := ⟨d.toNat, by omega⟩
      refine ⟨j, l0, ?_, by omega, h3, by omega⟩
      have : (1 : Int) < (m : Int) := by omega
      simp [evE_call hd, c_draw, e4, this]
    · refine ⟨0, l, ?_, by omega, h, by omega⟩
      have : ¬ (1 : Int) < (m : Int) := by omega
      simp [this]
  obtain ⟨e', h1, l', s, s5, s6, s7, rfl, hh, hs', hl', f5, f6, f7⟩ := forL_inv (step := forB Γ (callF Γ (n + 2)) (.nm 5) netB1) (its := encN (List.range c)) (k := 0) (env0 := [.val true (.own l0), .val true (.fz (.int m)), .val true (.fz (.int k)), .val true (.fz (.bl b)), .val false (.own []), .emp, .emp, .emp])
    (fun i e => ∃ (l' : List D) (s : List (Nat × Nat)) (s5 s6 s7 : Slot), e = [.val true (.own l'), .val true (.fz (.int m)), .val true (.fz (.int k)), .val true (.fz (.bl b)), .val false (.own (encS s)), s5, s6, s7] ∧ Hd l' ∧ okS m s ∧ s.length = i ∧ Fr s5 ∧ Fr s6 ∧ Fr s7)
    ⟨l0, [], .emp, .emp, .emp, rfl, h0, (fun p hp => by cases hp), rfl, .emp, .emp, .emp⟩ fun i d e hi ⟨l', s, s5, s6, s7, he, hh, hs', hl', f5, f6, f7⟩ => by
      subst he
      have hic : i < c := by
        have := (List.getElem?_eq_some_iff.mp hi).1
        rw [encN_len, List.length_range] at this
        exact this
      rw [Nat.zero_add] at hl' ⊢
      obtain ⟨l2, x, y, w, t7, e2, a1, a2, a3, a4, a5⟩ := net_step hd hs n hh (k := k) (hc1 (by omega)) m2 b (s := s) (by omega) (s5 := .val false (.fz d)) f6 f7
      refine ⟨_, .inl ?_, l2, s ++ [(x, y)], .val false (.fz d), .val false w, t7, rfl, a1, ?_, by simp [hl'], .val, .val, a5⟩
      · show (bindT Γ _ (.nm 5) d _).bind _ = _
        simp only [bindT_nm, setSlot_O]
        simp [stO_fr f5]
        exact e2
      · intro p hp
        rcases List.mem_append.mp hp with hp | hp
        · exact hs' p hp
        · rw [List.mem_singleton.mp hp]
          exact ⟨a2, a3, a4⟩
  refine ⟨l', s, ?_, hh, hs', by rw [hl', encN_len, List.length_range]; omega⟩
  have it := it_range (m := c) (by omega)
  refine (congrArg (fin 4) (st_then (env' := [.val true (.own l), .val true (.fz (.int m)), .val true (.fz (.int k)), .val true (.fz (.bl b)), .val false (.own []), .emp, .emp, .emp]) ?_ (st_then (env' := [.val true (.own l'), .val true (.fz (.int m)), .val true (.fz (.int k)), .val true (.fz (.bl b)), .val false (.own (encS s)), s5, s6, s7]) ?_ (st_rt (env' := [.val true (.own l'), .val true (.fz (.int m)), .val true (.fz (.int k)), .val true (.fz (.bl b)), .val false (.own (encS s)), s5, s6, s7]) ?_)))).trans rfl
  · simp [k_law_net]
  · rw [evS_forE, evAs_iteE, e0]
    simp [it]
    rw [h1]
    simp
  · simp [Val.frz]
end
end Rx

set_option Elab.async false
set_option linter.all false
set_option autoImplicit false
set_option maxRecDepth 100000
set_option maxHeartbeats 1000000


namespace Rx
open PySem
def downL (a : Int) (n : Nat) : List D := (List.range n).map fun k => D.int (a - (k : Nat))
theorem it_down {a b : Int} (h1 : -1000000 ≤ a) (h2 : a ≤ 1000000) (h3 : -1000000 ≤ b) (h4 : b ≤ 1000000) : iterO (.range 3) [.int a, .int b, .int (-1)] = .ok (downL a (a - b).toNat) := by
  rw [iterO_eq]
  show (if (B62 a && B62 b && decide ((-1 : Int) ≠ 0) && decide ((-1 : Int).natAbs < 1073741824) && Builtin.Range.small a b (-1) && decide (0 ≤ Builtin.Range.rangeSize a b (-1))) = true then Res.ok (rngN a (-1) (Builtin.Range.rangeSize a b (-1)).toNat) else .bad) = _
  have hs : Builtin.Range.small a b (-1) = true := PySem.W.small_down (by omega) (by omega) (by omega) (by omega)
  have hr := PySem.W.rangeSize_downNat a b
  have ha : B62 a = true := by unfold B62; rw [decide_eq_true (show a.natAbs < 2 ^ 62 by omega)]; rfl
  have hb : B62 b = true := by unfold B62; rw [decide_eq_true (show b.natAbs < 2 ^ 62 by omega)]; rfl
  rw [if_pos (by rw [hs, hr, ha, hb]; simp; omega), hr]
  unfold rngN downL
  simp only [Int.toNat_natCast]
  congr 1
  refine List.map_congr_left fun k _ => ?_
  congr 1
  omega
@[simp] theorem p_lstEmpty {Γ : Tbl} {cl : Call} {env : Env} : evE Γ cl (.lst []) env = .ok (.own [], env) := by
  simp
theorem mtd_insert {l : List D} {i : Int} {d : D} (h0 : 0 ≤ i) (h1 : i < 1000000) (h2 : l.length < 1000000) : mtdO .insert (.own l) [.int i, d] = .ok (.non, .own (l.take i.toNat ++ d :: l.drop i.toNat)) := by
  rw [mtdO_eq]
  have h3 : l.length < SL := Nat.lt_of_lt_of_le (show l.length < 1000001 by omega) (Nat.le_trans (by omega) (show 1000001 ≤ SL by decide))
  show (if (decide (0 ≤ i) && B62 i && decide (l.length < SL)) = true then Res.ok (D.non, Val.own (l.take i.toNat ++ d :: l.drop i.toNat)) else .bad) = _
  rw [decide_eq_true h0, b62_c h0 (by omega), decide_eq_true h3]
  rfl
theorem mtd_popAt' {l : List D} {i : Int} (h0 : 0 ≤ i) (h1 : i < l.length) (h2 : l.length ≤ 1000000) : ∃ d, l[i.toNat]? = some d ∧ mtdO .popAt (.own l) [.int i] = .ok (d, .own (l.eraseIdx i.toNat)) := by
  have hl : i.toNat < l.length := by omega
  refine ⟨l[i.toNat], List.getElem?_eq_getElem hl, ?_⟩
  rw [mtd_popAt, if_pos (by rw [decide_eq_true h0, b62_c h0 (by omega)]; rfl), List.getElem?_eq_getElem hl]
  rfl
/-- a pair of two of the wires, drawn -/
theorem pair_ok {Γ : Tbl} (hd : Γ.fn "_law_draw" = some c_draw) (hs : Γ.fn "_law_shuffled" = some c_shuffled) (n : Nat) {l : List D} (h : Hd l) {m : Nat} (m1 : 2 ≤ m) (m2 : m ≤ 100) :
    ∃ (l1 : List D) (r : List D) (o : Slot) (a c : Nat), callF Γ (n + 2) "_law_shuffled" [.own l, .own (encN (List.range m))] = .ok (.own r, [.val true (.own l1), o]) ∧ cut r none (some 2) = [.int a, .int c] ∧ Hd l1 ∧ a < m ∧ c < m ∧ a ≠ c := by
  obtain ⟨r, l1, o1, e1, p1, h1⟩ := shuffled_ok hd hs n (l := l) (m := encN (List.range m)) h (by rw [encN_len, List.length_range]; omega)
  obtain ⟨q, rfl, pq⟩ := perm_encN p1
  have ql := pq.length_eq
  rw [List.length_range] at ql
  have qn : q.Nodup := pq.nodup_iff.mpr List.nodup_range
  have qm : ∀ i ∈ q, i < m := fun i hi => List.mem_range.mp (pq.mem_iff.mp hi)
  obtain ⟨a, c, q', hq⟩ : ∃ a c q', q = a :: c :: q' := by
    cases q with
    | nil => simp at ql; omega
    | cons a q => cases q with
      | nil => simp at ql; omega
      | cons c q => exact ⟨a, c, q, rfl⟩
  subst hq
  refine ⟨l1, _, o1, a, c, e1, ?_, h1, qm a (by simp), qm c (by simp), fun e => ?_⟩
  · rw [show (2 : Int) = ((2 : Nat) : Int) from rfl, cut_take]
    rfl
  · subst e
    simp at qn
theorem eraseIdx_map' {α β : Type} (f : α → β) : ∀ (l : List α) {i : Nat}, (l.map f).eraseIdx i = (l.eraseIdx i).map f
  | [], i => by simp
  | x :: l, 0 => rfl
  | x :: l, i + 1 => by
    show f x :: (l.map f).eraseIdx i = f x :: (l.eraseIdx i).map f
    rw [eraseIdx_map' f l]
def nbrs (j : Nat) : List (Nat × Nat) := (List.range j).map fun i => (i, i + 1)
def knownC : CE := .comp (.tup [.var 5, .prim .add [.var 5, .con (.int 1)]]) (.nm 5) (.range 1) [.var 3] [] [5]
def k_law_known : Fn := { np := 2, ns := 6, pins := [0, 1], body := [.asg (.nm 2) (.lst []), .for (.nm 3) (.range 3) [.prim .sub [.var 1, .con (.int 1)], .con (.int 0), .prim .neg [.con (.int 1)]] [.expr (.mut .extend 2 [knownC])], .asg (.nm 4) (.call "_law_draw" [.var 0, .con (.int 4)]), .ite (.and (.eqc [.var 4, .con (.int 0)]) (.prim .gt [.prim .len [.var 2], .con (.int 0)])) [.expr (.mut .popAt 2 [.call "_law_draw" [.var 0, .prim .len [.var 2]]])] [], .ite (.and (.eqc [.var 4, .con (.int 1)]) (.prim .gt [.var 1, .con (.int 1)])) [.expr (.mut .insert 2 [.call "_law_draw" [.var 0, .prim .add [.prim .len [.var 2], .con (.int 1)]], .prim .tuple [.prim (.slice false true) [.call "_law_shuffled" [.var 0, .prim (.listR 1) [.var 1]], .con (.int 2)]]])] [], .ret (.prim .tuple [.var 2])] }
theorem encS_append (s t : List (Nat × Nat)) : encS (s ++ t) = encS s ++ encS t := by
  unfold encS
  rw [List.map_append]
theorem encS_len (s : List (Nat × Nat)) : (encS s).length = s.length := by
  unfold encS
  rw [List.length_map]
theorem knownC_ok {Γ : Tbl} (n : Nat) {l : List D} {m j : Nat} {s : List (Nat × Nat)} {s4 s5 : Slot} (f5 : Fr s5) (hj : j ≤ 100) :
    evE Γ (callF Γ n) knownC [.val true (.own l), .val true (.fz (.int m)), .val false (.own (encS s)), .val false (.fz (.int j)), s4, s5] = .ok (.own (encS (nbrs j)), [.val true (.own l), .val true (.fz (.int m)), .val false (.own (encS s)), .val false (.fz (.int j)), s4, s5]) := by
  have s2 : 2 ≤ SL := sl_le (m := 2) (Nat.le_refl _) (by omega)
  obtain ⟨e', h1, t5, rfl, _⟩ := compL_m (step := compB Γ (callF Γ n) (.tup [.var 5, .prim .add [.var 5, .con (.int 1)]]) (.nm 5) [] [5]) (fun i : Nat => D.int i) (fun i => D.tup [.int i, .int ((i + 1 : Nat) : Int)])
    (fun e => ∃ t5, e = [.val true (.own l), .val true (.fz (.int m)), .val false (.own (encS s)), .val false (.fz (.int j)), s4, t5] ∧ Fr t5) (xs := List.range j) (env0 := [.val true (.own l), .val true (.fz (.int m)), .val false (.own (encS s)), .val false (.fz (.int j)), s4, .emp]) ⟨_, rfl, .emp⟩ (by rw [List.length_range]; omega)
    fun x hx e ⟨t5, he, _⟩ => by
      subst he
      refine ⟨_, ?_, .val false (.fz (.int x)), rfl, .val⟩
      simp [compB, s2]
  have it := it_range (m := j) (by omega)
  have hm : encN (List.range j) = List.map (fun i : Nat => D.int i) (List.range j) := rfl
  simp [knownC, it]
  rw [hm, h1]
  simp [nbrs, encS]
theorem known_ok {Γ : Tbl} (hd : Γ.fn "_law_draw" = some c_draw) (hs : Γ.fn "_law_shuffled" = some c_shuffled) (n : Nat) (hf : Γ.fn "_law_known" = some k_law_known) {l : List D} (h : Hd l) {m : Nat} (m1 : 1 ≤ m) (m2 : m ≤ 10) :
    ∃ (l' : List D) (s : List (Nat × Nat)), callF Γ (n + 3) "_law_known" [.own l, .fz (.int m)] = .ok (.fz (.tup (encS s)), [.val true (.own l'), .val true (.fz (.int m))]) ∧ Hd l' ∧ okS m s ∧ s.length ≤ m * m + 1 := by
  rw [callF_fn hf rfl]
  have dl : (downL ((m : Int) - 1) (m - 1)).length = m - 1 := by
    unfold downL
    rw [List.length_map, List.length_range]
  -- all the neighbours
  obtain ⟨e', h1, s, s3, s5, rfl, hs', hl', f3, f5⟩ := forL_inv (step := forB Γ (callF Γ (n + 2)) (.nm 3) [.expr (.mut .extend 2 [knownC])]) (its := downL ((m : Int) - 1) (m - 1)) (k := 0) (env0 := [.val true (.own l), .val true (.fz (.int m)), .val false (.own []), .emp, .emp, .emp])
    (fun i e => ∃ (s : List (Nat × Nat)) (s3 s5 : Slot), e = [.val true (.own l), .val true (.fz (.int m)), .val false (.own (encS s)), s3, .emp, s5] ∧ okS m s ∧ s.length ≤ i * m ∧ Fr s3 ∧ Fr s5)
    ⟨[], .emp, .emp, rfl, (fun p hp => by cases hp), by simp, .emp, .emp⟩ fun i d e hi ⟨s, s3, s5, he, hs', hl', f3, f5⟩ => by
      subst he
      have hic : i < m - 1 := by
        have := (List.getElem?_eq_some_iff.mp hi).1
        rw [dl] at this
        exact this
      rw [Nat.zero_add] at hl' ⊢
      obtain ⟨j, rfl, hj⟩ : ∃ j : Nat, d = .int (j : Int) ∧ j < m := by
        unfold downL at hi
        rw [List.getElem?_map, List.getElem?_range (by omega)] at hi
        simp at hi
        exact ⟨m - 1 - i, by rw [← hi]; congr 1; omega, by omega⟩
      have hb : i * m ≤ 10 * 10 := Nat.mul_le_mul (by omega) (by omega)
      have sl : s.length + j ≤ SL := sl_le (m := 1000) (by omega) (by omega)
      have ll : (nbrs j).length = j := by unfold nbrs; rw [List.length_map, List.length_range]
      refine ⟨_, .inl ?_, s ++ nbrs j, .val false (.fz (.int j)), s5, rfl, ?_, ?_, .val, f5⟩
      · have hk := knownC_ok (Γ := Γ) (n + 2) (l := l) (m := m) (j := j) (s := s) (s4 := .emp) (s5 := s5) f5 (by omega)
        simp [forB, stO_fr f3, hk, encS_len, ll, sl, encS_append]
      · intro p hp
        rcases List.mem_append.mp hp with hp | hp
        · exact hs' p hp
        · obtain ⟨i, hi, rfl⟩ := List.mem_map.mp hp
          have := List.mem_range.mp hi
          dsimp only
          omega
      · rw [List.length_append, ll, Nat.succ_mul]
        omega
  have hl2 : s.length ≤ m * m := Nat.le_trans hl' (by rw [dl, Nat.zero_add]; exact Nat.mul_le_mul (by omega) (Nat.le_refl _))
  have hmm : m * m ≤ 10 * 10 := Nat.mul_le_mul m2 m2
  -- one out, perhaps
  obtain ⟨d, l2, e2, d0, d1, h2⟩ := draw_ok hd (z := 4) (n + 1) h (by omega) (by omega)
  obtain ⟨l3, s', h3, hs3, hl3, e3⟩ : ∃ (l3 : List D) (s' : List (Nat × Nat)), Hd l3 ∧ okS m s' ∧ s'.length ≤ s.length ∧ evS Γ (callF Γ (n + 2)) (.ite (.and (.eqc [.var 4, .con (.int 0)]) (.prim .gt [.prim .len [.var 2], .con (.int 0)])) [.expr (.mut .popAt 2 [.call "_law_draw" [.var 0, .prim .len [.var 2]]])] [])
        [.val true (.own l2), .val true (.fz (.int m)), .val false (.own (encS s)), s3, .val false (.fz (.int d)), s5] = .ok (.nx, [.val true (.own l3), .val true (.fz (.int m)), .val false (.own (encS s')), s3, .val false (.fz (.int d)), s5]) := by
    by_cases c0 : d = 0
    · by_cases c1 : 0 < s.length
      · obtain ⟨d', l3, e4, d0', d1', h3⟩ := draw_ok hd (z := (s.length : Int)) (n + 1) h2 (by omega) (by omega)
        obtain ⟨x, _, e5⟩ := mtd_popAt' (l := encS s) (i := d') d0' (by rw [encS_len]; omega) (by rw [encS_len]; omega)
        have e6 : (encS s).eraseIdx d'.toNat = encS (s.eraseIdx d'.toNat) := by
          unfold encS
          exact eraseIdx_map' _ _
        have hpos : (0 : Int) < s.length := by omega
        rw [e6] at e5
        refine ⟨l3, s.eraseIdx d'.toNat, h3, fun p hp => hs' p (List.mem_of_mem_eraseIdx hp), ?_, ?_⟩
        · rw [List.length_eraseIdx]
          split <;> omega
        · subst c0
          simp only [evS_ite, evE_and, evE_eqc]
          have hne : s ≠ [] := fun z => by rw [z] at c1; exact absurd c1 (by decide)
          simp -failIfUnchanged [encS_len, hpos, hne, evE_call hd, c_draw, e4, e5, -mtd_popAt]
      · refine ⟨l2, s, h2, hs', Nat.le_refl _, ?_⟩
        have : ¬ (0 : Int) < s.length := by omega
        simp [encS_len, this, c0]
        intro hp
        simp [hp] at c1
    · exact ⟨l2, s, h2, hs', Nat.le_refl _, by simp [c0]⟩
  -- one in, perhaps
  obtain ⟨l4, s4, h4, hs4, hl4, e4⟩ : ∃ (l4 : List D) (s4 : List (Nat × Nat)), Hd l4 ∧ okS m s4 ∧ s4.length ≤ s'.length + 1 ∧ evS Γ (callF Γ (n + 2)) (.ite (.and (.eqc [.var 4, .con (.int 1)]) (.prim .gt [.var 1, .con (.int 1)])) [.expr (.mut .insert 2 [.call "_law_draw" [.var 0, .prim .add [.prim .len [.var 2], .con (.int 1)]], .prim .tuple [.prim (.slice false true) [.call "_law_shuffled" [.var 0, .prim (.listR 1) [.var 1]], .con (.int 2)]]])] [])
        [.val true (.own l3), .val true (.fz (.int m)), .val false (.own (encS s')), s3, .val false (.fz (.int d)), s5] = .ok (.nx, [.val true (.own l4), .val true (.fz (.int m)), .val false (.own (encS s4)), s3, .val false (.fz (.int d)), s5]) := by
    by_cases c0 : d = 1
    · by_cases c1 : 2 ≤ m
      · obtain ⟨d', l4, e4, d0', d1', h4⟩ := draw_ok hd (z := (s'.length : Int) + 1) (n + 1) h3 (by omega) (by omega)
        obtain ⟨l5, r, o, a, c, e5, e6, h5, a1, a2, a3⟩ := pair_ok hd hs n h4 c1 (by omega)
        have e7 := mtd_insert (l := encS s') (i := d') (d := .tup [.int a, .int c]) d0' (by omega) (by rw [encS_len]; omega)
        have e8 : (encS s').take d'.toNat ++ D.tup [.int a, .int c] :: (encS s').drop d'.toNat = encS (s'.take d'.toNat ++ (a, c) :: s'.drop d'.toNat) := by
          simp [encS, List.map_take, List.map_drop]
        rw [e8] at e7
        have hpos : (1 : Int) < m := by omega
        have pr := p_listR (k := 1) (m := m) (by omega)
        refine ⟨l5, s'.take d'.toNat ++ (a, c) :: s'.drop d'.toNat, h5, ?_, ?_, ?_⟩
        · intro p hp
          rcases List.mem_append.mp hp with hp | hp
          · exact hs3 p (List.mem_of_mem_take hp)
          · rcases List.mem_cons.mp hp with rfl | hp
            · exact ⟨a1, a2, a3⟩
            · exact hs3 p (List.mem_of_mem_drop hp)
        · rw [List.length_append, List.length_cons, List.length_take, List.length_drop]
          omega
        · subst c0
          simp [encS_len, hpos, evE_call hd, evE_call hs, c_draw, c_shuffled, e4, pr, e5, e6, e7, Val.frz]
      · refine ⟨l3, s', h3, hs3, by omega, ?_⟩
        have : ¬ (1 : Int) < m := by omega
        simp [this, c0]
    · exact ⟨l3, s', h3, hs3, by omega, by simp [c0]⟩
  refine ⟨l4, s4, ?_, h4, hs4, by omega⟩
  have it := it_down (a := (m : Int) - 1) (b := 0) (by omega) (by omega) (by omega) (by omega)
  rw [show ((m : Int) - 1 - 0).toNat = m - 1 by omega] at it
  refine (congrArg (fin 2) (st_then (env' := [.val true (.own l), .val true (.fz (.int m)), .val false (.own []), .emp, .emp, .emp]) ?_ (st_then (env' := [.val true (.own l), .val true (.fz (.int m)), .val false (.own (encS s)), s3, .emp, s5]) ?_
    (st_then (env' := [.val true (.own l2), .val true (.fz (.int m)), .val false (.own (encS s)), s3, .val false (.fz (.int d)), s5]) ?_ (st_then e3 (st_then e4 (st_rt (env' := [.val true (.own l4), .val true (.fz (.int m)), .val false (.own (encS s4)), s3, .val false (.fz (.int d)), s5]) ?_))))))).trans rfl
  · simp [k_law_known]
  · simp [it]
    rw [h1]
    simp
  · simp [evE_call hd, c_draw, e2]
  · simp [Val.frz]
end Rx

set_option Elab.async false
set_option linter.all false
set_option autoImplicit false
set_option maxRecDepth 100000
set_option maxHeartbeats 1000000
namespace Rx
open PySem
def encT (r : List Int) : D := .tup (r.map D.int)
def encR (rows : List (List Int)) : List D := rows.map encT
def bitsU : Nat → List (List Int)
  | 0 => [[]]
  | k + 1 => (bitsU k).map (· ++ [0]) ++ (bitsU k).map (· ++ [1])
theorem bitsU_len : ∀ m, (bitsU m).length = 2 ^ m
  | 0 => rfl
  | k + 1 => by
    show ((bitsU k).map _ ++ (bitsU k).map _).length = _
    rw [List.length_append, List.length_map, List.length_map, bitsU_len, Nat.pow_succ]
    omega
theorem bitsU_mem : ∀ {m : Nat} {r : List Int}, r ∈ bitsU m → r.length = m ∧ ∀ x ∈ r, x = 0 ∨ x = 1
  | 0, r, h => by
    rw [List.mem_singleton.mp h]
    exact ⟨rfl, fun x hx => by cases hx⟩
  | k + 1, r, h => by
    have key : ∀ (b : Int), (b = 0 ∨ b = 1) → r ∈ (bitsU k).map (· ++ [b]) → r.length = k + 1 ∧ ∀ x ∈ r, x = 0 ∨ x = 1 := fun b hb h => by
      obtain ⟨q, hq, rfl⟩ := List.mem_map.mp h
      obtain ⟨h1, h2⟩ := bitsU_mem hq
      refine ⟨by simp [h1], fun x hx => ?_⟩
      rcases List.mem_append.mp hx with hx | hx
      · exact h2 x hx
      · rw [List.mem_singleton.mp hx]
        exact hb
    rcases List.mem_append.mp h with h | h
    · exact key 0 (.inl rfl) h
    · exact key 1 (.inr rfl) h
def k_law_bits : Fn := { np := 1, ns := 4, pins := [0], body := [.asg (.nm 1) (.lst [.tup []]), .for (.nm 2) (.range 1) [.var 0] [.asg (.nm 1) (.prim .add [.comp (.prim .add [.var 3, .tup [.con (.int 0)]]) (.nm 3) .plain [.var 1] [] [3], .comp (.prim .add [.var 3, .tup [.con (.int 1)]]) (.nm 3) .plain [.var 1] [] [3]])], .ret (.prim .sorted [.var 1])] }
@[simp] theorem p_addT {l m : List D} : primO .add [.tup l, .tup m] = if (l ++ m).length ≤ SL then .ok (.fz (.tup (l ++ m))) else .bad := by rw [primO_eq]; rfl
@[simp] theorem p_addL {l m : List D} : primO .add [.lst l, .lst m] = if (l ++ m).length ≤ SL then .ok (.own (l ++ m)) else .bad := by rw [primO_eq]; rfl
theorem bitsC_ok {Γ : Tbl} (n : Nat) {m : Nat} {b : Int} {k : Nat} {s2 s3 : Slot} (f3 : Fr s3) (hk : k ≤ 10) :
    evE Γ (callF Γ n) (.comp (.prim .add [.var 3, .tup [.con (.int b)]]) (.nm 3) .plain [.var 1] [] [3]) [.val true (.fz (.int m)), .val false (.own (encR (bitsU k))), s2, s3] = .ok (.own (encR ((bitsU k).map (· ++ [b]))), [.val true (.fz (.int m)), .val false (.own (encR (bitsU k))), s2, s3]) := by
  have s1 : 1 ≤ SL := sl_le (m := 1) (Nat.le_refl _) (by omega)
  have hp : 2 ^ k ≤ 2 ^ 10 := Nat.pow_le_pow_right (by omega) hk
  obtain ⟨e', h1, t3, rfl, _⟩ := compL_m (step := compB Γ (callF Γ n) (.prim .add [.var 3, .tup [.con (.int b)]]) (.nm 3) [] [3]) encT (fun r => encT (r ++ [b]))
    (fun e => ∃ t3, e = [.val true (.fz (.int m)), .lck, s2, t3] ∧ Fr t3) (xs := bitsU k) (env0 := [.val true (.fz (.int m)), .lck, s2, .emp]) ⟨_, rfl, .emp⟩ (by rw [bitsU_len]; omega)
    fun x hx e ⟨t3, he, _⟩ => by
      subst he
      have hl := (bitsU_mem hx).1
      have sl : x.length + 1 ≤ SL := sl_le (m := 100) (by omega) (by omega)
      refine ⟨_, ?_, .val false (.fz (encT x)), rfl, .val⟩
      simp [compB, encT, s1, sl]
  simp
  rw [show List.map encT (bitsU k) = encR (bitsU k) from rfl] at h1
  rw [h1]
  simp [encR]
theorem alike_ints : ∀ (r q : List Int), PySem.W.alikeAll (D.pys (r.map D.int)) (D.pys (q.map D.int)) = true
  | [], q => by cases q <;> simp [D.pys, PySem.W.alikeAll]
  | x :: r, [] => by simp [D.pys, PySem.W.alikeAll]
  | x :: r, y :: q => by simp [D.pys, PySem.W.alikeAll, D.py, PySem.W.alike, alike_ints r q]
theorem sortable_R {rows : List (List Int)} (h : ∀ r ∈ rows, r ≠ []) (hl : rows.length ≤ 1000000) : sortable (encR rows) = true := by
  unfold sortable
  have h1 : D.fits 40 (encR rows) = true := by
    rw [fits_iff]
    intro d hd
    obtain ⟨r, _, rfl⟩ := List.mem_map.mp hd
    show D.fits 39 _ = true
    exact encI_fits _ _
  have h2 : ((encR rows).all fun a => (encR rows).all fun b => a.alk b) = true := by
    rw [List.all_eq_true]
    intro a ha
    rw [List.all_eq_true]
    intro b hb
    obtain ⟨r, _, rfl⟩ := List.mem_map.mp ha
    obtain ⟨q, _, rfl⟩ := List.mem_map.mp hb
    show PySem.W.alikeAll (D.pys (r.map D.int)) (D.pys (q.map D.int)) = true
    exact alike_ints r q
  have h3 : (encR rows).all D.isTup1 = true := by
    rw [List.all_eq_true]
    intro a ha
    obtain ⟨r, hr, rfl⟩ := List.mem_map.mp ha
    cases r with
    | nil => exact absurd rfl (h _ hr)
    | cons x r => rfl
  rw [h1, h2, h3, decide_eq_true (by unfold encR; rw [List.length_map]; exact sl_le hl (Nat.le_refl _))]
  rfl
def decI : D → Int
  | .int i => i
  | _ => 0
def decT : D → List Int
  | .tup l => l.map decI
  | _ => []
theorem dec_encT (r : List Int) : decT (encT r) = r := by
  show (r.map D.int).map decI = r
  rw [List.map_map]
  conv => rhs; rw [← List.map_id r]
  rfl
theorem perm_enc {X : Type} (enc : X → D) (dec : D → X) (hd : ∀ x, dec (enc x) = x) {r : List D} {l : List X} (h : r.Perm (l.map enc)) : ∃ q : List X, r = q.map enc ∧ q.Perm l := by
  refine ⟨r.map dec, ?_, ?_⟩
  · rw [List.map_map]
    conv => lhs; rw [← List.map_id r]
    refine List.map_congr_left fun d hd' => ?_
    obtain ⟨i, _, rfl⟩ := List.mem_map.mp (h.mem_iff.mp hd')
    show enc i = enc (dec (enc i))
    rw [hd]
  · have := h.map dec
    rw [List.map_map] at this
    have e : l.map (dec ∘ enc) = l := by
      conv => rhs; rw [← List.map_id l]
      exact List.map_congr_left fun x _ => hd x
    rw [e] at this
    exact this
theorem law_bits_ok {Γ : Tbl} (n : Nat) (hf : Γ.fn "_law_bits" = some k_law_bits) {m : Nat} (m1 : 1 ≤ m) (m2 : m ≤ 10) :
    ∃ (rows : List (List Int)) (o : List Slot), callF Γ (n + 1) "_law_bits" [.fz (.int m)] = .ok (.own (encR rows), o) ∧ rows.Perm (bitsU m) := by
  rw [callF_fn hf rfl]
  have s1 : 1 ≤ SL := sl_le (m := 1) (Nat.le_refl _) (by omega)
  have s0 : 0 ≤ SL := Nat.zero_le _
  obtain ⟨e', h1, s2, s3, rfl, f2, f3⟩ := forL_inv (step := forB Γ (callF Γ n) (.nm 2) [.asg (.nm 1) (.prim .add [.comp (.prim .add [.var 3, .tup [.con (.int 0)]]) (.nm 3) .plain [.var 1] [] [3], .comp (.prim .add [.var 3, .tup [.con (.int 1)]]) (.nm 3) .plain [.var 1] [] [3]])]) (its := encN (List.range m)) (k := 0) (env0 := [.val true (.fz (.int m)), .val false (.own (encR (bitsU 0))), .emp, .emp])
    (fun i e => ∃ s2 s3, e = [.val true (.fz (.int m)), .val false (.own (encR (bitsU i))), s2, s3] ∧ Fr s2 ∧ Fr s3) ⟨_, _, rfl, .emp, .emp⟩ fun i d e hi ⟨s2, s3, he, f2, f3⟩ => by
      subst he
      have him : i < m := by
        have := (List.getElem?_eq_some_iff.mp hi).1
        rw [encN_len, List.length_range] at this
        exact this
      rw [Nat.zero_add]
      have c0 := bitsC_ok (Γ := Γ) n (m := m) (b := 0) (k := i) (s2 := .val false (.fz d)) (s3 := s3) f3 (by omega)
      have c1 := bitsC_ok (Γ := Γ) n (m := m) (b := 1) (k := i) (s2 := .val false (.fz d)) (s3 := s3) f3 (by omega)
      have hp : 2 ^ i ≤ 2 ^ 10 := Nat.pow_le_pow_right (by omega) (by omega)
      have hl : (encR ((bitsU i).map (· ++ [0])) ++ encR ((bitsU i).map (· ++ [1]))).length ≤ SL := by
        unfold encR
        rw [List.length_append, List.length_map, List.length_map, List.length_map, List.length_map, bitsU_len]
        exact sl_le (m := 10000) (by omega) (by omega)
      refine ⟨_, .inl ?_, .val false (.fz d), s3, rfl, .val, f3⟩
      show (bindT Γ _ (.nm 2) d _).bind _ = _
      simp only [bindT_nm, setSlot_O, List.length_cons, List.getElem?_cons_succ, List.getElem?_cons_zero, stO_fr f2, Res.bind_ok, List.set_cons_succ, List.set_cons_zero]
      refine st_then (env' := [.val true (.fz (.int m)), .val false (.own (encR (bitsU (i + 1)))), .val false (.fz d), s3]) ?_ rfl
      simp only [evS_asgN, evE_prim, evAs_comp, c0, c1, Res.bind_ok, evAs_nil, pkArgs_val, pkArgs_nil, Val.frz_own, p_addL, if_pos hl]
      simp [bitsU, encR]
  rw [encN_len, List.length_range, Nat.zero_add] at h1
  have hso : sortable (encR (bitsU m)) = true := sortable_R (fun r hr e => by
    have := (bitsU_mem hr).1
    rw [e] at this
    simp at this
    omega) (by rw [bitsU_len]; exact Nat.le_trans (Nat.pow_le_pow_right (by omega) m2) (by decide))
  obtain ⟨rows, hr, hp⟩ := perm_enc encT decT dec_encT (r := sortD (encR (bitsU m))) (l := bitsU m) (sortD_perm _)
  have it := it_range (m := m) (by omega)
  refine ⟨rows, _, (congrArg (fin 1) (st_then (env' := [.val true (.fz (.int m)), .val false (.own (encR (bitsU 0))), .emp, .emp]) ?_ (st_then (env' := [.val true (.fz (.int m)), .val false (.own (encR (bitsU m))), s2, s3]) ?_ (st_rt (w := .own (encR rows)) (env' := [.val true (.fz (.int m)), .val false (.own (encR (bitsU m))), s2, s3]) ?_)))).trans rfl, hp⟩
  · simp [k_law_bits, s1, s0, bitsU, encR, encT]
  · simp [it]
    rw [h1]
    simp
  · simp [p_sortedL hso]
    exact hr
def k_law_row : Fn := { np := 2, ns := 4, pins := [0, 1], body := [.asg (.nm 2) (.call "_law_some" [.var 0, .lst [.con (.int 2), .con (.int 4), .prim .add [.prim .mul [.con (.int 2), .prim .pow [.con (.int 10), .con (.int 9)]], .con (.int 1)]]]), .ret (.prim .tuple [.comp (.prim .sub [.call "_law_draw" [.var 0, .var 2], .prim .fdiv [.var 2, .con (.int 2)]]) (.nm 3) (.range 1) [.var 1] [] [3]])] }
theorem law_row_ok {Γ : Tbl} (hd : Γ.fn "_law_draw" = some c_draw) (hs : Γ.fn "_law_some" = some c_some) (n : Nat) (hf : Γ.fn "_law_row" = some k_law_row) {l : List D} (h : Hd l) {m : Nat} (m2 : m ≤ 100) :
    ∃ (r : List Int) (l' : List D), callF Γ (n + 3) "_law_row" [.own l, .fz (.int m)] = .ok (.fz (encT r), [.val true (.own l'), .val true (.fz (.int m))]) ∧ Hd l' ∧ r.length = m ∧ ∀ x ∈ r, -1000000000 ≤ x ∧ x ≤ 1000000000 := by
  rw [callF_fn hf rfl]
  have s3 : 3 ≤ SL := sl_le (m := 3) (Nat.le_refl _) (by omega)
  obtain ⟨t, l1, o, e1, ht, h1⟩ := some_ok hd hs (m := [.int 2, .int 4, .int 2000000001]) n h (by simp) (by simp)
  obtain ⟨t, rfl, t0, t1⟩ : ∃ t' : Int, t = .int t' ∧ 0 < t' ∧ t' ≤ 2000000001 := by
    simp only [List.mem_cons, List.not_mem_nil, or_false] at ht
    rcases ht with rfl | rfl | rfl
    · exact ⟨2, rfl, by omega, by omega⟩
    · exact ⟨4, rfl, by omega, by omega⟩
    · exact ⟨2000000001, rfl, by omega, by omega⟩
  have k2 : B62 2 = true := by decide
  have k10 : B62 10 = true := by decide
  have k3 : B64 2 = true := by decide
  obtain ⟨l2, e2, h2, r, lh, s3, rfl, rfl, hh, hr, hx, f3⟩ := compL_inv (step := compB Γ (callF Γ (n + 2)) (.prim .sub [.call "_law_draw" [.var 0, .var 2], .prim .fdiv [.var 2, .con (.int 2)]]) (.nm 3) [] [3]) (its := encN (List.range m)) (acc := []) (k := 0) (env0 := [.val true (.own l1), .val true (.fz (.int m)), .val false (.fz (.int t)), .emp])
    (fun i acc e => ∃ (r : List Int) (lh : List D) (s3 : Slot), acc = r.map D.int ∧ e = [.val true (.own lh), .val true (.fz (.int m)), .val false (.fz (.int t)), s3] ∧ Hd lh ∧ r.length = i ∧ (∀ x ∈ r, -1000000000 ≤ x ∧ x ≤ 1000000000) ∧ Fr s3)
    ⟨[], l1, .emp, rfl, rfl, h1, rfl, (fun x hx => by cases hx), .emp⟩ (by rw [encN_len, List.length_range, List.length_nil]; exact sl_le (m := 100) (by omega) (by omega)) fun i d acc e hi ⟨r, lh, s3, ha, he, hh, hr, hx, f3⟩ => by
      subst he ha
      obtain ⟨d', l3, e4, d0', d1', h3⟩ := draw_ok hd (z := t) (n + 1) hh t0 (by omega)
      refine ⟨_, .inl ⟨.int (d' - t / 2), ?_, r ++ [d' - t / 2], l3, .val false (.fz d), by simp, rfl, h3, by simp [hr], ?_, .val⟩⟩
      · simp [compB, evE_call hd, c_draw, e4, k2]
      · intro x hx'
        rcases List.mem_append.mp hx' with hx' | hx'
        · exact hx x hx'
        · rw [List.mem_singleton.mp hx']
          omega
  rw [encN_len, List.length_range, Nat.zero_add] at hr
  have it := it_range (m := m) (by omega)
  refine ⟨r, lh, (congrArg (fin 2) (st_then (env' := [.val true (.own l1), .val true (.fz (.int m)), .val false (.fz (.int t)), .emp]) ?_ (st_rt (w := .fz (encT r)) (env' := [.val true (.own lh), .val true (.fz (.int m)), .val false (.fz (.int t)), .emp]) ?_))).trans rfl, hh, hr, hx⟩
  · simp [k_law_row, evE_call hs, c_some, k3, k10]
    rw [if_pos (by assumption)]
    simp [e1]
  · simp [it]
    rw [h2]
    simp [encT]
end Rx

set_option Elab.async false
set_option linter.all false
set_option autoImplicit false
set_option maxRecDepth 100000
set_option maxHeartbeats 1000000
namespace Rx
open PySem
/-! ### orders -/
theorem nodup_len : ∀ (m : Nat) (l : List Nat), l.Nodup → (∀ i ∈ l, i < m) → l.length ≤ m
  | 0, l, _, h => by
    cases l with
    | nil => exact Nat.le_refl _
    | cons x l => exact absurd (h x List.mem_cons_self) (by omega)
  | m + 1, l, hn, h => by
    by_cases hm : m ∈ l
    · have h1 := nodup_len m (l.erase m) (hn.erase m) fun i hi => by
        have := (hn.mem_erase_iff).mp hi
        have := h i this.2
        omega
      rw [List.length_erase_of_mem hm] at h1
      omega
    · have h1 := nodup_len m l hn fun i hi => by
        have := h i hi
        have : i ≠ m := fun e => hm (e ▸ hi)
        omega
      omega
theorem nodup_all {m : Nat} {l : List Nat} (hn : l.Nodup) (h : ∀ i ∈ l, i < m) (hl : l.length = m) {k : Nat} (hk : k < m) : k ∈ l := by
  by_cases c : k ∈ l
  · exact c
  · have := nodup_len m (k :: l) (List.nodup_cons.mpr ⟨c, hn⟩) fun i hi => by
      rcases List.mem_cons.mp hi with rfl | hi
      · exact hk
      · exact h i hi
    rw [List.length_cons] at this
    omega
theorem plc_nodup {m : Nat} {l : List Nat} (h : Plc m l) : l.Nodup := by
  rw [List.nodup_iff_pairwise_ne, List.pairwise_iff_getElem]
  intro i j hi hj hij e
  have := h.inj i j (by rw [← h.len]; exact hi) (by rw [← h.len]; exact hj) (by simpa [hi, hj] using e)
  omega
theorem plc_onto {m : Nat} {l : List Nat} (h : Plc m l) {k : Nat} (hk : k < m) : ∃ i, i < m ∧ l.getD i 0 = k := by
  have hm := nodup_all (plc_nodup h) (fun i hi => by
    obtain ⟨j, hj, rfl⟩ := List.mem_iff_getElem.mp hi
    have := h.lt j (by rw [← h.len]; exact hj)
    simpa [hj] using this) h.len hk
  obtain ⟨j, hj, rfl⟩ := List.mem_iff_getElem.mp hm
  exact ⟨j, by rw [← h.len]; exact hj, by simp [hj]⟩
theorem plc_inv {m : Nat} {l : List Nat} (h : Plc m l) : Plc m (invK m l m) := by
  refine ⟨invK_len m l m, fun i hi => invK_lt m (Nat.le_refl _) i hi, fun i j hi hj e => ?_⟩
  obtain ⟨a, ha, rfl⟩ := plc_onto h hi
  obtain ⟨b, hb, rfl⟩ := plc_onto h hj
  rw [invK_at h m (Nat.le_refl _) a ha, invK_at h m (Nat.le_refl _) b hb] at e
  rw [e]
theorem inv_right {m : Nat} {l : List Nat} (h : Plc m l) {k : Nat} (hk : k < m) : (invK m l m).getD k 0 < m ∧ l.getD ((invK m l m).getD k 0) 0 = k := by
  obtain ⟨a, ha, rfl⟩ := plc_onto h hk
  rw [invK_at h m (Nat.le_refl _) a ha]
  exact ⟨ha, rfl⟩
theorem plc_perm {m : Nat} {l : List Nat} (h : Plc m l) : l.mergeSort (fun a b => decide (a ≤ b)) = List.range m := by
  have hp : (l.mergeSort (fun a b => decide (a ≤ b))).Perm l := List.mergeSort_perm _ _
  have hs := List.pairwise_mergeSort (le := fun a b : Nat => decide (a ≤ b)) (fun a b c h1 h2 => by simp at h1 h2 ⊢; omega) (fun a b => by simp; omega) l
  have hn : (l.mergeSort (fun a b => decide (a ≤ b))).Nodup := hp.nodup_iff.mpr (plc_nodup h)
  -- strictly ascending, of length m, below m
  have hlen : (l.mergeSort (fun a b => decide (a ≤ b))).length = m := by rw [hp.length_eq, h.len]
  refine List.Perm.eq_of_pairwise (le := fun a b => a ≤ b) (fun a b _ _ h1 h2 => by omega) (hs.imp fun h => by simpa using h) List.pairwise_le_range ?_
  refine List.perm_iff_count.mpr fun a => ?_
  by_cases ha : a < m
  · have h1 : a ∈ l.mergeSort (fun a b => decide (a ≤ b)) := hp.mem_iff.mpr (by
      obtain ⟨i, hi, rfl⟩ := plc_onto h ha
      have hi' : i < l.length := by rw [h.len]; exact hi
      simp [hi'])
    rw [List.Nodup.count hn, List.Nodup.count List.nodup_range, if_pos h1, if_pos (List.mem_range.mpr ha)]
  · have h1 : ¬ a ∈ l.mergeSort (fun a b => decide (a ≤ b)) := fun c => by
      have := hp.mem_iff.mp c
      obtain ⟨j, hj, rfl⟩ := List.mem_iff_getElem.mp this
      have := h.lt j (by rw [← h.len]; exact hj)
      simp [hj] at this
      omega
    rw [List.count_eq_zero.mpr h1, List.count_eq_zero.mpr (fun c => ha (List.mem_range.mp c))]
theorem ltD_int (i j : Int) : (D.int i).ltD (.int j) = decide (i < j) := PySem.W.dataLt_int i j
theorem sortD_encN (l : List Nat) : sortD (encN l) = encN (l.mergeSort (fun a b => decide (a ≤ b))) := by
  unfold sortD encN
  rw [List.map_mergeSort (s := fun a b => !b.ltD a)]
  intro a _ b _
  rw [ltD_int]
  by_cases h : a ≤ b
  · rw [decide_eq_true h, decide_eq_false (by omega)]
    rfl
  · rw [decide_eq_false h, decide_eq_true (by omega)]
    rfl
theorem sortable_N {l : List Nat} (hl : l.length ≤ 1000000) : sortable (encN l) = true := by
  unfold sortable
  have h1 : D.fits 40 (encN l) = true := encN_fits 40 l
  have h2 : ((encN l).all fun a => (encN l).all fun b => a.alk b) = true := by
    rw [List.all_eq_true]
    intro a ha
    rw [List.all_eq_true]
    intro b hb
    obtain ⟨r, _, rfl⟩ := List.mem_map.mp ha
    obtain ⟨q, _, rfl⟩ := List.mem_map.mp hb
    rfl
  have h3 : (encN l).all D.isNonTup = true := by
    rw [List.all_eq_true]
    intro a ha
    obtain ⟨r, _, rfl⟩ := List.mem_map.mp ha
    rfl
  rw [h1, h2, h3, decide_eq_true (by rw [encN_len]; exact sl_le hl (Nat.le_refl _))]
  simp
theorem inv_range {m : Nat} : invK m (List.range m) m = List.range m := by
  refine List.ext_getElem (by rw [invK_len, List.length_range]) fun i h1 h2 => ?_
  rw [List.length_range] at h2
  have := invK_at (plc_range m) m (Nat.le_refl _) i h2
  rw [range_getD h2] at this
  rw [List.getElem_range]
  simpa [h1] using this
/-! ### all, any of truth values -/
theorem bls_map {X : Type} (f : X → Bool) : ∀ xs : List X, bls? (xs.map fun x => D.bl (f x)) = some (xs.map f)
  | [] => rfl
  | x :: xs => by
    show (bls? (xs.map fun x => D.bl (f x))).map (f x :: ·) = _
    rw [bls_map f xs]
    rfl
theorem p_allB {X : Type} (f : X → Bool) (xs : List X) : primO .all [.lst (xs.map fun x => D.bl (f x))] = .ok (.fz (.bl (xs.all f))) := by
  rw [primO_eq]
  show (match bls? (xs.map fun x => D.bl (f x)) with | some r => rB (r.all id) | _ => .bad) = _
  rw [bls_map]
  simp
theorem p_anyB {X : Type} (f : X → Bool) (xs : List X) : primO .any [.lst (xs.map fun x => D.bl (f x))] = .ok (.fz (.bl (xs.any f))) := by
  rw [primO_eq]
  show (match bls? (xs.map fun x => D.bl (f x)) with | some r => rB (r.any id) | _ => .bad) = _
  rw [bls_map]
  simp
theorem eqR_net {Γ : Tbl} {cl : Call} {env : Env} (h : Γ.eqm "Net" = some "Net.__eq__") {m m' : Nat} {s s' : List (Nat × Nat)} : eqR Γ cl [.val (.fz (netD m s)), .val (.fz (netD m' s'))] env = (cl "Net.__eq__" [.fz (netD m s), .fz (netD m' s')]).bind fun r => eqB r.1 env := eqR_ins h
@[simp] theorem evE_glb {Γ : Tbl} {cl : Call} {env : Env} {x : Str} : evE Γ cl (.glob x) env = (match Γ.cst x with
    | some d => Res.ok (Val.fz d, env)
    | none => .bad) := rfl
@[simp] theorem p_isTupT {l : List D} : isaOne (.tup l) "tuple" = true := rfl
@[simp] theorem typ_tup {l : List D} : (D.tup l).typed = true := rfl
@[simp] theorem p_notB {b c : Bool} : primO (.notB b) [.bl c] = .ok (.fz (.bl (!(b == c)))) := by rw [primO_eq]; rfl
@[simp] theorem p_isB {b c : Bool} : primO (.isB b) [.bl c] = .ok (.fz (.bl (b == c))) := by rw [primO_eq]; rfl
@[simp] theorem fit_str {n : Nat} {x : Str} : (D.str x).fit n = true := by cases n <;> rfl
end Rx

set_option Elab.async false
set_option linter.all false
set_option autoImplicit false
set_option maxRecDepth 100000
set_option maxHeartbeats 1000000
/-! the laws' own drawing, whatever the numbers in it are -/
namespace Rx
open PySem
def dFn (b : List CS) : Fn := { np := 2, ns := 5, pins := [0, 1], body := b }
def dB1 (b c e m2 g m3 : Int) : List CS := [.ite (.and (.eqc [.prim .idx [.var 0, .con (.int 2)], .con (.int 0)]) (.prim .lt [.prim .idx [.var 0, .con (.int 1)], .prim .len [.prim .idx [.var 0, .con (.int 0)]]])) [.asg (.nm 3) (.prim .idx [.prim .idx [.var 0, .con (.int 0)], .prim .idx [.var 0, .con (.int 1)]]), .asg (.sub 0 (.con (.int 1))) (.prim .add [.prim .idx [.var 0, .con (.int 1)], .con (.int 1)]), .asg (.sub 0 (.con (.int 3))) (.prim .mod [.prim .int [.prim .add [.prim .add [.prim .mul [.prim .idx [.var 0, .con (.int 3)], .con (.int 69621)], .prim .mul [.var 3, .con (.int b)]], .con (.int c)]], .con (.int 2147483629)]), .ite (.prim .ge [.var 3, .prim .pow [.con (.int 10), .con (.int 18)]]) [.asg (.sub 0 (.con (.int 2))) (.var 3)] []] [], .ite (.prim .gt [.prim .idx [.var 0, .con (.int 2)], .con (.int 0)]) [.asg (.nm 4) (.prim .mod [.prim .int [.prim .idx [.var 0, .con (.int 2)]], .var 1]), .asg (.sub 0 (.con (.int 2))) (.prim .fdiv [.prim .idx [.var 0, .con (.int 2)], .var 1]), .ret (.var 4)] [], .asg (.sub 0 (.con (.int 4))) (.prim .add [.prim .idx [.var 0, .con (.int 4)], .con (.int 1)]), .asg (.nm 2) (.prim .mod [.prim .int [.prim .mul [.prim .int [.prim .add [.prim .idx [.var 0, .con (.int 3)], .prim .mul [.con (.int 7919), .prim .idx [.var 0, .con (.int 4)]]]], .con (.int e)]], .con (.int 2147483647)]), .asg (.nm 2) (.prim .mod [.prim .int [.prim .mul [.var 2, .prim .add [.prim .fdiv [.var 2, .con (.int 1009)], .con (.int 69621)]]], .con (.int m2)]), .asg (.nm 2) (.prim .mod [.prim .int [.prim .mul [.var 2, .prim .add [.prim .fdiv [.var 2, .con (.int 2003)], .con (.int g)]]], .con (.int m3)]), .ret (.prim .mod [.prim .int [.prim .fdiv [.var 2, .con (.int 16)]], .var 1])]
def dB2 (c e m2 g m3 : Int) : List CS := [.ite (.and (.eqc [.prim .idx [.var 0, .con (.int 2)], .con (.int 0)]) (.prim .lt [.prim .idx [.var 0, .con (.int 1)], .prim .len [.prim .idx [.var 0, .con (.int 0)]]])) [.asg (.nm 3) (.prim .idx [.prim .idx [.var 0, .con (.int 0)], .prim .idx [.var 0, .con (.int 1)]]), .asg (.sub 0 (.con (.int 1))) (.prim .add [.prim .idx [.var 0, .con (.int 1)], .con (.int 1)]), .asg (.sub 0 (.con (.int 3))) (.prim .mod [.prim .int [.prim .add [.prim .add [.prim .mul [.prim .idx [.var 0, .con (.int 3)], .con (.int 69621)], .var 3], .con (.int c)]], .con (.int 2147483629)]), .ite (.prim .ge [.var 3, .prim .pow [.con (.int 10), .con (.int 18)]]) [.asg (.sub 0 (.con (.int 2))) (.var 3)] []] [], .ite (.prim .gt [.prim .idx [.var 0, .con (.int 2)], .con (.int 0)]) [.asg (.nm 4) (.prim .mod [.prim .int [.prim .idx [.var 0, .con (.int 2)]], .var 1]), .asg (.sub 0 (.con (.int 2))) (.prim .fdiv [.prim .idx [.var 0, .con (.int 2)], .var 1]), .ret (.var 4)] [], .asg (.sub 0 (.con (.int 4))) (.prim .add [.prim .idx [.var 0, .con (.int 4)], .con (.int 1)]), .asg (.nm 2) (.prim .mod [.prim .int [.prim .mul [.prim .int [.prim .add [.prim .idx [.var 0, .con (.int 3)], .prim .mul [.con (.int 7919), .prim .idx [.var 0, .con (.int 4)]]]], .con (.int e)]], .con (.int 2147483647)]), .asg (.nm 2) (.prim .mod [.prim .int [.prim .mul [.var 2, .prim .add [.prim .fdiv [.var 2, .con (.int 1009)], .con (.int 69621)]]], .con (.int m2)]), .asg (.nm 2) (.prim .mod [.prim .int [.prim .mul [.var 2, .prim .add [.prim .fdiv [.var 2, .con (.int 2003)], .con (.int g)]]], .con (.int m3)]), .ret (.prim .mod [.prim .int [.prim .fdiv [.var 2, .con (.int 16)]], .var 1])]
structure Drw (Γ : Tbl) (b : List CS) : Prop where
  f : Γ.fn "_law_draw" = some (dFn b)
  ok : ∀ (n : Nat) {l : List D} {z : Int}, Hd l → 0 < z → z < 2 ^ 62 →
    ∃ d l', callF Γ (n + 1) "_law_draw" [.own l, .fz (.int z)] = .ok (.fz (.int d), [.val true (.own l'), .val true (.fz (.int z))]) ∧ 0 ≤ d ∧ d < z ∧ Hd l'
theorem drw1 {Γ : Tbl} {b c e m2 g m3 : Int} (hf : Γ.fn "_law_draw" = some (dFn (dB1 b c e m2 g m3))) (h0 : 0 < m2) (h1 : m2 ≤ 2 ^ 62) (h2 : 0 < m3) (h3 : m3 ≤ 2 ^ 62) (he : B64 e = true) (hb : B64 b = true) : Drw Γ (dB1 b c e m2 g m3) := ⟨hf, fun n {l z} h z0 z1 => by
  obtain ⟨cs, p, q, s, t, rfl, hc, hp, hq⟩ := h
  have b62 : B62 z = true := by
    unfold B62
    rw [decide_eq_true (show z.natAbs < 2 ^ 62 by omega)]
    rfl
  have k0 : ∀ x : Int, B64 (x % m2) = true := fun x => b64_mod h0 h1
  have k0' : ∀ x : Int, B64 (x % m3) = true := fun x => b64_mod h2 h3
  have k1 : B64 69621 = true := by decide
  have k3 : B64 7919 = true := by decide
  have k5 : B62 10 = true := by decide
  have k6 : B62 1009 = true := by decide
  have k7 : B62 2003 = true := by decide
  have k8 : B62 16 = true := by decide
  have digit : ∀ x : Int, 0 ≤ x % z ∧ x % z < z := fun x => ⟨Int.emod_nonneg x (by omega), Int.emod_lt_of_pos x z0⟩
  rw [callF_fn hf rfl]
  by_cases g1 : q = 0
  · subst g1
    by_cases g2 : p < cs.length
    · obtain ⟨c, e1, e2⟩ : ∃ c, L2.atI (cs.map D.int) p = some (.int c) ∧ 0 ≤ c := by
        have hl : p.toNat < cs.length := by omega
        refine ⟨cs[p.toNat], ?_, hc _ (List.getElem_mem hl)⟩
        rw [atI_nat hp (by rw [List.length_map]; exact g2), List.getElem?_map, List.getElem?_eq_getElem hl]
        rfl
      by_cases g3 : (1000000000000000000 : Int) ≤ c
      · have g4 : 0 < c := by omega
        simp [dFn, dB1, z0, b62, g2, e1, g3, g4, k0, k0', he, h0, h2, k1, k3, k5, k6, k7, k8, hb]
        exact ⟨_, _, ⟨rfl, rfl⟩, (digit c).1, (digit c).2, cs, _, _, _, _, rfl, hc, by omega, Int.ediv_nonneg (by omega) (by omega)⟩
      · simp [dFn, dB1, z0, b62, g2, e1, g3, k0, k0', he, h0, h2, k1, k3, k5, k6, k7, k8, hb]
        exact ⟨_, _, ⟨rfl, rfl⟩, (digit _).1, (digit _).2, cs, _, _, _, _, rfl, hc, by omega, by omega⟩
    · simp [dFn, dB1, z0, b62, g2, k0, k0', he, h0, h2, k1, k3, k5, k6, k7, k8, hb]
      exact ⟨_, _, ⟨rfl, rfl⟩, (digit _).1, (digit _).2, cs, _, _, _, _, rfl, hc, by omega, by omega⟩
  · have g4 : 0 < q := by omega
    simp [dFn, dB1, z0, b62, g1, g4, k0, k0', he, h0, h2, k1, k3, k5, k6, k7, k8, hb]
    exact ⟨_, _, ⟨rfl, rfl⟩, (digit q).1, (digit q).2, cs, _, _, _, _, rfl, hc, hp, Int.ediv_nonneg (by omega) (by omega)⟩⟩
theorem drw2 {Γ : Tbl} {c e m2 g m3 : Int} (hf : Γ.fn "_law_draw" = some (dFn (dB2 c e m2 g m3))) (h0 : 0 < m2) (h1 : m2 ≤ 2 ^ 62) (h2 : 0 < m3) (h3 : m3 ≤ 2 ^ 62) (he : B64 e = true) : Drw Γ (dB2 c e m2 g m3) := ⟨hf, fun n {l z} h z0 z1 => by
  obtain ⟨cs, p, q, s, t, rfl, hc, hp, hq⟩ := h
  have b62 : B62 z = true := by
    unfold B62
    rw [decide_eq_true (show z.natAbs < 2 ^ 62 by omega)]
    rfl
  have k0 : ∀ x : Int, B64 (x % m2) = true := fun x => b64_mod h0 h1
  have k0' : ∀ x : Int, B64 (x % m3) = true := fun x => b64_mod h2 h3
  have k1 : B64 69621 = true := by decide
  have k3 : B64 7919 = true := by decide
  have k5 : B62 10 = true := by decide
  have k6 : B62 1009 = true := by decide
  have k7 : B62 2003 = true := by decide
  have k8 : B62 16 = true := by decide
  have digit : ∀ x : Int, 0 ≤ x % z ∧ x % z < z := fun x => ⟨Int.emod_nonneg x (by omega), Int.emod_lt_of_pos x z0⟩
  rw [callF_fn hf rfl]
  by_cases g1 : q = 0
  · subst g1
    by_cases g2 : p < cs.length
    · obtain ⟨c, e1, e2⟩ : ∃ c, L2.atI (cs.map D.int) p = some (.int c) ∧ 0 ≤ c := by
        have hl : p.toNat < cs.length := by omega
        refine ⟨cs[p.toNat], ?_, hc _ (List.getElem_mem hl)⟩
        rw [atI_nat hp (by rw [List.length_map]; exact g2), List.getElem?_map, List.getElem?_eq_getElem hl]
        rfl
      by_cases g3 : (1000000000000000000 : Int) ≤ c
      · have g4 : 0 < c := by omega
        simp [dFn, dB2, z0, b62, g2, e1, g3, g4, k0, k0', he, h0, h2, k1, k3, k5, k6, k7, k8]
        exact ⟨_, _, ⟨rfl, rfl⟩, (digit c).1, (digit c).2, cs, _, _, _, _, rfl, hc, by omega, Int.ediv_nonneg (by omega) (by omega)⟩
      · simp [dFn, dB2, z0, b62, g2, e1, g3, k0, k0', he, h0, h2, k1, k3, k5, k6, k7, k8]
        exact ⟨_, _, ⟨rfl, rfl⟩, (digit _).1, (digit _).2, cs, _, _, _, _, rfl, hc, by omega, by omega⟩
    · simp [dFn, dB2, z0, b62, g2, k0, k0', he, h0, h2, k1, k3, k5, k6, k7, k8]
      exact ⟨_, _, ⟨rfl, rfl⟩, (digit _).1, (digit _).2, cs, _, _, _, _, rfl, hc, by omega, by omega⟩
  · have g4 : 0 < q := by omega
    simp [dFn, dB2, z0, b62, g1, g4, k0, k0', he, h0, h2, k1, k3, k5, k6, k7, k8]
    exact ⟨_, _, ⟨rfl, rfl⟩, (digit q).1, (digit q).2, cs, _, _, _, _, rfl, hc, hp, Int.ediv_nonneg (by omega) (by omega)⟩⟩
/-- the hand: its seed -/
def hFn (a b : Int) : Fn := { np := 1, ns := 3, pins := [0], body := [.asg (.nm 1) (.comp (.prim .abs [.prim .int [.var 2]]) (.nm 2) .plain [.prim (.slice false true) [.var 0, .con (.int 63)]] [] [2]), .ret (.lst [.var 1, .con (.int 0), .con (.int 0), .prim .add [.con (.int a), .prim .mul [.con (.int b), .prim .len [.var 1]]], .con (.int 0)])] }
theorem handG {Γ : Tbl} {a b : Int} (hb : B64 b = true) (hf : Γ.fn "_law_hand" = some (hFn a b)) (ns : List Int) (hn : ns.length ≤ 63) (n : Nat) : ∃ l outs, callF Γ (n + 1) "_law_hand" [.fz (.scr ns)] = .ok (.own l, outs) ∧ Hd l := by
  rw [callF_fn hf rfl]
  have hcut : (cut ns none (some 63)).length ≤ 63 := by
    unfold cut
    rw [List.length_take, List.length_drop]
    omega
  obtain ⟨l, e, h1, cs, s2, rfl, h2, rfl⟩ := compL_inv (its := (cut ns none (some 63)).map D.int) (acc := []) (env0 := [.val true (.fz (.scr ns)), .emp, .emp]) (k := 0)
    (step := compB Γ (callF Γ n) (.prim .abs [.prim .int [.var 2]]) (.nm 2) [] [2])
    (fun k l e => ∃ (cs : List Int) (s2 : Slot), l = cs.map D.int ∧ (∀ c ∈ cs, 0 ≤ c) ∧ e = [.val true (.fz (.scr ns)), .emp, s2]) ⟨[], .emp, rfl, by simp, rfl⟩ (by rw [List.length_nil, List.length_map]; exact sl_le (m := 63) (by omega) (by omega)) fun i d l e hd ⟨cs, s2, h1, h2, h3⟩ => by
      subst h1 h3
      rw [List.getElem?_map] at hd
      cases hi : (cut ns none (some 63))[i]? with
      | none => rw [hi] at hd; cases hd
      | some x =>
        rw [hi] at hd
        cases hd
        refine ⟨[.val true (.fz (.scr ns)), .emp, .val false (.fz (.int x))], .inl ⟨.int (if x < 0 then -x else x), ?_, cs ++ [if x < 0 then -x else x], _, by simp, ?_, rfl⟩⟩
        · simp [compB]
        · intro c hc
          rcases List.mem_append.mp hc with hc | hc
          · exact h2 c hc
          · rw [List.mem_singleton.mp hc]
            split <;> omega
  simp [hFn]
  rw [h1]
  simp [hb, sl5]
  exact ⟨cs, 0, 0, _, 0, rfl, h2, by omega, by omega⟩
/-- things[draw] -/
theorem someG {Γ : Tbl} {b : List CS} (k : Drw Γ b) {nm : Str} (hf : Γ.fn nm = some c_some) {l m : List D} (n : Nat) (h : Hd l) (m0 : 0 < m.length) (m1 : m.length ≤ 1000000) :
    ∃ (d : D) (l' : List D) (o : Slot), callF Γ (n + 2) nm [.own l, .own m] = .ok (.fz d, [.val true (.own l'), o]) ∧ d ∈ m ∧ Hd l' := by
  rw [callF_fn hf rfl]
  obtain ⟨d, l', e, d0, d1, h'⟩ := k.ok (z := (m.length : Int)) n h (by omega) (by omega)
  have e3 : L2.atI m d = m[d.toNat]? := atI_nat d0 d1
  have hl : d.toNat < m.length := by omega
  rw [List.getElem?_eq_getElem hl] at e3
  refine ⟨m[d.toNat], l', .val true (.own m), ?_, List.getElem_mem hl, h'⟩
  simp [c_some, evE_call k.f, dFn, e, e3]
end Rx

set_option Elab.async false
set_option linter.all false
set_option autoImplicit false
set_option maxRecDepth 100000
/-! rows of bits and their numbers -/
namespace Rx
open PySem
def numR (r : List Int) : Nat := r.foldl (fun a b => 2 * a + b.toNat) 0
def bitR (r : List Int) : Prop := ∀ x ∈ r, x = 0 ∨ x = 1
def lexU : Nat → List (List Int)
  | 0 => [[]]
  | k + 1 => (lexU k).flatMap fun r => [r ++ [0], r ++ [1]]
theorem numR_snoc (r : List Int) (b : Int) : numR (r ++ [b]) = 2 * numR r + b.toNat := by
  unfold numR
  rw [List.foldl_append]
  rfl
theorem bitR_snoc {r : List Int} {b : Int} (h : bitR (r ++ [b])) : bitR r ∧ (b = 0 ∨ b = 1) :=
  ⟨fun x hx => h x (List.mem_append.mpr (.inl hx)), h b (by simp)⟩
theorem bitR_add {r : List Int} {b : Int} (h : bitR r) (hb : b = 0 ∨ b = 1) : bitR (r ++ [b]) := fun x hx => by
  rcases List.mem_append.mp hx with hx | hx
  · exact h x hx
  · rw [List.mem_singleton.mp hx]; exact hb
theorem snoc_of {α : Type} {r : List α} {m : Nat} (h : r.length = m + 1) : ∃ q b, r = q ++ [b] ∧ q.length = m := by
  rcases List.eq_nil_or_concat r with e | ⟨q, b, e⟩
  · rw [e] at h; cases h
  · exact ⟨q, b, by rw [e, List.concat_eq_append], by rw [e] at h; simpa using h⟩
theorem numR_lt : ∀ (m : Nat) (r : List Int), r.length = m → bitR r → numR r < 2 ^ m
  | 0, r, h, _ => by rw [List.eq_nil_of_length_eq_zero h]; decide
  | m + 1, r, h, hb => by
    obtain ⟨q, b, rfl, hq⟩ := snoc_of h
    obtain ⟨h1, h2⟩ := bitR_snoc hb
    have := numR_lt m q hq h1
    rw [numR_snoc, Nat.pow_succ]
    rcases h2 with rfl | rfl <;> simp <;> omega
theorem numR_inj : ∀ (m : Nat) (r q : List Int), r.length = m → q.length = m → bitR r → bitR q → numR r = numR q → r = q
  | 0, r, q, h, h', _, _, _ => by rw [List.eq_nil_of_length_eq_zero h, List.eq_nil_of_length_eq_zero h']
  | m + 1, r, q, h, h', hb, hb', e => by
    obtain ⟨r, b, rfl, hr⟩ := snoc_of h
    obtain ⟨q, c, rfl, hq⟩ := snoc_of h'
    obtain ⟨h1, h2⟩ := bitR_snoc hb
    obtain ⟨h3, h4⟩ := bitR_snoc hb'
    rw [numR_snoc, numR_snoc] at e
    have e2 : b = c := by
      rcases h2 with rfl | rfl <;> rcases h4 with rfl | rfl <;> simp at e ⊢ <;> omega
    subst e2
    rw [numR_inj m r q hr hq h1 h3 (by omega)]
theorem lexU_mem : ∀ {m : Nat} {r : List Int}, r ∈ lexU m ↔ r.length = m ∧ bitR r
  | 0, r => by
    constructor
    · intro h
      rw [List.mem_singleton.mp h]
      exact ⟨rfl, fun x hx => by cases hx⟩
    · intro h
      rw [List.eq_nil_of_length_eq_zero h.1]
      exact List.mem_singleton.mpr rfl
  | m + 1, r => by
    show r ∈ (lexU m).flatMap _ ↔ _
    rw [List.mem_flatMap]
    constructor
    · rintro ⟨q, hq, hr⟩
      obtain ⟨h1, h2⟩ := lexU_mem.mp hq
      simp only [List.mem_cons, List.not_mem_nil, or_false] at hr
      rcases hr with rfl | rfl
      · exact ⟨by simp [h1], bitR_add h2 (.inl rfl)⟩
      · exact ⟨by simp [h1], bitR_add h2 (.inr rfl)⟩
    · rintro ⟨h, hb⟩
      obtain ⟨q, b, rfl, hq⟩ := snoc_of h
      obtain ⟨h1, h2⟩ := bitR_snoc hb
      exact ⟨q, lexU_mem.mpr ⟨hq, h1⟩, by rcases h2 with rfl | rfl <;> simp⟩
theorem range_two : ∀ k : Nat, (List.range k).flatMap (fun x => [2 * x, 2 * x + 1]) = List.range (2 * k)
  | 0 => rfl
  | k + 1 => by
    rw [List.range_succ, List.flatMap_append, range_two k, show 2 * (k + 1) = 2 * k + 1 + 1 from rfl, List.range_succ, List.range_succ, List.append_assoc]
    simp
theorem lexU_num : ∀ m : Nat, (lexU m).map numR = List.range (2 ^ m)
  | 0 => rfl
  | m + 1 => by
    show ((lexU m).flatMap fun r => [r ++ [0], r ++ [1]]).map numR = _
    rw [List.map_flatMap, Nat.pow_succ, Nat.mul_comm, ← range_two, ← lexU_num m, List.flatMap_map]
    congr 1
    funext r
    simp [numR_snoc]
theorem lexU_len (m : Nat) : (lexU m).length = 2 ^ m := by
  have := congrArg List.length (lexU_num m)
  rw [List.length_map, List.length_range] at this
  exact this
/-! ### a swap on a number -/
def led1 (w : Nat) (p : Nat × Nat) (x : Nat) : Nat := if x / 2 ^ (w - 1 - p.1) % 2 = 1 ∧ ¬ x / 2 ^ (w - 1 - p.2) % 2 = 1 then x - 2 ^ (w - 1 - p.1) + 2 ^ (w - 1 - p.2) else x
theorem num_bit : ∀ (m : Nat) (r : List Int) (a : Nat), r.length = m → bitR r → a < m → ((numR r / 2 ^ (m - 1 - a) % 2 : Nat) : Int) = r.getD a 0
  | 0, _, a, _, _, h => absurd h (Nat.not_lt_zero _)
  | m + 1, r, a, h, hb, ha => by
    obtain ⟨q, b, rfl, hq⟩ := snoc_of h
    obtain ⟨h1, h2⟩ := bitR_snoc hb
    rw [numR_snoc]
    by_cases e : a = m
    · subst e
      have e0 : a + 1 - 1 - a = 0 := by omega
      rw [e0, Nat.pow_zero, Nat.div_one]
      have e1 : (q ++ [b]).getD a 0 = b := by simp [← hq]
      rw [e1]
      rcases h2 with rfl | rfl <;> simp <;> omega
    · have e0 : m + 1 - 1 - a = (m - 1 - a) + 1 := by omega
      have e1 : (q ++ [b]).getD a 0 = q.getD a 0 := by
        rw [List.getD_eq_getElem?_getD, List.getD_eq_getElem?_getD, List.getElem?_append_left (by omega)]
      rw [e0, e1, ← num_bit m q a hq h1 (by omega), Nat.pow_succ, Nat.mul_comm (2 ^ (m - 1 - a)) 2, ← Nat.div_div_eq_div_mul]
      have e2 : (2 * numR q + b.toNat) / 2 = numR q := by rcases h2 with rfl | rfl <;> simp <;> omega
      rw [e2]
theorem num_set : ∀ (m : Nat) (r : List Int) (a : Nat) (v : Int), r.length = m → bitR r → a < m → numR (r.set a v) + (r.getD a 0).toNat * 2 ^ (m - 1 - a) = numR r + v.toNat * 2 ^ (m - 1 - a)
  | 0, _, a, _, _, _, h => absurd h (Nat.not_lt_zero _)
  | m + 1, r, a, v, h, hb, ha => by
    obtain ⟨q, b, rfl, hq⟩ := snoc_of h
    obtain ⟨h1, h2⟩ := bitR_snoc hb
    by_cases e : a = m
    · subst e
      have e0 : a + 1 - 1 - a = 0 := by omega
      have e1 : (q ++ [b]).getD a 0 = b := by simp [← hq]
      have e2 : (q ++ [b]).set a v = q ++ [v] := by
        rw [List.set_append_right _ _ (by omega)]
        simp [hq]
      rw [e0, e1, e2, numR_snoc, numR_snoc, Nat.pow_zero]
      omega
    · have e0 : m + 1 - 1 - a = (m - 1 - a) + 1 := by omega
      have e1 : (q ++ [b]).getD a 0 = q.getD a 0 := by
        rw [List.getD_eq_getElem?_getD, List.getD_eq_getElem?_getD, List.getElem?_append_left (by omega)]
      have e2 : (q ++ [b]).set a v = q.set a v ++ [b] := List.set_append_left _ _ (by omega)
      have ih := num_set m q a v hq h1 (by omega)
      rw [e0, e1, e2, numR_snoc, numR_snoc, Nat.pow_succ]
      have x1 : (q.getD a 0).toNat * (2 ^ (m - 1 - a) * 2) = 2 * ((q.getD a 0).toNat * 2 ^ (m - 1 - a)) := by rw [← Nat.mul_assoc, Nat.mul_comm]
      have x2 : v.toNat * (2 ^ (m - 1 - a) * 2) = 2 * (v.toNat * 2 ^ (m - 1 - a)) := by rw [← Nat.mul_assoc, Nat.mul_comm]
      rw [x1, x2]
      omega
theorem bit_getD {r : List Int} (h : bitR r) (a : Nat) : r.getD a 0 = 0 ∨ r.getD a 0 = 1 := by
  rw [List.getD_eq_getElem?_getD]
  cases e : r[a]? with
  | none => exact .inl rfl
  | some x => exact h x (List.mem_of_getElem? e)
theorem bitR_set {r : List Int} {a : Nat} {v : Int} (h : bitR r) (hv : v = 0 ∨ v = 1) : bitR (r.set a v) := fun x hx => by
  rcases List.mem_or_eq_of_mem_set hx with m | e
  · exact h x m
  · rw [e]; exact hv
theorem bitR_sw {r : List Int} {p : Nat × Nat} (h : bitR r) : bitR (sw1 r p) := by
  unfold sw1
  split
  · exact bitR_set (bitR_set h (bit_getD h _)) (bit_getD h _)
  · exact h
theorem bitR_run : ∀ (s : List (Nat × Nat)) {r : List Int}, bitR r → bitR (runS s r)
  | [], _, h => h
  | p :: s, r, h => bitR_run s (r := sw1 r p) (bitR_sw h)
theorem led1_num {m : Nat} {r : List Int} {p : Nat × Nat} (hl : r.length = m) (h : bitR r) (h1 : p.1 < m) (h2 : p.2 < m) (h3 : p.1 ≠ p.2) : led1 m p (numR r) = numR (sw1 r p) := by
  have b1 := num_bit m r p.1 hl h h1
  have b2 := num_bit m r p.2 hl h h2
  have c1 := bit_getD h p.1
  have c2 := bit_getD h p.2
  unfold led1 sw1
  by_cases c : r.getD p.2 0 < r.getD p.1 0
  · rw [if_pos c, if_pos (by omega)]
    have e1 : r.getD p.1 0 = 1 := by omega
    have e2 : r.getD p.2 0 = 0 := by omega
    have s1 := num_set m r p.1 (r.getD p.2 0) hl h h1
    have s2 := num_set m (r.set p.1 (r.getD p.2 0)) p.2 (r.getD p.1 0) (by rw [List.length_set]; exact hl) (bitR_set h c2) h2
    have g : (r.set p.1 (r.getD p.2 0)).getD p.2 0 = r.getD p.2 0 := by
      rw [getD_set (by omega), if_neg h3]
    rw [g, e1, e2] at s2
    rw [e1, e2] at s1
    rw [e1, e2]
    simp only [Int.toNat_zero, Int.toNat_one, Nat.zero_mul, Nat.one_mul, Nat.add_zero] at s1 s2
    have le : 2 ^ (m - 1 - p.1) ≤ numR r := by omega
    omega
  · rw [if_neg c, if_neg (by omega)]
def deedN (w : Nat) (s : List (Nat × Nat)) (x : Nat) : Nat := s.foldl (fun x p => led1 w p x) x
theorem deed_num {m : Nat} : ∀ (s : List (Nat × Nat)) {r : List Int}, okS m s → r.length = m → bitR r → deedN m s (numR r) = numR (runS s r)
  | [], _, _, _, _ => rfl
  | p :: s, r, hs, hl, h => by
    show deedN m s (led1 m p (numR r)) = numR (runS s (sw1 r p))
    obtain ⟨a, b, c⟩ := hs p List.mem_cons_self
    rw [led1_num hl h a b c]
    exact deed_num s (fun q hq => hs q (List.mem_cons_of_mem _ hq)) (by rw [sw1_len]; exact hl) (bitR_sw h)
theorem led1_lt {m x : Nat} {p : Nat × Nat} (hx : x < 2 ^ m) (h1 : p.1 < m) (h2 : p.2 < m) (h3 : p.1 ≠ p.2) : led1 m p x < 2 ^ m := by
  have : x ∈ (lexU m).map numR := by rw [lexU_num]; exact List.mem_range.mpr hx
  obtain ⟨r, hr, rfl⟩ := List.mem_map.mp this
  obtain ⟨hl, hb⟩ := lexU_mem.mp hr
  rw [led1_num hl hb h1 h2 h3]
  exact numR_lt m _ (by rw [sw1_len]; exact hl) (bitR_sw hb)
theorem deed_lt {m x : Nat} {s : List (Nat × Nat)} (hs : okS m s) (hx : x < 2 ^ m) : deedN m s x < 2 ^ m := by
  have : x ∈ (lexU m).map numR := by rw [lexU_num]; exact List.mem_range.mpr hx
  obtain ⟨r, hr, rfl⟩ := List.mem_map.mp this
  obtain ⟨hl, hb⟩ := lexU_mem.mp hr
  rw [deed_num s hs hl hb]
  exact numR_lt m _ (by rw [runS_len]; exact hl) (bitR_run s hb)
/-- a net that leaves every row of bits as it is has no swaps -/
theorem idle_nil {m : Nat} {s : List (Nat × Nat)} (hs : okS m s) (h : ∀ r ∈ lexU m, runS s r = r) : s = [] := by
  cases s with
  | nil => rfl
  | cons p t =>
    obtain ⟨h1, h2, h3⟩ := hs p List.mem_cons_self
    let r : List Int := (List.replicate m 0).set p.1 1
    have r0 : bitR (List.replicate m (0 : Int)) := fun x hx => .inl (List.eq_of_mem_replicate hx)
    have rl : r.length = m := by simp [r]
    have rb : bitR r := bitR_set r0 (.inr rfl)
    have z0 : ∀ j, (List.replicate m (0 : Int)).getD j 0 = 0 := fun j => by
      rw [List.getD_eq_getElem?_getD, List.getElem?_replicate]
      split <;> rfl
    have ra : r.getD p.1 0 = 1 := by
      show ((List.replicate m (0 : Int)).set p.1 1).getD p.1 0 = 1
      rw [getD_set (by simpa using h1), if_pos rfl]
    have rb' : r.getD p.2 0 = 0 := by
      show ((List.replicate m (0 : Int)).set p.1 1).getD p.2 0 = 0
      rw [getD_set (by simpa using h1), if_neg h3]
      exact z0 _
    have qe : sw1 r p = (r.set p.1 0).set p.2 1 := by
      unfold sw1
      rw [if_pos (by rw [ra, rb']; decide), ra, rb']
    have qa : (sw1 r p).getD p.1 0 = 0 := by
      rw [qe, getD_set2 (by omega) (by omega), if_neg fun e => h3 e.symm, if_pos rfl]
    have qb : (sw1 r p).getD p.2 0 = 1 := by
      rw [qe, getD_set2 (by omega) (by omega), if_pos rfl]
    have qq : sw1 (sw1 r p) p = sw1 r p := by
      show (if (sw1 r p).getD p.2 0 < (sw1 r p).getD p.1 0 then _ else sw1 r p) = sw1 r p
      rw [if_neg (by rw [qa, qb]; decide)]
    have e1 := h r (lexU_mem.mpr ⟨rl, rb⟩)
    have e2 := h (sw1 r p) (lexU_mem.mpr ⟨by rw [sw1_len]; exact rl, bitR_sw rb⟩)
    have e3 : runS (p :: t) (sw1 r p) = runS t (sw1 (sw1 r p) p) := rfl
    have e4 : runS (p :: t) r = runS t (sw1 r p) := rfl
    rw [e3, qq, ← e4, e1] at e2
    rw [← e2, ra] at qa
    cases qa
end Rx

set_option Elab.async false
set_option linter.all false
set_option autoImplicit false
set_option maxRecDepth 100000
/-! what nets do: by rows and by numbers -/
namespace Rx
open PySem
def leftS (m : Nat) (s : List (Nat × Nat)) : List (List Int) := (lexU m).map (runS s)
def deedL (m : Nat) (s : List (Nat × Nat)) : List Nat := (List.range (2 ^ m)).map (deedN m s)
theorem runS_app (s t : List (Nat × Nat)) (r : List Int) : runS (s ++ t) r = runS t (runS s r) := by
  unfold runS
  rw [List.foldl_append]
theorem okS_app {m : Nat} {s t : List (Nat × Nat)} (hs : okS m s) (ht : okS m t) : okS m (s ++ t) := fun p hp => by
  rcases List.mem_append.mp hp with h | h
  · exact hs p h
  · exact ht p h
theorem lex_len {m : Nat} {r : List Int} (h : r ∈ lexU m) : r.length = m := (lexU_mem.mp h).1
theorem lex_bit {m : Nat} {r : List Int} (h : r ∈ lexU m) : bitR r := (lexU_mem.mp h).2
theorem run_lex {m : Nat} {s : List (Nat × Nat)} {r : List Int} (h : r ∈ lexU m) : runS s r ∈ lexU m := lexU_mem.mpr ⟨by rw [runS_len]; exact lex_len h, bitR_run s (lex_bit h)⟩
theorem num_lex {m : Nat} {r q : List Int} (h : r ∈ lexU m) (h' : q ∈ lexU m) : numR r = numR q ↔ r = q :=
  ⟨numR_inj m r q (lex_len h) (lex_len h') (lex_bit h) (lex_bit h'), fun e => by rw [e]⟩
theorem deed_lex {m : Nat} {s : List (Nat × Nat)} (hs : okS m s) {r : List Int} (h : r ∈ lexU m) : deedN m s (numR r) = numR (runS s r) := deed_num s hs (lex_len h) (lex_bit h)
theorem deedL_num {m : Nat} {s : List (Nat × Nat)} (hs : okS m s) : deedL m s = (leftS m s).map numR := by
  unfold deedL leftS
  rw [← lexU_num, List.map_map, List.map_map]
  exact List.map_congr_left fun r hr => deed_lex hs hr
theorem map_eq_iff {α β : Type} {f g : α → β} : ∀ {l : List α}, l.map f = l.map g ↔ ∀ x ∈ l, f x = g x
  | [] => by simp
  | a :: l => by simp [map_eq_iff (l := l)]
theorem all_range {m : Nat} {p : Nat → Bool} : (List.range (2 ^ m)).all p = (lexU m).all fun r => p (numR r) := by
  rw [← lexU_num, List.all_map]
  rfl
theorem idle_iff {m : Nat} {s : List (Nat × Nat)} (hs : okS m s) : deedL m s = List.range (2 ^ m) ↔ leftS m s = lexU m := by
  have e : lexU m = (lexU m).map id := (List.map_id _).symm
  rw [deedL_num hs, ← lexU_num]
  unfold leftS
  rw [List.map_map, map_eq_iff]
  conv => rhs; rw [e, List.map_map, map_eq_iff]
  exact ⟨fun h r hr => (num_lex (run_lex hr) hr).mp (h r hr), fun h r hr => (num_lex (run_lex hr) hr).mpr (h r hr)⟩
theorem dec_all {α : Type} {p : α → Bool} {P : α → Prop} [DecidablePred P] {l : List α} {Q : Prop} [Decidable Q] (h : ∀ x ∈ l, (p x = true ↔ P x)) (hq : Q ↔ ∀ x ∈ l, P x) : l.all p = decide Q := by
  apply Bool.eq_iff_iff.mpr
  rw [List.all_eq_true, decide_eq_true_iff, hq]
  exact ⟨fun k x hx => (h x hx).mp (k x hx), fun k x hx => (h x hx).mpr (k x hx)⟩
theorem settle_iff {m : Nat} {s : List (Nat × Nat)} (hs : okS m s) : ((List.range (2 ^ m)).all fun x => decide (deedN m s (deedN m s x) = deedN m s x)) = decide (leftS m (s ++ s) = leftS m s) := by
  rw [all_range]
  refine dec_all (P := fun r => runS s (runS s r) = runS s r) (fun r hr => ?_) ?_
  · rw [decide_eq_true_iff, deed_lex hs hr, deed_lex hs (run_lex hr)]
    exact num_lex (run_lex (run_lex hr)) (run_lex hr)
  · unfold leftS
    rw [map_eq_iff]
    exact ⟨fun h r hr => by rw [← runS_app]; exact h r hr, fun h r hr => by rw [runS_app]; exact h r hr⟩
theorem kept_eq {m : Nat} {s : List (Nat × Nat)} (hs : okS m s) : (List.range (2 ^ m)).filter (fun x => decide (deedN m s x = x)) = ((lexU m).filter fun r => decide (runS s r = r)).map numR := by
  rw [← lexU_num, List.filter_map]
  congr 1
  refine List.filter_congr fun r hr => ?_
  show decide (deedN m s (numR r) = numR r) = _
  rw [deed_lex hs hr]
  exact decide_eq_decide.mpr (num_lex (run_lex hr) hr)
theorem finer_eq {m : Nat} {s t : List (Nat × Nat)} (hs : okS m s) (ht : okS m t) : ((deedL m s).all fun x => decide (x ∈ deedL m t)) = (leftS m s).all fun r => decide (r ∈ leftS m t) := by
  rw [deedL_num hs, deedL_num ht, List.all_map]
  apply Bool.eq_iff_iff.mpr
  rw [List.all_eq_true, List.all_eq_true]
  have key : ∀ r ∈ leftS m s, (numR r ∈ (leftS m t).map numR ↔ r ∈ leftS m t) := fun r hr => by
    obtain ⟨r0, hr0, rfl⟩ := List.mem_map.mp hr
    constructor
    · intro h
      obtain ⟨q, hq, e⟩ := List.mem_map.mp h
      obtain ⟨q0, hq0, rfl⟩ := List.mem_map.mp hq
      rw [← (num_lex (run_lex hq0) (run_lex hr0)).mp e]
      exact hq
    · exact fun h => List.mem_map.mpr ⟨_, h, rfl⟩
  refine forall_congr' fun r => forall_congr' fun hr => ?_
  rw [Function.comp_apply, decide_eq_true_iff, decide_eq_true_iff]
  exact key r hr
theorem comm_eq {m : Nat} {s t : List (Nat × Nat)} (hs : okS m s) (ht : okS m t) : ((List.range (2 ^ m)).all fun x => decide (deedN m t (deedN m s x) = deedN m s (deedN m t x))) = decide (leftS m (s ++ t) = leftS m (t ++ s)) := by
  rw [all_range]
  refine dec_all (P := fun r => runS t (runS s r) = runS s (runS t r)) (fun r hr => ?_) ?_
  · rw [decide_eq_true_iff, deed_lex hs hr, deed_lex ht hr, deed_lex ht (run_lex hr), deed_lex hs (run_lex hr)]
    exact num_lex (run_lex (run_lex hr)) (run_lex (run_lex hr))
  · unfold leftS
    rw [map_eq_iff]
    exact ⟨fun h r hr => by rw [← runS_app, ← runS_app]; exact h r hr, fun h r hr => by rw [runS_app, runS_app]; exact h r hr⟩
/-- where the net settles: what it leaves is what it keeps -/
theorem settled_set {m : Nat} {s : List (Nat × Nat)} (h : leftS m (s ++ s) = leftS m s) :
    setOfI ((leftS m s).map fun r => (numR r : Int)) = ((lexU m).filter fun r => decide (runS s r = r)).map fun r => (numR r : Int) := by
  have h' : ∀ r ∈ lexU m, runS s (runS s r) = runS s r := by
    unfold leftS at h
    rw [map_eq_iff] at h
    exact fun r hr => by rw [← runS_app]; exact h r hr
  refine asc_eq (setOfI_asc _) ?_ fun k => ?_
  · have hr : ((lexU m).map numR).Pairwise (· < ·) := by rw [lexU_num]; exact List.pairwise_lt_range
    have hf : (((lexU m).filter fun r => decide (runS s r = r)).map numR).Pairwise (· < ·) := hr.sublist (List.Sublist.map _ List.filter_sublist)
    rw [List.pairwise_map] at hf ⊢
    exact hf.imp fun h => by exact_mod_cast h
  · rw [setOfI_mem]
    constructor
    · intro hk
      obtain ⟨q, hq, rfl⟩ := List.mem_map.mp hk
      obtain ⟨r, hr, rfl⟩ := List.mem_map.mp hq
      exact List.mem_map.mpr ⟨runS s r, List.mem_filter.mpr ⟨run_lex hr, decide_eq_true (h' r hr)⟩, rfl⟩
    · intro hk
      obtain ⟨r, hr, rfl⟩ := List.mem_map.mp hk
      obtain ⟨h1, h2⟩ := List.mem_filter.mp hr
      exact List.mem_map.mpr ⟨r, List.mem_map.mpr ⟨r, h1, of_decide_eq_true h2⟩, rfl⟩
end Rx

set_option Elab.async false
set_option linter.all false
set_option autoImplicit false
set_option maxRecDepth 100000
set_option maxHeartbeats 2000000
namespace Rx
open PySem
structure K4 (Γ : Tbl) : Prop where
  chk : Chk Γ
  net : NetK Γ
  draw : Γ.fn "_law_draw" = some c_draw
  smm : Γ.fn "_law_some" = some c_some
  shuf : Γ.fn "_law_shuffled" = some c_shuffled
  lrun : Γ.fn "_law_run" = some c_run2
  bits : Γ.fn "_law_bits" = some k_law_bits
  row : Γ.fn "_law_row" = some k_law_row
  lint : Γ.fn "_law_is_int" = some k_is_int
  unt : Γ.fn "untangled" = some k_untangled
  std : Γ.fn "is_standard" = some k_is_standard
  eq : Γ.fn "Net.__eq__" = some k_Net_eq
  eqm : Γ.eqm "Net" = some "Net.__eq__"
  run : Γ.fn "run" = some k_run
  raw : Γ.fn "raw_run" = some k_raw_run
  isrow : Γ.fn "is_row" = some k_is_row
  ckrow : Γ.fn "check_row" = some k_check_row
  msz : Γ.cst "MOST_SIZE" = some (.int 1000000000)

def k_law_is_right : Fn := { np := 3, ns := 15, pins := [0, 1, 2], body := [.asg (.nm 3) (.make "Net" [.var 1, .var 2]), .asg (.nm 4) (.call "untangled" [.var 3]), .ite (.or (.not (.prim (.isa ["tuple"]) [.var 4])) (.or (.prim .ne [.prim .len [.var 4], .con (.int 2)]) (.not (.prim (.isa ["Net"]) [.prim .idx [.var 4, .con (.int 0)]])))) [.ret (.con (.bl false))] [], .asg (.tp [.nm 6, .nm 7]) (.var 4), .ite (.or (.not (.eqc [.prim .idx [.call "untangled" [.var 3], .con (.int 0)], .var 6])) (.or (.prim .ne [.prim .repr [.prim .idx [.call "untangled" [.var 3], .con (.int 1)]], .prim .repr [.var 7]]) (.prim (.notB true) [.call "is_standard" [.var 6]]))) [.ret (.con (.bl false))] [], .ite (.or (.prim .ne [.prim (.fld "wires") [.var 6], .var 1]) (.or (.prim .ne [.prim .len [.prim (.fld "swaps") [.var 6]], .prim .len [.var 2]]) (.not (.prim .all [.comp (.prim .lt [.var 11, .var 12]) (.tp [.nm 11, .nm 12]) .plain [.prim (.fld "swaps") [.var 6]] [] [11, 12]])))) [.ret (.con (.bl false))] [], .ite (.or (.not (.prim (.isa ["tuple"]) [.var 7])) (.not (.prim .all [.comp (.call "_law_is_int" [.var 13]) (.nm 13) .plain [.var 7] [] [13]]))) [.ret (.con (.bl false))] [], .ite (.prim .ne [.prim .sorted [.var 7], .prim (.listR 1) [.var 1]]) [.ret (.con (.bl false))] [], .for (.nm 5) .plain [.prim .add [.call "_law_bits" [.var 1], .comp (.call "_law_row" [.var 0, .var 1]) (.nm 10) (.range 1) [.con (.int 5)] [] [10]]] [.par [8, 9] [.call "_law_run" [.var 2, .var 5], .call "_law_run" [.prim (.fld "swaps") [.var 6], .var 5]], .ite (.or (.prim .ne [.call "run" [.var 6, .var 5], .var 9]) (.prim .ne [.prim .tuple [.comp (.prim .idx [.var 8, .prim .idx [.var 7, .var 14]]) (.nm 14) (.range 1) [.var 1] [] [14]], .var 9])) [.ret (.con (.bl false))] []], .ite (.prim .all [.comp (.prim .lt [.var 11, .var 12]) (.tp [.nm 11, .nm 12]) .plain [.var 2] [] [11, 12]]) [.ret (.and (.eqc [.var 6, .var 3]) (.eqc [.var 7, .prim (.tupleR 1) [.var 1]]))] [], .ret (.eqc [.prim .repr [.lst [.prim (.fld "wires") [.var 3], .prim (.fld "swaps") [.var 3]]], .prim .repr [.lst [.var 1, .var 2]]])] }
@[simp] theorem at_unD0 {m : Nat} {s : List (Nat × Nat)} : L2.atI [netD m (unS m s).2, .tup (encN (invK m (unS m s).1 m))] 0 = some (netD m (unS m s).2) := rfl
/-- all wires of swaps in their order -/
def ascS (s : List (Nat × Nat)) : Bool := s.all fun p => decide (p.1 < p.2)
def ascC (src : CE) : CE := .prim .all [.comp (.prim .lt [.var 11, .var 12]) (.tp [.nm 11, .nm 12]) .plain [src] [] [11, 12]]

theorem ascC_ok {Γ : Tbl} {cl : Call} {src : CE} {l : List D} {m : Nat} {s t : List (Nat × Nat)} {s3 s4 s5 s6 s7 s8 s9 s10 s11 s12 s13 s14 : Slot} (ht : t.length ≤ 1000)
    (hs : evAs Γ cl [src] [.val true (.own l), .val true (.fz (.int m)), .val true (.fz (.tup (encS s))), s3, s4, s5, s6, s7, s8, s9, s10, s11, s12, s13, s14] = .ok ([.val (.fz (.tup (encS t)))], [.val true (.own l), .val true (.fz (.int m)), .val true (.fz (.tup (encS s))), s3, s4, s5, s6, s7, s8, s9, s10, s11, s12, s13, s14])) : evE Γ cl (ascC src) [.val true (.own l), .val true (.fz (.int m)), .val true (.fz (.tup (encS s))), s3, s4, s5, s6, s7, s8, s9, s10, s11, s12, s13, s14] = .ok (.fz (.bl (ascS t)), [.val true (.own l), .val true (.fz (.int m)), .val true (.fz (.tup (encS s))), s3, s4, s5, s6, s7, s8, s9, s10, s11, s12, s13, s14]) := by
  obtain ⟨e', h1, t11, t12, rfl, _, _⟩ := compL_m (step := compB Γ cl (.prim .lt [.var 11, .var 12]) (.tp [.nm 11, .nm 12]) [] [11, 12]) (fun p : Nat × Nat => D.tup [.int p.1, .int p.2]) (fun p => D.bl (decide (p.1 < p.2)))
    (fun e => ∃ t11 t12, e = [.val true (.own l), .val true (.fz (.int m)), .val true (.fz (.tup (encS s))), s3, s4, s5, s6, s7, s8, s9, s10, t11, t12, s13, s14] ∧ Fr t11 ∧ Fr t12) (xs := t) (env0 := [.val true (.own l), .val true (.fz (.int m)), .val true (.fz (.tup (encS s))), s3, s4, s5, s6, s7, s8, s9, s10, .emp, .emp, s13, s14]) ⟨_, _, rfl, .emp, .emp⟩ (by omega) fun x hx e ⟨t11, t12, he, f1, f2⟩ => by
      subst he
      refine ⟨_, ?_, .val false (.fz (.int x.1)), .val false (.fz (.int x.2)), rfl, .val, .val⟩
      simp [compB]
  have hm : encS t = List.map (fun p : Nat × Nat => D.tup [.int p.1, .int p.2]) t := rfl
  have hb := p_allB (fun p : Nat × Nat => decide (p.1 < p.2)) t
  unfold ascC
  rw [evE_prim, evAs_comp, evE_compE, hs]
  simp
  rw [hm, h1]
  simp [hb, ascS]

theorem row_turn {Γ : Tbl} (k : K4 Γ) (n : Nat) {l : List D} {m : Nat} {s : List (Nat × Nat)} (m1 : 1 ≤ m) (m2 : m ≤ 10) (hs : okS m s) (hl : s.length ≤ 60) {r : List Int} (hr : r.length = m) (hx : ∀ x ∈ r, -1000000000 ≤ x ∧ x ≤ 1000000000) {s8 s9 : Slot} (f8 : Fr s8) (f9 : Fr s9) :
    ∃ t8 t9, evSs Γ (callF Γ (n + 5)) [.par [8, 9] [.call "_law_run" [.var 2, .var 5], .call "_law_run" [.prim (.fld "swaps") [.var 6], .var 5]], .ite (.or (.prim .ne [.call "run" [.var 6, .var 5], .var 9]) (.prim .ne [.prim .tuple [.comp (.prim .idx [.var 8, .prim .idx [.var 7, .var 14]]) (.nm 14) (.range 1) [.var 1] [] [14]], .var 9])) [.ret (.con (.bl false))] []] [.val true (.own l), .val true (.fz (.int m)), .val true (.fz (.tup (encS s))), .val false (.fz (netD m s)), .val false (.fz (unD m s)), .val false (.fz (encT r)), .val false (.fz (netD m (unS m s).2)), .val false (.fz (.tup (encN (invK m (unS m s).1 m)))), s8, s9, .emp, .emp, .emp, .emp, .emp]
      = .ok (.nx, [.val true (.own l), .val true (.fz (.int m)), .val true (.fz (.tup (encS s))), .val false (.fz (netD m s)), .val false (.fz (unD m s)), .val false (.fz (encT r)), .val false (.fz (netD m (unS m s).2)), .val false (.fz (.tup (encN (invK m (unS m s).1 m)))), t8, t9, .emp, .emp, .emp, .emp, .emp]) ∧ Fr t8 ∧ Fr t9 := by
  obtain ⟨b1, b2, b3, b4⟩ := plc_unS (st := (List.range m, [])) hs (plc_range m) (fun q hq => by cases hq) (fun q hq => by cases hq)
  obtain ⟨o1, e1⟩ := run2_ok (Γ := Γ) k.lrun (n + 4) (s := s) (r := r) (by rw [hr]; exact hs)
  obtain ⟨o2, e2⟩ := run2_ok (Γ := Γ) k.lrun (n + 4) (s := (unS m s).2) (r := r) (by rw [hr]; exact b2)
  obtain ⟨o3, e3⟩ := run_ok k.chk n k.run k.raw k.isrow k.ckrow k.msz (m := m) (s := (unS m s).2) (r := r) b2 hr hx (by omega)
  refine ⟨.val false (.fz (encT (runS s r))), .val false (.fz (encT (runS (unS m s).2 r))), ?_, .val, .val⟩
  have hlen : (runS (unS m s).2 r).length = m := by rw [runS_len, hr]
  have hlen2 : (runS s r).length = m := by rw [runS_len, hr]
  have pi := plc_inv (l := (unS m s).1) b1
  -- the things by the order
  obtain ⟨e', h1, t14, rfl, _⟩ := compL_m (step := compB Γ (callF Γ (n + 5)) (.prim .idx [.var 8, .prim .idx [.var 7, .var 14]]) (.nm 14) [] [14]) (fun i : Nat => D.int i) (fun i : Nat => D.int ((runS s r).getD ((invK m (unS m s).1 m).getD i 0) 0))
    (fun e => ∃ t14, e = [.val true (.own l), .val true (.fz (.int m)), .val true (.fz (.tup (encS s))), .val false (.fz (netD m s)), .val false (.fz (unD m s)), .val false (.fz (encT r)), .val false (.fz (netD m (unS m s).2)), .val false (.fz (.tup (encN (invK m (unS m s).1 m)))), .val false (.fz (encT (runS s r))), .val false (.fz (encT (runS (unS m s).2 r))), .emp, .emp, .emp, .emp, t14] ∧ Fr t14) (xs := List.range m) (env0 := [.val true (.own l), .val true (.fz (.int m)), .val true (.fz (.tup (encS s))), .val false (.fz (netD m s)), .val false (.fz (unD m s)), .val false (.fz (encT r)), .val false (.fz (netD m (unS m s).2)), .val false (.fz (.tup (encN (invK m (unS m s).1 m)))), .val false (.fz (encT (runS s r))), .val false (.fz (encT (runS (unS m s).2 r))), .emp, .emp, .emp, .emp, .emp]) ⟨_, rfl, .emp⟩ (by rw [List.length_range]; omega) fun x hx e ⟨t14, he, f1⟩ => by
      subst he
      have hxm := List.mem_range.mp hx
      have a1 := at_encN (l := invK m (unS m s).1 m) (i := x) (by rw [invK_len]; exact hxm)
      have a2 := at_map (xs := runS s r) (i := (invK m (unS m s).1 m).getD x 0) (by rw [hlen2]; exact pi.lt x hxm)
      refine ⟨_, ?_, .val false (.fz (.int x)), rfl, .val⟩
      simp only [List.getD_eq_getElem?_getD] at a1 a2
      simp [compB, encT, a1, a2]
  have hm : encN (List.range m) = List.map (fun i : Nat => D.int i) (List.range m) := rfl
  have same : (List.range m).map (fun i : Nat => D.int ((runS s r).getD ((invK m (unS m s).1 m).getD i 0) 0)) = (runS (unS m s).2 r).map D.int := by
    refine List.ext_getElem (by rw [List.length_map, List.length_map, List.length_range, hlen]) fun i h1 h2 => ?_
    rw [List.length_map, List.length_range] at h1
    obtain ⟨q1, q2⟩ := inv_right (l := (unS m s).1) b1 h1
    have := unS_run hs hr ((invK m (unS m s).1 m).getD i 0) q1
    rw [q2] at this
    rw [List.getElem_map, List.getElem_map, List.getElem_range, this]
    simp [hlen, h1]
  rw [same] at h1
  have it := it_range (m := m) (by omega)
  have pn := p_ne_self (a := encT (runS (unS m s).2 r)) (encI_fits 39 _)
  have b1' : Plc m (unS m s).1 := b1
  refine st_then (env' := [.val true (.own l), .val true (.fz (.int m)), .val true (.fz (.tup (encS s))), .val false (.fz (netD m s)), .val false (.fz (unD m s)), .val false (.fz (encT r)), .val false (.fz (netD m (unS m s).2)), .val false (.fz (.tup (encN (invK m (unS m s).1 m)))), .val false (.fz (encT (runS s r))), .val false (.fz (encT (runS (unS m s).2 r))), .emp, .emp, .emp, .emp, .emp]) ?_ (st_then (env' := [.val true (.own l), .val true (.fz (.int m)), .val true (.fz (.tup (encS s))), .val false (.fz (netD m s)), .val false (.fz (unD m s)), .val false (.fz (encT r)), .val false (.fz (netD m (unS m s).2)), .val false (.fz (.tup (encN (invK m (unS m s).1 m)))), .val false (.fz (encT (runS s r))), .val false (.fz (encT (runS (unS m s).2 r))), .emp, .emp, .emp, .emp, .emp]) ?_ rfl)
  · unfold encT
    simp [evE_call k.lrun, c_run2, e1, e2, stO_fr f8, stO_fr f9, Val.frz]
  · unfold encT at *
    simp [evE_call k.run, k_run, e3, pn, it]
    rw [hm, h1]
    simp [pn]

end Rx

set_option Elab.async false
set_option linter.all false
set_option autoImplicit false
set_option maxRecDepth 100000
set_option maxHeartbeats 2000000
namespace Rx
open PySem
theorem sml_nat {i : Nat} (h : i < 1000) : (D.int (i : Int)).sml = true := decide_eq_true (by
  have : ((i : Int)).natAbs = i := Int.natAbs_natCast i
  omega)
theorem encS_sml {m : Nat} {s : List (Nat × Nat)} (hs : okS m s) (hm : m ≤ 1000) : D.smls (encS s) = true := by
  rw [smls_iff]
  intro d hd
  obtain ⟨p, hp, rfl⟩ := List.mem_map.mp hd
  obtain ⟨h1, h2, _⟩ := hs p hp
  show (D.sml (.int p.1) && (D.sml (.int p.2) && true)) = true
  rw [sml_nat (by omega), sml_nat (by omega)]
  rfl
theorem encS_cnt : ∀ s : List (Nat × Nat), D.cnts (encS s) = 3 * s.length
  | [] => rfl
  | p :: s => by
    show D.cnt (.tup [.int p.1, .int p.2]) + D.cnts (encS s) = _
    rw [encS_cnt s, List.length_cons]
    show (1 + (1 + (1 + 0))) + _ = _
    omega
theorem encN_sml {s : List Nat} (hs : ∀ i ∈ s, i < 1000) : D.smls (encN s) = true := by
  rw [smls_iff]
  intro d hd
  obtain ⟨p, hp, rfl⟩ := List.mem_map.mp hd
  exact sml_nat (hs p hp)
theorem encN_cnt : ∀ s : List Nat, D.cnts (encN s) = s.length
  | [] => rfl
  | p :: s => by
    show 1 + D.cnts (encN s) = _
    rw [encN_cnt s, List.length_cons]
    omega
theorem p_tupleR {k m : Nat} (h : m ≤ 1000000) : primO (.tupleR k) [.int (m : Int)] = .ok (.fz (.tup (encN (List.range m)))) := by
  rw [primO_eq]
  show (if B62 (m : Int) = true then Res.ok (rng 0 (m : Int)) else .bad).bind tup? = _
  rw [if_pos (b62_nat h), rng_nat]
  show tup? _ = _
  rw [tup?_ite, if_pos (sl_le (by rw [encN_len, List.length_range]; exact h) (Nat.le_refl _))]
section
variable {Γ : Tbl} {cl : Call} {env env' : Env} {a b t : CE} {p q : List CS} {X : Res (Val × Env)}
theorem or_f (h : evE Γ cl a env = .ok (.fz (.bl false), env')) : evE Γ cl (.or a b) env = evE Γ cl b env' := by rw [evE_or, h]; simp
theorem or_t (h : evE Γ cl a env = .ok (.fz (.bl true), env')) : evE Γ cl (.or a b) env = .ok (.fz (.bl true), env') := by rw [evE_or, h]; simp
theorem and_t (h : evE Γ cl a env = .ok (.fz (.bl true), env')) : evE Γ cl (.and a b) env = evE Γ cl b env' := by rw [evE_and, h]; simp
theorem and_f (h : evE Γ cl a env = .ok (.fz (.bl false), env')) : evE Γ cl (.and a b) env = .ok (.fz (.bl false), env') := by rw [evE_and, h]; simp
theorem not_t (h : evE Γ cl a env = .ok (.fz (.bl true), env')) : evE Γ cl (.not a) env = .ok (.fz (.bl false), env') := by rw [evE_not, h]; simp
theorem not_f (h : evE Γ cl a env = .ok (.fz (.bl false), env')) : evE Γ cl (.not a) env = .ok (.fz (.bl true), env') := by rw [evE_not, h]; simp
theorem ite_t (h : evE Γ cl t env = .ok (.fz (.bl true), env')) : evS Γ cl (.ite t p q) env = evSs Γ cl p env' := by rw [evS_ite, h]; simp
theorem ite_f (h : evE Γ cl t env = .ok (.fz (.bl false), env')) : evS Γ cl (.ite t p q) env = evSs Γ cl q env' := by rw [evS_ite, h]; simp
end
/-- the rows that are tried -/
def RowsOk (m : Nat) (rows : List (List Int)) : Prop := ∀ r ∈ rows, r.length = m ∧ ∀ x ∈ r, -1000000000 ≤ x ∧ x ≤ 1000000000

theorem rows5_ok {Γ : Tbl} (k : K4 Γ) (n : Nat) {l : List D} (h : Hd l) {m : Nat} {s : List (Nat × Nat)} (m2 : m ≤ 10) :
    ∃ (l' : List D) (rows : List (List Int)), evE Γ (callF Γ (n + 5)) (.comp (.call "_law_row" [.var 0, .var 1]) (.nm 10) (.range 1) [.con (.int 5)] [] [10]) [.val true (.own l), .val true (.fz (.int m)), .val true (.fz (.tup (encS s))), .val false (.fz (netD m s)), .val false (.fz (unD m s)), .emp, .val false (.fz (netD m (unS m s).2)), .val false (.fz (.tup (encN (invK m (unS m s).1 m)))), .emp, .emp, .emp, .emp, .emp, .emp, .emp] = .ok (.own (encR rows), [.val true (.own l'), .val true (.fz (.int m)), .val true (.fz (.tup (encS s))), .val false (.fz (netD m s)), .val false (.fz (unD m s)), .emp, .val false (.fz (netD m (unS m s).2)), .val false (.fz (.tup (encN (invK m (unS m s).1 m)))), .emp, .emp, .emp, .emp, .emp, .emp, .emp]) ∧ Hd l' ∧ RowsOk m rows ∧ rows.length = 5 := by
  obtain ⟨acc, e2, h2, rows, lh, s10, rfl, rfl, hh, hr, hx, f3⟩ := compL_inv (step := compB Γ (callF Γ (n + 5)) (.call "_law_row" [.var 0, .var 1]) (.nm 10) [] [10]) (its := encN (List.range 5)) (acc := []) (k := 0) (env0 := [.val true (.own l), .val true (.fz (.int m)), .val true (.fz (.tup (encS s))), .val false (.fz (netD m s)), .val false (.fz (unD m s)), .emp, .val false (.fz (netD m (unS m s).2)), .val false (.fz (.tup (encN (invK m (unS m s).1 m)))), .emp, .emp, .emp, .emp, .emp, .emp, .emp])
    (fun i acc e => ∃ (rows : List (List Int)) (lh : List D) (s10 : Slot), acc = encR rows ∧ e = [.val true (.own lh), .val true (.fz (.int m)), .val true (.fz (.tup (encS s))), .val false (.fz (netD m s)), .val false (.fz (unD m s)), .emp, .val false (.fz (netD m (unS m s).2)), .val false (.fz (.tup (encN (invK m (unS m s).1 m)))), .emp, .emp, s10, .emp, .emp, .emp, .emp] ∧ Hd lh ∧ rows.length = i ∧ RowsOk m rows ∧ Fr s10)
    ⟨[], l, .emp, rfl, rfl, h, rfl, (fun x hx => by cases hx), .emp⟩ (sl_le (m := 5) (by simp [encN]) (by omega)) fun i d acc e hi ⟨rows, lh, s10, ha, he, hh, hr, hx, f3⟩ => by
      subst he ha
      obtain ⟨r, l3, e4, h3, q1, q2⟩ := law_row_ok k.draw k.smm (n + 2) k.row hh (m := m) (by omega)
      refine ⟨_, .inl ⟨encT r, ?_, rows ++ [r], l3, .val false (.fz d), by simp [encR], rfl, h3, by simp [hr], ?_, .val⟩⟩
      · simp [compB, evE_call k.row, k_law_row, e4, Val.frz]
      · intro r' hr'
        rcases List.mem_append.mp hr' with hr' | hr'
        · exact hx r' hr'
        · rw [List.mem_singleton.mp hr']
          exact ⟨q1, q2⟩
  refine ⟨lh, rows, ?_, hh, hx, by rw [hr]; rfl⟩
  have it := it_range (m := 5) (by omega)
  rw [show ((5 : Nat) : Int) = 5 from rfl] at it
  simp [it]
  rw [h2]
  simp

theorem is_right_ok {Γ : Tbl} (k : K4 Γ) (n : Nat) (hf : Γ.fn "_law_is_right" = some k_law_is_right) {l : List D} (h : Hd l) {m : Nat} {s : List (Nat × Nat)} (m1 : 1 ≤ m) (m2 : m ≤ 10) (hs : okS m s) (hl : s.length ≤ 60) :
    ∃ (l' : List D), callF Γ (n + 6) "_law_is_right" [.own l, .fz (.int m), .fz (.tup (encS s))] = .ok (.fz (.bl true), [.val true (.own l'), .val true (.fz (.int m)), .val true (.fz (.tup (encS s)))]) ∧ Hd l' := by
  rw [callF_fn hf rfl]
  obtain ⟨b1, b2, b3, b4⟩ := plc_unS (st := (List.range m, [])) hs (plc_range m) (fun q hq => by cases hq) (fun q hq => by cases hq)
  have b1 : Plc m (unS m s).1 := b1
  have b2 : okS m (unS m s).2 := b2
  have b3 : ∀ p ∈ (unS m s).2, p.1 < p.2 := b3
  have b4 : (unS m s).2.length = s.length := by
    have : (unS m s).2.length = 0 + s.length := b4
    omega
  have asc2 : ascS (unS m s).2 = true := by
    unfold ascS
    rw [List.all_eq_true]
    exact fun p hp => decide_eq_true (b3 p hp)
  have pi := plc_inv (l := (unS m s).1) b1
  generalize ho : invK m (unS m s).1 m = ord at pi
  have ol : ord.length = m := pi.len
  have olt : ∀ i ∈ ord, i < m := fun i hi => by
    obtain ⟨j, hj, rfl⟩ := List.mem_iff_getElem.mp hi
    have := pi.lt j (by rw [← pi.len]; exact hj)
    simpa [hj] using this
  obtain ⟨o1, e1⟩ := untangled_ok k.chk k.net n k.unt m1 m2 hs hl
  obtain ⟨o2, e2⟩ := net_eq_ok (n + 4) k.eq (m := m) (m' := m) (s := (unS m s).2) (s' := (unS m s).2)
  obtain ⟨o3, e3⟩ := standard_ok (n + 4) k.std (m := m) b3 (by omega)
  have pr := p_reprT (l := encN ord) (encN_fits 40 ord) (encN_sml fun i hi => by have := olt i hi; omega) (by rw [encN_cnt, ol]; omega)
  have ps := p_ne_self (a := .str (D.tup (encN ord)).py.shown) fit_str
  have pso := p_sortedT (sortable_N (l := ord) (by omega))
  rw [sortD_encN, plc_perm pi] at pso
  have plr := p_listR (k := 1) (m := m) (by omega)
  have pne := p_ne_self (a := .lst (encN (List.range m))) (encN_fits 39 _)
  have unD_eq : unD m s = .tup [netD m (unS m s).2, .tup (encN ord)] := by unfold unD; rw [ho]
  -- statement by statement
  have c0 : evS Γ (callF Γ (n + 5)) (.asg (.nm 3) (.make "Net" [.var 1, .var 2])) [.val true (.own l), .val true (.fz (.int m)), .val true (.fz (.tup (encS s))), .emp, .emp, .emp, .emp, .emp, .emp, .emp, .emp, .emp, .emp, .emp, .emp] = .ok (.nx, [.val true (.own l), .val true (.fz (.int m)), .val true (.fz (.tup (encS s))), .val false (.fz (netD m s)), .emp, .emp, .emp, .emp, .emp, .emp, .emp, .emp, .emp, .emp, .emp]) := by
    rw [evS_asgN, r_make k.chk k.net (n + 1) m1 m2 hs hl (env' := [.val true (.own l), .val true (.fz (.int m)), .val true (.fz (.tup (encS s))), .emp, .emp, .emp, .emp, .emp, .emp, .emp, .emp, .emp, .emp, .emp, .emp]) (by simp)]
    simp
  have c1 : evS Γ (callF Γ (n + 5)) (.asg (.nm 4) (.call "untangled" [.var 3])) [.val true (.own l), .val true (.fz (.int m)), .val true (.fz (.tup (encS s))), .val false (.fz (netD m s)), .emp, .emp, .emp, .emp, .emp, .emp, .emp, .emp, .emp, .emp, .emp] = .ok (.nx, [.val true (.own l), .val true (.fz (.int m)), .val true (.fz (.tup (encS s))), .val false (.fz (netD m s)), .val false (.fz (unD m s)), .emp, .emp, .emp, .emp, .emp, .emp, .emp, .emp, .emp, .emp]) := by
    simp [evE_call k.unt, k_untangled, e1]
  have c2 : evS Γ (callF Γ (n + 5)) (.ite (.or (.not (.prim (.isa ["tuple"]) [.var 4])) (.or (.prim .ne [.prim .len [.var 4], .con (.int 2)]) (.not (.prim (.isa ["Net"]) [.prim .idx [.var 4, .con (.int 0)]])))) [.ret (.con (.bl false))] []) [.val true (.own l), .val true (.fz (.int m)), .val true (.fz (.tup (encS s))), .val false (.fz (netD m s)), .val false (.fz (unD m s)), .emp, .emp, .emp, .emp, .emp, .emp, .emp, .emp, .emp, .emp] = .ok (.nx, [.val true (.own l), .val true (.fz (.int m)), .val true (.fz (.tup (encS s))), .val false (.fz (netD m s)), .val false (.fz (unD m s)), .emp, .emp, .emp, .emp, .emp, .emp, .emp, .emp, .emp, .emp]) := by
    rw [unD_eq]
    simp
  have c3 : evS Γ (callF Γ (n + 5)) (.asg (.tp [.nm 6, .nm 7]) (.var 4)) [.val true (.own l), .val true (.fz (.int m)), .val true (.fz (.tup (encS s))), .val false (.fz (netD m s)), .val false (.fz (unD m s)), .emp, .emp, .emp, .emp, .emp, .emp, .emp, .emp, .emp, .emp] = .ok (.nx, [.val true (.own l), .val true (.fz (.int m)), .val true (.fz (.tup (encS s))), .val false (.fz (netD m s)), .val false (.fz (unD m s)), .emp, .val false (.fz (netD m (unS m s).2)), .val false (.fz (.tup (encN (invK m (unS m s).1 m)))), .emp, .emp, .emp, .emp, .emp, .emp, .emp]) := by
    rw [unD_eq, ho]
    simp
  rw [ho] at c3
  have c4 : evS Γ (callF Γ (n + 5)) (.ite (.or (.not (.eqc [.prim .idx [.call "untangled" [.var 3], .con (.int 0)], .var 6])) (.or (.prim .ne [.prim .repr [.prim .idx [.call "untangled" [.var 3], .con (.int 1)]], .prim .repr [.var 7]]) (.prim (.notB true) [.call "is_standard" [.var 6]]))) [.ret (.con (.bl false))] []) [.val true (.own l), .val true (.fz (.int m)), .val true (.fz (.tup (encS s))), .val false (.fz (netD m s)), .val false (.fz (unD m s)), .emp, .val false (.fz (netD m (unS m s).2)), .val false (.fz (.tup (encN (ord)))), .emp, .emp, .emp, .emp, .emp, .emp, .emp] = .ok (.nx, [.val true (.own l), .val true (.fz (.int m)), .val true (.fz (.tup (encS s))), .val false (.fz (netD m s)), .val false (.fz (unD m s)), .emp, .val false (.fz (netD m (unS m s).2)), .val false (.fz (.tup (encN (ord)))), .emp, .emp, .emp, .emp, .emp, .emp, .emp]) := by
    have e1' := e1
    rw [unD_eq] at e1'
    simp [evE_call k.unt, k_untangled, evE_call k.std, k_is_standard, e1', unD_eq]
    simp [eqR_net k.eqm, e2, e1', pr, ps, e3]
  have a1 := ascC_ok (Γ := Γ) (cl := callF Γ (n + 5)) (src := .prim (.fld "swaps") [.var 6]) (t := (unS m s).2) (l := l) (m := m) (s := s) (s3 := .val false (.fz (netD m s))) (s4 := .val false (.fz (unD m s))) (s5 := .emp) (s6 := .val false (.fz (netD m (unS m s).2))) (s7 := .val false (.fz (.tup (encN ord)))) (s8 := .emp) (s9 := .emp) (s10 := .emp) (s11 := .emp) (s12 := .emp) (s13 := .emp) (s14 := .emp) (by omega) (by simp)
  unfold ascC at a1
  have c5 : evS Γ (callF Γ (n + 5)) (.ite (.or (.prim .ne [.prim (.fld "wires") [.var 6], .var 1]) (.or (.prim .ne [.prim .len [.prim (.fld "swaps") [.var 6]], .prim .len [.var 2]]) (.not (.prim .all [.comp (.prim .lt [.var 11, .var 12]) (.tp [.nm 11, .nm 12]) .plain [.prim (.fld "swaps") [.var 6]] [] [11, 12]])))) [.ret (.con (.bl false))] []) [.val true (.own l), .val true (.fz (.int m)), .val true (.fz (.tup (encS s))), .val false (.fz (netD m s)), .val false (.fz (unD m s)), .emp, .val false (.fz (netD m (unS m s).2)), .val false (.fz (.tup (encN (ord)))), .emp, .emp, .emp, .emp, .emp, .emp, .emp] = .ok (.nx, [.val true (.own l), .val true (.fz (.int m)), .val true (.fz (.tup (encS s))), .val false (.fz (netD m s)), .val false (.fz (unD m s)), .emp, .val false (.fz (netD m (unS m s).2)), .val false (.fz (.tup (encN (ord)))), .emp, .emp, .emp, .emp, .emp, .emp, .emp]) := by
    refine (ite_f ((or_f (env' := [.val true (.own l), .val true (.fz (.int m)), .val true (.fz (.tup (encS s))), .val false (.fz (netD m s)), .val false (.fz (unD m s)), .emp, .val false (.fz (netD m (unS m s).2)), .val false (.fz (.tup (encN (ord)))), .emp, .emp, .emp, .emp, .emp, .emp, .emp]) (by simp)).trans ((or_f (env' := [.val true (.own l), .val true (.fz (.int m)), .val true (.fz (.tup (encS s))), .val false (.fz (netD m s)), .val false (.fz (unD m s)), .emp, .val false (.fz (netD m (unS m s).2)), .val false (.fz (.tup (encN (ord)))), .emp, .emp, .emp, .emp, .emp, .emp, .emp]) (by simp [encS_len, b4])).trans (not_t ?_)))).trans rfl
    rw [a1, asc2]
  obtain ⟨e', h6, t13, rfl, _⟩ := compL_m (step := compB Γ (callF Γ (n + 5)) (.call "_law_is_int" [.var 13]) (.nm 13) [] [13]) (fun i : Nat => D.int i) (fun _ => D.bl true)
    (fun e => ∃ t13, e = [.val true (.own l), .val true (.fz (.int m)), .val true (.fz (.tup (encS s))), .val false (.fz (netD m s)), .val false (.fz (unD m s)), .emp, .val false (.fz (netD m (unS m s).2)), .val false (.fz (.tup (encN (ord)))), .emp, .emp, .emp, .emp, .emp, t13, .emp] ∧ Fr t13) (xs := ord) (env0 := [.val true (.own l), .val true (.fz (.int m)), .val true (.fz (.tup (encS s))), .val false (.fz (netD m s)), .val false (.fz (unD m s)), .emp, .val false (.fz (netD m (unS m s).2)), .val false (.fz (.tup (encN (ord)))), .emp, .emp, .emp, .emp, .emp, .emp, .emp]) ⟨_, rfl, .emp⟩ (by omega) fun x hx e ⟨t13, he, f1⟩ => by
      subst he
      obtain ⟨o, e5⟩ := is_int_ok (Γ := Γ) (n + 4) k.lint (i := (x : Int))
      refine ⟨_, ?_, .val false (.fz (.int x)), rfl, .val⟩
      simp [compB, evE_call k.lint, k_is_int, e5]
  have hm6 : encN ord = List.map (fun i : Nat => D.int i) ord := rfl
  rw [← hm6] at h6
  have hb6 := p_allB (fun _ : Nat => true) ord
  have c6 : evS Γ (callF Γ (n + 5)) (.ite (.or (.not (.prim (.isa ["tuple"]) [.var 7])) (.not (.prim .all [.comp (.call "_law_is_int" [.var 13]) (.nm 13) .plain [.var 7] [] [13]]))) [.ret (.con (.bl false))] []) [.val true (.own l), .val true (.fz (.int m)), .val true (.fz (.tup (encS s))), .val false (.fz (netD m s)), .val false (.fz (unD m s)), .emp, .val false (.fz (netD m (unS m s).2)), .val false (.fz (.tup (encN (ord)))), .emp, .emp, .emp, .emp, .emp, .emp, .emp] = .ok (.nx, [.val true (.own l), .val true (.fz (.int m)), .val true (.fz (.tup (encS s))), .val false (.fz (netD m s)), .val false (.fz (unD m s)), .emp, .val false (.fz (netD m (unS m s).2)), .val false (.fz (.tup (encN (ord)))), .emp, .emp, .emp, .emp, .emp, .emp, .emp]) := by
    simp
    rw [h6]
    simp [hb6]
  have c7 : evS Γ (callF Γ (n + 5)) (.ite (.prim .ne [.prim .sorted [.var 7], .prim (.listR 1) [.var 1]]) [.ret (.con (.bl false))] []) [.val true (.own l), .val true (.fz (.int m)), .val true (.fz (.tup (encS s))), .val false (.fz (netD m s)), .val false (.fz (unD m s)), .emp, .val false (.fz (netD m (unS m s).2)), .val false (.fz (.tup (encN (ord)))), .emp, .emp, .emp, .emp, .emp, .emp, .emp] = .ok (.nx, [.val true (.own l), .val true (.fz (.int m)), .val true (.fz (.tup (encS s))), .val false (.fz (netD m s)), .val false (.fz (unD m s)), .emp, .val false (.fz (netD m (unS m s).2)), .val false (.fz (.tup (encN (ord)))), .emp, .emp, .emp, .emp, .emp, .emp, .emp]) := by
    simp [pso, plr, pne]
  obtain ⟨l', rows2, d1, h1, g2, g3⟩ := rows5_ok k n h (m := m) (s := s) m2
  obtain ⟨rows1, o7, d2, g4⟩ := law_bits_ok (Γ := Γ) (n + 4) k.bits m1 m2
  have g1 : RowsOk m rows1 := fun r hr => by
    obtain ⟨q1, q2⟩ := bitsU_mem (g4.mem_iff.mp hr)
    refine ⟨q1, fun x hx => ?_⟩
    rcases q2 x hx with rfl | rfl <;> omega
  have g5 : rows1.length ≤ 1024 := by
    rw [g4.length_eq, bitsU_len]
    exact Nat.pow_le_pow_right (by omega) m2
  obtain ⟨e', h8, s5, s8, s9, rfl, f5, f8, f9⟩ := forL_all (step := forB Γ (callF Γ (n + 5)) (.nm 5) [.par [8, 9] [.call "_law_run" [.var 2, .var 5], .call "_law_run" [.prim (.fld "swaps") [.var 6], .var 5]], .ite (.or (.prim .ne [.call "run" [.var 6, .var 5], .var 9]) (.prim .ne [.prim .tuple [.comp (.prim .idx [.var 8, .prim .idx [.var 7, .var 14]]) (.nm 14) (.range 1) [.var 1] [] [14]], .var 9])) [.ret (.con (.bl false))] []]) (xs := encR (rows1 ++ rows2)) (env0 := [.val true (.own l'), .val true (.fz (.int m)), .val true (.fz (.tup (encS s))), .val false (.fz (netD m s)), .val false (.fz (unD m s)), .emp, .val false (.fz (netD m (unS m s).2)), .val false (.fz (.tup (encN (invK m (unS m s).1 m)))), .emp, .emp, .emp, .emp, .emp, .emp, .emp])
    (fun e => ∃ s5 s8 s9, e = [.val true (.own l'), .val true (.fz (.int m)), .val true (.fz (.tup (encS s))), .val false (.fz (netD m s)), .val false (.fz (unD m s)), s5, .val false (.fz (netD m (unS m s).2)), .val false (.fz (.tup (encN (invK m (unS m s).1 m)))), s8, s9, .emp, .emp, .emp, .emp, .emp] ∧ Fr s5 ∧ Fr s8 ∧ Fr s9) ⟨_, _, _, rfl, .emp, .emp, .emp⟩ fun d hd e ⟨s5, s8, s9, he, f5, f8, f9⟩ => by
      subst he
      obtain ⟨r, hr, rfl⟩ := List.mem_map.mp hd
      obtain ⟨q1, q2⟩ : r.length = m ∧ ∀ x ∈ r, -1000000000 ≤ x ∧ x ≤ 1000000000 := by
        rcases List.mem_append.mp hr with hr | hr
        · exact g1 r hr
        · exact g2 r hr
      obtain ⟨t8, t9, z1, z2, z3⟩ := row_turn k n (l := l') m1 m2 hs hl q1 q2 f8 f9
      refine ⟨[.val true (.own l'), .val true (.fz (.int m)), .val true (.fz (.tup (encS s))), .val false (.fz (netD m s)), .val false (.fz (unD m s)), .val false (.fz (encT r)), .val false (.fz (netD m (unS m s).2)), .val false (.fz (.tup (encN (invK m (unS m s).1 m)))), t8, t9, .emp, .emp, .emp, .emp, .emp], .inl ?_, .val false (.fz (encT r)), t8, t9, rfl, .val, z2, z3⟩
      show (bindT Γ _ (.nm 5) _ _).bind _ = _
      simp only [bindT_nm, setSlot_O, List.length_cons, List.getElem?_cons_succ, List.getElem?_cons_zero, stO_fr f5, Res.bind_ok, List.set_cons_succ, List.set_cons_zero]
      exact z1
  rw [ho] at h8 d1
  have c8 : evS Γ (callF Γ (n + 5)) (.for (.nm 5) .plain [.prim .add [.call "_law_bits" [.var 1], .comp (.call "_law_row" [.var 0, .var 1]) (.nm 10) (.range 1) [.con (.int 5)] [] [10]]] [.par [8, 9] [.call "_law_run" [.var 2, .var 5], .call "_law_run" [.prim (.fld "swaps") [.var 6], .var 5]], .ite (.or (.prim .ne [.call "run" [.var 6, .var 5], .var 9]) (.prim .ne [.prim .tuple [.comp (.prim .idx [.var 8, .prim .idx [.var 7, .var 14]]) (.nm 14) (.range 1) [.var 1] [] [14]], .var 9])) [.ret (.con (.bl false))] []]) [.val true (.own l), .val true (.fz (.int m)), .val true (.fz (.tup (encS s))), .val false (.fz (netD m s)), .val false (.fz (unD m s)), .emp, .val false (.fz (netD m (unS m s).2)), .val false (.fz (.tup (encN (ord)))), .emp, .emp, .emp, .emp, .emp, .emp, .emp] = .ok (.nx, [.val true (.own l'), .val true (.fz (.int m)), .val true (.fz (.tup (encS s))), .val false (.fz (netD m s)), .val false (.fz (unD m s)), s5, .val false (.fz (netD m (unS m s).2)), .val false (.fz (.tup (encN (ord)))), s8, s9, .emp, .emp, .emp, .emp, .emp]) := by
    have hl : (encR rows1 ++ encR rows2).length ≤ SL := by
      unfold encR
      rw [List.length_append, List.length_map, List.length_map]
      exact sl_le (m := 2000) (by omega) (by omega)
    have hl' : (encR (rows1 ++ rows2)).length ≤ SL := by
      unfold encR at *
      rw [List.map_append]
      exact hl
    have hap : encR rows1 ++ encR rows2 = encR (rows1 ++ rows2) := by unfold encR; rw [List.map_append]
    simp only [evS_forE, evAs_prim, evE_prim, evAs_call, evAs_comp, d1]
    simp only [evE_call k.bits, k_law_bits, evAs_var, argVar_O, List.length_cons, List.getElem?_cons_succ, List.getElem?_cons_zero, agO_fz, Res.bind_ok, evAs_nil, bindCall_val, bindCall_nil, d2, backCall_val, backCall_nil, d1, pkArgs_val, pkArgs_nil, Val.frz_own, p_addL, if_pos hl', hap, it_plainL, lockArgs_val, lockArgs_nil, h8, unlock_nil]
  refine ⟨l', ?_, h1⟩
  have a2 := ascC_ok (Γ := Γ) (cl := callF Γ (n + 5)) (src := .var 2) (t := s) (l := l') (m := m) (s := s) (s3 := .val false (.fz (netD m s))) (s4 := .val false (.fz (unD m s))) (s5 := s5) (s6 := .val false (.fz (netD m (unS m s).2))) (s7 := .val false (.fz (.tup (encN ord)))) (s8 := s8) (s9 := s9) (s10 := .emp) (s11 := .emp) (s12 := .emp) (s13 := .emp) (s14 := .emp) (by omega) (by simp)
  unfold ascC at a2
  refine (congrArg (fin 3) (st_then c0 (st_then c1 (st_then c2 (st_then c3 (st_then c4 (st_then c5 (st_then c6 (st_then c7 (st_then c8 ?_)))))))))).trans (show fin 3 (.ok (.rt (.fz (.bl true)), [.val true (.own l'), .val true (.fz (.int m)), .val true (.fz (.tup (encS s))), .val false (.fz (netD m s)), .val false (.fz (unD m s)), s5, .val false (.fz (netD m (unS m s).2)), .val false (.fz (.tup (encN (ord)))), s8, s9, .emp, .emp, .emp, .emp, .emp])) = _ from rfl)
  cases ha : ascS s with
  | true =>
    have hu : unS m s = (List.range m, s) := unS_std hs fun p hp => of_decide_eq_true (List.all_eq_true.mp ha p hp)
    have ho2 : ord = List.range m := by rw [← ho, hu]; exact inv_range
    have pt := p_tupleR (k := 1) (m := m) (by omega)
    have pe := p_eq_self (a := .tup (encN (List.range m))) (encN_fits 39 _)
    obtain ⟨o9, e9⟩ := net_eq_ok (n + 4) k.eq (m := m) (m' := m) (s := s) (s' := s)
    refine st_rt ?_
    simp only [evS_ite, a2, ha]
    simp
    simp [eqR_net k.eqm, e9, hu, ho2, pt, pe]
  | false =>
    refine st_then (env' := [.val true (.own l'), .val true (.fz (.int m)), .val true (.fz (.tup (encS s))), .val false (.fz (netD m s)), .val false (.fz (unD m s)), s5, .val false (.fz (netD m (unS m s).2)), .val false (.fz (.tup (encN (ord)))), s8, s9, .emp, .emp, .emp, .emp, .emp]) ?_ (st_rt ?_)
    · simp only [evS_ite, a2, ha]
      simp
    · have hfit : D.fits 40 [.int (m : Int), .tup (encS s)] = true := by
        show ((D.int (m : Int)).fit 40 && (D.fits 39 (encS s) && true)) = true
        rw [fit_int, encS_fits 38 s]
        rfl
      have hsm : D.smls [.int (m : Int), .tup (encS s)] = true := by
        show (D.sml (.int (m : Int)) && (D.smls (encS s) && true)) = true
        rw [sml_nat (by omega), encS_sml hs (by omega)]
        rfl
      have hc : D.cnts [.int (m : Int), .tup (encS s)] ≤ 3000 := by
        show 1 + ((1 + D.cnts (encS s)) + 0) ≤ 3000
        rw [encS_cnt]
        omega
      have pl := p_reprL hfit hsm hc
      have pe := p_eq_self (a := .str (D.lst [.int (m : Int), .tup (encS s)]).py.shown) fit_str
      have s2 : 2 ≤ SL := sl_le (m := 2) (Nat.le_refl _) (by omega)
      simp [s2, Val.frz, pl, pe]

end Rx

set_option Elab.async false
set_option linter.all false
set_option autoImplicit false
set_option maxRecDepth 100000
set_option maxHeartbeats 1000000
namespace Rx
open PySem
/-! ### dicts -/
def doO {α : Type} (o : Option Slot) (k : Res α) : Res α := match o with
  | some (.val _ (.odk _)) => k
  | some (.val _ (.odt _)) => k
  | _ => .bad
@[simp] theorem doO_k {α : Type} {p : Bool} {l : List (DKey × D)} {k : Res α} : doO (some (.val p (.odk l))) k = k := rfl
@[simp] theorem doO_t {α : Type} {p : Bool} {l : List (List DKey × D)} {k : Res α} : doO (some (.val p (.odt l))) k = k := rfl
def dpF (ws : List Val) (u : Val) : Res (Unit × Val) := match ws with
  | [w, k] => (dPutV u k.frz w.frz).bind fun u' => .ok ((), u')
  | _ => .bad
@[simp] theorem dpF_two {w k u : Val} : dpF [w, k] u = (dPutV u k.frz w.frz).bind fun u' => .ok ((), u') := rfl
@[simp] theorem evS_dput {Γ : Tbl} {cl : Call} {env : Env} {i : Nat} {es : List CE} : evS Γ cl (.dput i es) env = doO env[i]? ((evVs Γ cl es env).bind fun r => (mutSlot i r.2 (dpF r.1)).bind fun q => .ok (.nx, q.2)) := by
  cases h : env[i]? with
  | none => unfold evS; rw [h]; rfl
  | some s =>
    cases s with
    | val p w => cases w <;> (unfold evS; rw [h]; rfl)
    | _ => unfold evS; rw [h]; rfl
@[simp] theorem agO_odk {p : Bool} {l : List (DKey × D)} {env : Env} {i : Nat} : agO (some (.val p (.odk l))) env i = .ok (.ref i, env) := rfl
@[simp] theorem agO_odt {p : Bool} {l : List (List DKey × D)} {env : Env} {i : Nat} : agO (some (.val p (.odt l))) env i = .ok (.ref i, env) := rfl
@[simp] theorem p_dnewK : primO .dnewK [] = .ok (.odk []) := by rw [primO_eq]; rfl
@[simp] theorem p_dnewT : primO .dnewT [] = .ok (.odt []) := by rw [primO_eq]; rfl
@[simp] theorem p_sortedK {l : List (DKey × D)} : primO .sorted [.dk l] = if sortable (keysD l) = true then .ok (.own (sortD (keysD l))) else .bad := by rw [primO_eq]; rfl
@[simp] theorem p_sortedKT {l : List (List DKey × D)} : primO .sorted [.dt l] = if sortable (keysT l) = true then .ok (.own (sortD (keysT l))) else .bad := by rw [primO_eq]; rfl
@[simp] theorem dPutV_i {l : List (DKey × D)} {x : Int} {v : D} : dPutV (.odk l) (.int x) v = if l.length < SL then .ok (.odk (dPut l (.inl x) v)) else .bad := rfl
theorem dPut_keys {κ : Type} [DecidableEq κ] {l : List (κ × D)} {k : κ} {v : D} : (dPut l k v).map (·.1) = if k ∈ l.map (·.1) then l.map (·.1) else l.map (·.1) ++ [k] := by
  unfold dPut
  by_cases h : k ∈ l.map (·.1)
  · have h' : (l.any fun kv => decide (kv.1 = k)) = true := by
      obtain ⟨kv, h1, h2⟩ := List.mem_map.mp h
      exact List.any_eq_true.mpr ⟨kv, h1, decide_eq_true h2⟩
    rw [if_pos h', if_pos h, List.map_map]
    refine List.map_congr_left fun kv _ => ?_
    show (if kv.1 = k then (kv.1, v) else kv).1 = kv.1
    split <;> rfl
  · have h' : ¬ (l.any fun kv => decide (kv.1 = k)) = true := fun z => by
      obtain ⟨kv, h1, h2⟩ := List.any_eq_true.mp z
      exact h (List.mem_map.mpr ⟨kv, h1, of_decide_eq_true h2⟩)
    rw [if_neg h', if_neg h, List.map_append]
    rfl
/-- a dict whose keys are these numbers -/
def KeyN (l : List (DKey × D)) (ks : List Nat) : Prop := l.map (·.1) = ks.map fun (n : Nat) => (Sum.inl (n : Int) : DKey)
theorem KeyN.len {l : List (DKey × D)} {ks : List Nat} (h : KeyN l ks) : l.length = ks.length := by
  have := congrArg List.length h
  simpa using this
theorem KeyN.keys {l : List (DKey × D)} {ks : List Nat} (h : KeyN l ks) : keysD l = encN ks := by
  have e : keysD l = (l.map (·.1)).map keyD := by unfold keysD; rw [List.map_map]; rfl
  rw [e, h, List.map_map]
  rfl
theorem KeyN.mem {l : List (DKey × D)} {ks : List Nat} (h : KeyN l ks) {n : Nat} : (Sum.inl (n : Int) : DKey) ∈ l.map (·.1) ↔ n ∈ ks := by
  rw [h, List.mem_map]
  constructor
  · rintro ⟨m, hm, e⟩
    have : (m : Int) = n := Sum.inl.inj e
    have : m = n := by omega
    rw [← this]; exact hm
  · exact fun hn => ⟨n, hn, rfl⟩
theorem KeyN.put {l : List (DKey × D)} {ks : List Nat} (h : KeyN l ks) (n : Nat) (v : D) : KeyN (dPut l (.inl (n : Int)) v) (if n ∈ ks then ks else ks ++ [n]) := by
  unfold KeyN
  rw [dPut_keys]
  by_cases c : n ∈ ks
  · rw [if_pos (h.mem.mpr c), if_pos c]
    exact h
  · rw [if_neg fun z => c (h.mem.mp z), if_neg c, List.map_append, ← h]
    rfl
theorem ins_nodup {ks : List Nat} (h : ks.Nodup) (n : Nat) : (if n ∈ ks then ks else ks ++ [n]).Nodup := by
  split
  · exact h
  · rename_i c
    rw [List.nodup_append]
    exact ⟨h, by simp, fun a ha b hb => by rw [List.mem_singleton.mp hb]; exact fun e => c (e ▸ ha)⟩
theorem ins_mem {ks : List Nat} {n k : Nat} : k ∈ (if n ∈ ks then ks else ks ++ [n]) ↔ k ∈ ks ∨ k = n := by
  split
  · rename_i c
    constructor
    · exact .inl
    · rintro (h | rfl)
      · exact h
      · exact c
  · simp
/-- ascending, each once -/
theorem asc_sort {ks : List Nat} (h : ks.Nodup) : (ks.mergeSort fun a b => decide (a ≤ b)).Pairwise (· < ·) := by
  have h1 := List.pairwise_mergeSort (le := fun a b : Nat => decide (a ≤ b)) (fun a b c h1 h2 => by simp at *; omega) (fun a b => by simp; omega) ks
  have h2 : (ks.mergeSort fun a b => decide (a ≤ b)).Nodup := (List.mergeSort_perm _ _).nodup_iff.mpr h
  rw [List.nodup_iff_pairwise_ne] at h2
  exact (h1.and h2).imp fun ⟨a, b⟩ => by have := of_decide_eq_true a; omega
theorem asc_one {zs : List Nat} {x : Nat} (h : zs.Pairwise (· < ·)) (hm : ∀ k, k ∈ zs ↔ k ∈ [x]) : zs = [x] := by
  cases zs with
  | nil => exact absurd ((hm x).mpr (by simp)) (by simp)
  | cons a r =>
    have ha : a = x := by simpa using (hm a).mp List.mem_cons_self
    cases r with
    | nil => rw [ha]
    | cons b r =>
      have hb : b = x := by simpa using (hm b).mp (by simp)
      have := (List.pairwise_cons.mp h).1 b List.mem_cons_self
      omega
/-! ### powers of two -/
def k_power_two : Fn := { np := 1, ns := 3, pins := [0], body := [.asg (.nm 1) (.con (.int 1)), .for (.nm 2) (.range 1) [.var 0] [.asg (.nm 1) (.prim .mul [.con (.int 2), .var 1])], .ret (.var 1)] }
theorem power_ok {Γ : Tbl} (hf : Γ.fn "power_two" = some k_power_two) (n : Nat) {k : Nat} (hk : k ≤ 30) : ∃ o, callF Γ (n + 1) "power_two" [.fz (.int k)] = .ok (.fz (.int (2 ^ k : Nat)), o) := by
  rw [callF_fn hf rfl]
  have it := it_range (m := k) (by omega)
  have b2 : B64 2 = true := by decide
  obtain ⟨e', h1, s2, rfl, _⟩ := forL_inv (step := forB Γ (callF Γ n) (.nm 2) [.asg (.nm 1) (.prim .mul [.con (.int 2), .var 1])]) (its := encN (List.range k)) (k := 0) (env0 := [.val true (.fz (.int k)), .val false (.fz (.int 1)), .emp])
    (fun i e => ∃ s2, e = [.val true (.fz (.int k)), .val false (.fz (.int (2 ^ i : Nat))), s2] ∧ Fr s2) ⟨.emp, rfl, .emp⟩ fun i d e hi ⟨s2, he, f2⟩ => by
      subst he
      rw [Nat.zero_add]
      refine ⟨[.val true (.fz (.int k)), .val false (.fz (.int (2 ^ (i + 1) : Nat))), .val false (.fz d)], .inl ?_, _, rfl, .val⟩
      have e1 : (2 : Int) * (2 ^ i : Nat) = (2 ^ (i + 1) : Nat) := by rw [Nat.pow_succ]; omega
      simp only [forB, bindT_nm, setSlot_O, List.length_cons, List.getElem?_cons_succ, List.getElem?_cons_zero, stO_fr f2, Res.bind_ok, List.set_cons_succ, List.set_cons_zero]
      refine st_then (env' := [.val true (.fz (.int k)), .val false (.fz (.int (2 ^ (i + 1) : Nat))), .val false (.fz d)]) ?_ rfl
      rw [← e1]
      simp [b2]
  rw [encN_len, List.length_range, Nat.zero_add] at h1
  refine ⟨_, (congrArg (fin 1) (st_then (env' := [.val true (.fz (.int k)), .val false (.fz (.int 1)), .emp]) ?_ (st_then (env' := [.val true (.fz (.int k)), .val false (.fz (.int (2 ^ k : Nat))), s2]) ?_ (st_rt (w := .fz (.int (2 ^ k : Nat))) (env' := [.val true (.fz (.int k)), .val false (.fz (.int (2 ^ k : Nat))), s2]) ?_)))).trans rfl⟩
  · simp [k_power_two]
  · simp [it]
    rw [h1]
    simp
  · simp
/-! ### led -/
def k_led : Fn := { np := 3, ns := 11, pins := [0, 1, 2], body := [.asg (.tp [.nm 5, .nm 6]) (.var 1), .par [7, 8] [.call "power_two" [.prim .sub [.prim .sub [.var 2, .con (.int 1)], .var 5]], .call "power_two" [.prim .sub [.prim .sub [.var 2, .con (.int 1)], .var 6]]], .asg (.nm 3) (.prim .dnewK []), .for (.nm 4) .plain [.var 0] [.par [9, 10] [.eqc [.prim .mod [.prim .fdiv [.var 4, .var 7], .con (.int 2)], .con (.int 1)], .eqc [.prim .mod [.prim .fdiv [.var 4, .var 8], .con (.int 2)], .con (.int 1)]], .dput 3 [.con (.bl true), .ite (.and (.var 9) (.not (.var 10))) (.prim .add [.prim .sub [.var 4, .var 7], .var 8]) (.var 4)]], .ret (.prim .tuple [.prim .sorted [.var 3]])] }
theorem led1_int {w x : Nat} {p : Nat × Nat} : ((led1 w p x : Nat) : Int) = if (decide ((x : Int) / (2 ^ (w - 1 - p.1) : Nat) % 2 = 1) && !decide ((x : Int) / (2 ^ (w - 1 - p.2) : Nat) % 2 = 1)) = true then (x : Int) - (2 ^ (w - 1 - p.1) : Nat) + (2 ^ (w - 1 - p.2) : Nat) else x := by
  unfold led1
  generalize hF : 2 ^ (w - 1 - p.1) = F
  generalize hL : 2 ^ (w - 1 - p.2) = L
  have hF0 : 0 < F := by rw [← hF]; exact Nat.pow_pos (by omega)
  have e1 : (x : Int) / (F : Nat) % 2 = ((x / F % 2 : Nat) : Int) := by simp
  have e2 : (x : Int) / (L : Nat) % 2 = ((x / L % 2 : Nat) : Int) := by simp
  rw [e1, e2]
  by_cases c1 : x / F % 2 = 1
  · by_cases c2 : x / L % 2 = 1
    · rw [if_neg (by omega), c1, c2]; simp
    · rw [if_pos ⟨c1, c2⟩]
      have le : F ≤ x := by
        rcases Nat.lt_or_ge x F with h | h
        · rw [Nat.div_eq_of_lt h] at c1; cases c1
        · exact h
      have d1 : decide (((x / F % 2 : Nat) : Int) = 1) = true := decide_eq_true (by omega)
      have d2 : decide (((x / L % 2 : Nat) : Int) = 1) = false := decide_eq_false (by omega)
      rw [d1, d2]
      simp
      omega
  · rw [if_neg (by omega)]
    have d1 : decide (((x / F % 2 : Nat) : Int) = 1) = false := decide_eq_false (by omega)
    rw [d1]
    simp
theorem led_ok {Γ : Tbl} (hp : Γ.fn "power_two" = some k_power_two) (hf : Γ.fn "led" = some k_led) (n : Nat) {w : Nat} {p : Nat × Nat} {xs : List Nat} (hw : w ≤ 20) (h1 : p.1 < w) (h2 : p.2 < w) (hl : xs.length ≤ 100000) :
    ∃ zs o, callF Γ (n + 2) "led" [.fz (.tup (encN xs)), .fz (.tup [.int p.1, .int p.2]), .fz (.int w)] = .ok (.fz (.tup (encN zs)), o) ∧ zs.Pairwise (· < ·) ∧ ∀ k, k ∈ zs ↔ k ∈ xs.map (led1 w p) := by
  rw [callF_fn hf rfl]
  obtain ⟨o1, e1⟩ := power_ok hp n (k := w - 1 - p.1) (by omega)
  obtain ⟨o2, e2⟩ := power_ok hp n (k := w - 1 - p.2) (by omega)
  have i1 : (w : Int) - 1 - p.1 = ((w - 1 - p.1 : Nat) : Int) := by omega
  have i2 : (w : Int) - 1 - p.2 = ((w - 1 - p.2 : Nat) : Int) := by omega
  generalize hF : (2 ^ (w - 1 - p.1) : Nat) = F at e1
  generalize hL : (2 ^ (w - 1 - p.2) : Nat) = L at e2
  have F0 : 0 < F := by rw [← hF]; exact Nat.pow_pos (by omega)
  have L0 : 0 < L := by rw [← hL]; exact Nat.pow_pos (by omega)
  have F1 : F ≤ 1048576 := by rw [← hF]; exact Nat.le_trans (Nat.pow_le_pow_right (by omega) (show w - 1 - p.1 ≤ 20 by omega)) (by decide)
  have L1 : L ≤ 1048576 := by rw [← hL]; exact Nat.le_trans (Nat.pow_le_pow_right (by omega) (show w - 1 - p.2 ≤ 20 by omega)) (by decide)
  have bF : B62 (F : Int) = true := b62_c (by omega) (by omega)
  have bL : B62 (L : Int) = true := b62_c (by omega) (by omega)
  have sl : 100000 < SL := by decide
  obtain ⟨e', h3, s4, s9, s10, l, ks, he, hk, hn, hlen, hm, _, _, _⟩ := forL_inv (step := forB Γ (callF Γ (n + 1)) (.nm 4) [.par [9, 10] [.eqc [.prim .mod [.prim .fdiv [.var 4, .var 7], .con (.int 2)], .con (.int 1)], .eqc [.prim .mod [.prim .fdiv [.var 4, .var 8], .con (.int 2)], .con (.int 1)]], .dput 3 [.con (.bl true), .ite (.and (.var 9) (.not (.var 10))) (.prim .add [.prim .sub [.var 4, .var 7], .var 8]) (.var 4)]]) (its := encN xs) (k := 0)
    (env0 := [.val true (.fz (.tup (encN xs))), .val true (.fz (.tup [.int p.1, .int p.2])), .val true (.fz (.int w)), .val false (.odk []), .emp, .val false (.fz (.int p.1)), .val false (.fz (.int p.2)), .val false (.fz (.int F)), .val false (.fz (.int L)), .emp, .emp])
    (fun i e => ∃ s4 s9 s10 l ks, e = [.val true (.fz (.tup (encN xs))), .val true (.fz (.tup [.int p.1, .int p.2])), .val true (.fz (.int w)), .val false (.odk l), s4, .val false (.fz (.int p.1)), .val false (.fz (.int p.2)), .val false (.fz (.int F)), .val false (.fz (.int L)), s9, s10] ∧ KeyN l ks ∧ ks.Nodup ∧ ks.length ≤ i ∧ (∀ k, k ∈ ks ↔ k ∈ (xs.take i).map (led1 w p)) ∧ Fr s4 ∧ Fr s9 ∧ Fr s10)
    ⟨_, _, _, [], [], rfl, rfl, by simp, Nat.zero_le _, by simp, .emp, .emp, .emp⟩ fun i d e hd ⟨s4, s9, s10, l, ks, he, hk, hn, hlen, hm, f4, f9, f10⟩ => by
      subst he
      rw [Nat.zero_add] at *
      unfold encN at hd
      rw [List.getElem?_map] at hd
      cases hi : xs[i]? with
      | none => rw [hi] at hd; cases hd
      | some x =>
        rw [hi] at hd
        cases hd
        have hil : i < xs.length := (List.getElem?_eq_some_iff.mp hi).1
        have hll : l.length < SL := by rw [hk.len]; omega
        have e3 := led1_int (w := w) (x := x) (p := p)
        rw [hF, hL] at e3
        refine ⟨[.val true (.fz (.tup (encN xs))), .val true (.fz (.tup [.int p.1, .int p.2])), .val true (.fz (.int w)), .val false (.odk (dPut l (.inl ((led1 w p x : Nat) : Int)) (.bl true))), .val false (.fz (.int x)), .val false (.fz (.int p.1)), .val false (.fz (.int p.2)), .val false (.fz (.int F)), .val false (.fz (.int L)), .val false (.fz (.bl (decide ((x : Int) / F % 2 = 1)))), .val false (.fz (.bl (decide ((x : Int) / L % 2 = 1))))], .inl ?_, _, _, _, _, _, rfl, hk.put _ _, ins_nodup hn _, ?_, fun k => ?_, .val, .val, .val⟩
        · rw [e3]
          by_cases c1 : (x : Int) / F % 2 = 1 <;> by_cases c2 : (x : Int) / L % 2 = 1 <;> simp [forB, stO_fr f4, stO_fr f9, stO_fr f10, F0, L0, bF, bL, c1, c2, hll, Val.frz]
        · split
          · omega
          · rw [List.length_append, List.length_singleton]; omega
        · rw [ins_mem, hm k, take_succ_get hi, List.map_append, List.mem_append]
          simp
  have hk0 : xs.take (0 + (encN xs).length) = xs := by rw [Nat.zero_add, encN_len, List.take_length]
  rw [hk0] at hm
  subst he
  have hsl : ks.length ≤ 1000000 := by
    rw [encN_len] at hlen
    omega
  have so := sortable_N hsl
  refine ⟨ks.mergeSort fun a b => decide (a ≤ b), _, (congrArg (fin 3) (st_then (env' := [.val true (.fz (.tup (encN xs))), .val true (.fz (.tup [.int p.1, .int p.2])), .val true (.fz (.int w)), .emp, .emp, .val false (.fz (.int p.1)), .val false (.fz (.int p.2)), .emp, .emp, .emp, .emp]) ?_ (st_then (env' := [.val true (.fz (.tup (encN xs))), .val true (.fz (.tup [.int p.1, .int p.2])), .val true (.fz (.int w)), .emp, .emp, .val false (.fz (.int p.1)), .val false (.fz (.int p.2)), .val false (.fz (.int F)), .val false (.fz (.int L)), .emp, .emp]) ?_
    (st_then (env' := [.val true (.fz (.tup (encN xs))), .val true (.fz (.tup [.int p.1, .int p.2])), .val true (.fz (.int w)), .val false (.odk []), .emp, .val false (.fz (.int p.1)), .val false (.fz (.int p.2)), .val false (.fz (.int F)), .val false (.fz (.int L)), .emp, .emp]) ?_ (st_then (env' := [.val true (.fz (.tup (encN xs))), .val true (.fz (.tup [.int p.1, .int p.2])), .val true (.fz (.int w)), .val false (.odk l), s4, .val false (.fz (.int p.1)), .val false (.fz (.int p.2)), .val false (.fz (.int F)), .val false (.fz (.int L)), s9, s10]) ?_
    (st_rt (w := .fz (.tup (encN (ks.mergeSort fun a b => decide (a ≤ b))))) (env' := [.val true (.fz (.tup (encN xs))), .val true (.fz (.tup [.int p.1, .int p.2])), .val true (.fz (.int w)), .val false (.odk l), s4, .val false (.fz (.int p.1)), .val false (.fz (.int p.2)), .val false (.fz (.int F)), .val false (.fz (.int L)), s9, s10]) ?_)))))).trans rfl, asc_sort hn, fun k => by rw [List.mem_mergeSort]; exact hm k⟩
  · simp [k_led, Val.frz]
  · simp [evE_call hp, k_power_two, i1, i2, e1, e2]
  · simp
  · simp
    rw [h3]
    simp
  · simp [Val.frz, hk.keys, so, sortD_encN]
theorem led_one {Γ : Tbl} (hp : Γ.fn "power_two" = some k_power_two) (hf : Γ.fn "led" = some k_led) (n : Nat) {w x : Nat} {p : Nat × Nat} (hw : w ≤ 20) (h1 : p.1 < w) (h2 : p.2 < w) :
    ∃ o, callF Γ (n + 2) "led" [.fz (.tup [.int x]), .fz (.tup [.int p.1, .int p.2]), .fz (.int w)] = .ok (.fz (.tup [.int (led1 w p x : Nat)]), o) := by
  obtain ⟨zs, o, e, ha, hm⟩ := led_ok hp hf n (xs := [x]) hw h1 h2 (by simp)
  rw [asc_one ha (x := led1 w p x) (by simpa using hm)] at e
  exact ⟨o, e⟩
end Rx

set_option Elab.async false
set_option linter.all false
set_option autoImplicit false
set_option maxRecDepth 100000
set_option maxHeartbeats 1000000
namespace Rx
open PySem
theorem evS_retM {Γ : Tbl} {cl : Call} {env : Env} {e : CE} {t : Tg} {k : IK} {ss c : List CE} {wp : List Nat} : evS Γ cl (.ret (.comp e t k ss c wp)) env = (evE Γ cl (.comp e t k ss c wp) env).bind fun q => .ok (.rt q.1, q.2) := rfl
theorem deedN_snoc (m : Nat) (s : List (Nat × Nat)) (p : Nat × Nat) (x : Nat) : deedN m (s ++ [p]) x = led1 m p (deedN m s x) := by
  unfold deedN
  rw [List.foldl_append]
  rfl
theorem p_eqN {s t : List Nat} : primO .eq [.tup (encN s), .tup (encN t)] = .ok (.fz (.bl (decide (s = t)))) := by
  classical
  rw [p_eq_pur (a := .tup (encN s)) (b := .tup (encN t)) (by rw [fit_tup, encN_fits]) (by rw [fit_tup, encN_fits]) (encN_pur s) (encN_pur t)]
  simp [encN_inj]
theorem any_eqN {l : List Nat} {x : Nat} : ((encN l).any fun b => b.eqD (.int (x : Int))) = decide (x ∈ l) := by
  unfold encN
  rw [List.any_map]
  apply Bool.eq_iff_iff.mpr
  rw [List.any_eq_true, decide_eq_true_iff]
  constructor
  · rintro ⟨y, hy, e⟩
    rw [Function.comp_apply, eqD_int, decide_eq_true_iff] at e
    have : y = x := by omega
    exact this ▸ hy
  · intro h
    exact ⟨x, h, by rw [Function.comp_apply, eqD_int, decide_eq_true_iff]⟩
theorem p_inN {l : List Nat} {x : Nat} : primO .inn [.int (x : Int), .tup (encN l)] = .ok (.fz (.bl (decide (x ∈ l)))) := by
  rw [primO_eq]
  show (if ((D.int (x : Int)).fit 40 && D.fits 40 (encN l)) = true then rB ((encN l).any fun b => b.eqD (.int (x : Int))) else .bad) = _
  rw [if_pos (by rw [encN_fits]; rfl), any_eqN]
  rfl
def k_deed : Fn := { np := 2, ns := 5, pins := [0, 1], body := [.asg (.nm 2) (.prim (.listR 1) [.call "power_two" [.var 0]]), .for (.nm 3) .plain [.var 1] [.asg (.nm 2) (.comp (.prim .idx [.call "led" [.tup [.var 4], .var 3, .var 0], .con (.int 0)]) (.nm 4) .plain [.var 2] [] [4])], .ret (.prim .tuple [.var 2])] }
def k_deed_of : Fn := { np := 1, ns := 1, pins := [0], body := [.ret (.call "deed" [.prim (.fld "wires") [.var 0], .prim (.fld "swaps") [.var 0]])] }
def k_is_idle : Fn := { np := 1, ns := 1, pins := [0], body := [.ret (.eqc [.call "deed_of" [.var 0], .prim (.tupleR 1) [.call "power_two" [.prim (.fld "wires") [.var 0]]]])] }
def k_settles : Fn := { np := 1, ns := 3, pins := [0], body := [.asg (.nm 1) (.call "deed_of" [.var 0]), .ret (.prim .all [.comp (.eqc [.prim .idx [.var 1, .prim .idx [.var 1, .var 2]], .prim .idx [.var 1, .var 2]]) (.nm 2) (.range 1) [.prim .len [.var 1]] [] [2]])] }
def k_kept_rows : Fn := { np := 1, ns := 3, pins := [0], body := [.asg (.nm 1) (.call "deed_of" [.var 0]), .ret (.comp (.var 2) (.nm 2) (.range 1) [.prim .len [.var 1]] [.eqc [.prim .idx [.var 1, .var 2], .var 2]] [2])] }
def k_is_finer : Fn := { np := 2, ns := 4, pins := [0, 1], body := [.asg (.nm 2) (.call "deed_of" [.var 1]), .ret (.prim .all [.comp (.prim .inn [.var 3, .var 2]) (.nm 3) .plain [.call "deed_of" [.var 0]] [] [3]])] }
def k_commute : Fn := { np := 2, ns := 5, pins := [0, 1], body := [.par [2, 3] [.call "deed_of" [.var 0], .call "deed_of" [.var 1]], .ret (.and (.eqc [.prim .len [.var 2], .prim .len [.var 3]]) (.prim .all [.comp (.eqc [.prim .idx [.var 3, .prim .idx [.var 2, .var 4]], .prim .idx [.var 2, .prim .idx [.var 3, .var 4]]]) (.nm 4) (.range 1) [.prim .len [.var 2]] [] [4]]))] }
structure Fun17 (Γ : Tbl) : Prop where
  pow : Γ.fn "power_two" = some k_power_two
  led : Γ.fn "led" = some k_led
  deed : Γ.fn "deed" = some k_deed
  dof : Γ.fn "deed_of" = some k_deed_of
  idle : Γ.fn "is_idle" = some k_is_idle
  stl : Γ.fn "settles" = some k_settles
  kept : Γ.fn "kept_rows" = some k_kept_rows
  finer : Γ.fn "is_finer" = some k_is_finer
  com : Γ.fn "commute" = some k_commute
section
variable {Γ : Tbl} (k : Fun17 Γ)
include k
theorem pow_le {m : Nat} (h : m ≤ 10) : 2 ^ m ≤ 1024 := Nat.pow_le_pow_right (by omega) h
theorem deed_ok (n : Nat) {m : Nat} {s : List (Nat × Nat)} (m2 : m ≤ 10) (hs : okS m s) : ∃ o, callF Γ (n + 3) "deed" [.fz (.int m), .fz (.tup (encS s))] = .ok (.fz (.tup (encN (deedL m s))), o) := by
  rw [callF_fn k.deed rfl]
  have hp := pow_le k m2
  have s1 : 1 ≤ SL := sl_le (m := 1) (Nat.le_refl _) (by omega)
  obtain ⟨o1, e1⟩ := power_ok k.pow (n + 1) (k := m) (by omega)
  have pr : primO (.listR 1) [.int (2 ^ m)] = .ok (.own (encN (List.range (2 ^ m)))) := by have := p_listR (k := 1) (m := 2 ^ m) (by omega); simpa using this
  obtain ⟨e', h1, s3, s4, he, f3, f4⟩ := forL_inv (step := forB Γ (callF Γ (n + 2)) (.nm 3) [.asg (.nm 2) (.comp (.prim .idx [.call "led" [.tup [.var 4], .var 3, .var 0], .con (.int 0)]) (.nm 4) .plain [.var 2] [] [4])]) (its := encS s) (k := 0)
    (env0 := [.val true (.fz (.int m)), .val true (.fz (.tup (encS s))), .val false (.own (encN (List.range (2 ^ m)))), .emp, .emp])
    (fun i e => ∃ s3 s4, e = [.val true (.fz (.int m)), .val true (.fz (.tup (encS s))), .val false (.own (encN ((List.range (2 ^ m)).map (deedN m (s.take i))))), s3, s4] ∧ Fr s3 ∧ Fr s4)
    ⟨.emp, .emp, by rw [List.take_zero, show deedN m [] = id from rfl, List.map_id], .emp, .emp⟩ fun i d e hd ⟨s3, s4, he, f3, f4⟩ => by
      subst he
      rw [Nat.zero_add]
      unfold encS at hd
      rw [List.getElem?_map] at hd
      cases hi : s[i]? with
      | none => rw [hi] at hd; cases hd
      | some p =>
        rw [hi] at hd
        cases hd
        obtain ⟨g1, g2, g3⟩ := hs p (List.mem_of_getElem? hi)
        refine ⟨[.val true (.fz (.int m)), .val true (.fz (.tup (encS s))), .val false (.own (encN ((List.range (2 ^ m)).map (deedN m (s.take (i + 1)))))), .val false (.fz (.tup [.int p.1, .int p.2])), s4], .inl ?_, _, _, rfl, .val, f4⟩
        obtain ⟨e', h1, t4, rfl, _⟩ := compL_m (step := compB Γ (callF Γ (n + 2)) (.prim .idx [.call "led" [.tup [.var 4], .var 3, .var 0], .con (.int 0)]) (.nm 4) [] [4]) (fun x : Nat => D.int (x : Int)) (fun x => D.int (led1 m p x : Nat))
          (fun e => ∃ t4, e = [.val true (.fz (.int m)), .val true (.fz (.tup (encS s))), .lck, .val false (.fz (.tup [.int p.1, .int p.2])), t4] ∧ Fr t4) (xs := (List.range (2 ^ m)).map (deedN m (s.take i))) (env0 := [.val true (.fz (.int m)), .val true (.fz (.tup (encS s))), .lck, .val false (.fz (.tup [.int p.1, .int p.2])), .emp]) ⟨_, rfl, .emp⟩ (by rw [List.length_map, List.length_range]; omega)
          fun x hx e ⟨t4, he, _⟩ => by
            subst he
            obtain ⟨o, e3⟩ := led_one k.pow k.led n (w := m) (x := x) (p := p) (by omega) g1 g2
            refine ⟨_, ?_, .val false (.fz (.int x)), rfl, .val⟩
            simp [compB, evE_call k.led, k_led, s1, Val.frz, e3, L2.atI, L2.ixN]
        have e4 : (List.range (2 ^ m)).map (deedN m (s.take (i + 1))) = ((List.range (2 ^ m)).map (deedN m (s.take i))).map (led1 m p) := by
          rw [List.map_map, take_succ_get hi]
          exact List.map_congr_left fun x _ => deedN_snoc _ _ _ _
        have e5 : ((List.range (2 ^ m)).map (deedN m (s.take i))).map (fun x => D.int (led1 m p x : Nat)) = encN (((List.range (2 ^ m)).map (deedN m (s.take i))).map (led1 m p)) := by
          unfold encN
          rw [List.map_map, List.map_map, List.map_map]
          rfl
        rw [e4]
        rw [e5] at h1
        simp [forB, stO_fr f3]
        simp [encN] at h1
        simp [encN]
        rw [h1]
        simp
  have hk : s.take (0 + (encS s).length) = s := by rw [Nat.zero_add, encS_len, List.take_length]
  rw [hk] at he
  subst he
  refine ⟨_, (congrArg (fin 2) (st_then (env' := [.val true (.fz (.int m)), .val true (.fz (.tup (encS s))), .val false (.own (encN (List.range (2 ^ m)))), .emp, .emp]) ?_ (st_then (env' := [.val true (.fz (.int m)), .val true (.fz (.tup (encS s))), .val false (.own (encN (deedL m s))), s3, s4]) ?_ (st_rt (w := .fz (.tup (encN (deedL m s)))) (env' := [.val true (.fz (.int m)), .val true (.fz (.tup (encS s))), .val false (.own (encN (deedL m s))), s3, s4]) ?_)))).trans rfl⟩
  · simp [k_deed, evE_call k.pow, k_power_two, e1, pr]
  · simp
    rw [h1]
    simp [deedL]
  · simp [Val.frz]
theorem dof_ok (n : Nat) {m : Nat} {s : List (Nat × Nat)} (m2 : m ≤ 10) (hs : okS m s) : ∃ o, callF Γ (n + 4) "deed_of" [.fz (netD m s)] = .ok (.fz (.tup (encN (deedL m s))), o) := by
  rw [callF_fn k.dof rfl]
  obtain ⟨o, e⟩ := deed_ok k n m2 hs
  exact ⟨[.val true (.fz (netD m s))], by simp [k_deed_of, evE_call k.deed, k_deed, e]⟩
theorem idle_ok (n : Nat) {m : Nat} {s : List (Nat × Nat)} (m2 : m ≤ 10) (hs : okS m s) : ∃ o, callF Γ (n + 5) "is_idle" [.fz (netD m s)] = .ok (.fz (.bl (decide (leftS m s = lexU m))), o) := by
  rw [callF_fn k.idle rfl]
  obtain ⟨o, e⟩ := dof_ok k n m2 hs
  obtain ⟨o1, e1⟩ := power_ok k.pow (n + 3) (k := m) (by omega)
  have pt : primO (.tupleR 1) [.int (2 ^ m)] = .ok (.fz (.tup (encN (List.range (2 ^ m))))) := by have := p_tupleR (k := 1) (m := 2 ^ m) (by have := pow_le k m2; omega); simpa using this
  refine ⟨[.val true (.fz (netD m s))], ?_⟩
  simp [k_is_idle, evE_call k.dof, k_deed_of, e, evE_call k.pow, k_power_two, e1, pt, Val.frz, p_eqN]
  exact idle_iff hs
theorem deedL_len (m : Nat) (s : List (Nat × Nat)) : (deedL m s).length = 2 ^ m := by unfold deedL; rw [List.length_map, List.length_range]
theorem deedL_at {m x : Nat} {s : List (Nat × Nat)} (h : x < 2 ^ m) : (deedL m s).getD x 0 = deedN m s x := by
  unfold deedL
  rw [List.getD_eq_getElem?_getD, List.getElem?_map, List.getElem?_range h]
  rfl
theorem at_deed {m x : Nat} {s : List (Nat × Nat)} (h : x < 2 ^ m) : L2.atI (encN (deedL m s)) (x : Int) = some (.int (deedN m s x : Nat)) := by
  rw [at_encN (by rw [deedL_len k]; exact h), deedL_at k h]
theorem stl_ok (n : Nat) {m : Nat} {s : List (Nat × Nat)} (m2 : m ≤ 10) (hs : okS m s) : ∃ o, callF Γ (n + 5) "settles" [.fz (netD m s)] = .ok (.fz (.bl (decide (leftS m (s ++ s) = leftS m s))), o) := by
  rw [callF_fn k.stl rfl]
  have hp := pow_le k m2
  obtain ⟨o, e⟩ := dof_ok k n m2 hs
  have it := it_range (m := 2 ^ m) (by omega)
  obtain ⟨e', h1, t2, rfl, _⟩ := compL_m (step := compB Γ (callF Γ (n + 4)) (.eqc [.prim .idx [.var 1, .prim .idx [.var 1, .var 2]], .prim .idx [.var 1, .var 2]]) (.nm 2) [] [2]) (fun x : Nat => D.int (x : Int)) (fun x => D.bl (decide (deedN m s (deedN m s x) = deedN m s x)))
    (fun e => ∃ t2, e = [.val true (.fz (netD m s)), .val false (.fz (.tup (encN (deedL m s)))), t2] ∧ Fr t2) (xs := List.range (2 ^ m)) (env0 := [.val true (.fz (netD m s)), .val false (.fz (.tup (encN (deedL m s)))), .emp]) ⟨_, rfl, .emp⟩ (by rw [List.length_range]; omega)
    fun x hx e ⟨t2, he, _⟩ => by
      subst he
      have hx := List.mem_range.mp hx
      have hy := deed_lt hs hx
      refine ⟨_, ?_, .val false (.fz (.int x)), rfl, .val⟩
      simp [compB, at_deed k hx, at_deed k hy, Val.frz, Int.natCast_inj]
  have pa := p_allB (fun x => decide (deedN m s (deedN m s x) = deedN m s x)) (List.range (2 ^ m))
  rw [settle_iff hs] at pa
  refine ⟨[.val true (.fz (netD m s))], (congrArg (fin 1) (st_then (env' := [.val true (.fz (netD m s)), .val false (.fz (.tup (encN (deedL m s)))), .emp]) ?_ (st_rt (w := .fz (.bl (decide (leftS m (s ++ s) = leftS m s)))) (env' := [.val true (.fz (netD m s)), .val false (.fz (.tup (encN (deedL m s)))), .emp]) ?_))).trans rfl⟩
  · simp [k_settles, evE_call k.dof, k_deed_of, e]
  · simp only [evS_retP, evE_prim, evAs_comp, evE_compE, evAs_prim, evAs_var, evAs_nil, argVar_O, List.getElem?_cons_succ, List.getElem?_cons_zero, agO_fz, Res.bind_ok, pkArgs_val, pkArgs_nil, Val.frz_fz, p_lenT, encN_len, deedL_len k, it, lockArgs_val, lockArgs_nil, wipeE_cons, wipeE_nil, List.set_cons_succ, List.set_cons_zero]
    rw [show encN (List.range (2 ^ m)) = (List.range (2 ^ m)).map (fun x : Nat => D.int (x : Int)) from rfl, h1]
    simp [pa, Val.frz]
theorem kept_ok (n : Nat) {m : Nat} {s : List (Nat × Nat)} (m2 : m ≤ 10) (hs : okS m s) : ∃ o, callF Γ (n + 5) "kept_rows" [.fz (netD m s)] = .ok (.own (encN (((lexU m).filter fun r => decide (runS s r = r)).map numR)), o) := by
  rw [callF_fn k.kept rfl]
  have hp := pow_le k m2
  obtain ⟨o, e⟩ := dof_ok k n m2 hs
  have it := it_range (m := 2 ^ m) (by omega)
  obtain ⟨e', h1, t2, rfl, _⟩ := compL_f (step := compB Γ (callF Γ (n + 4)) (.var 2) (.nm 2) [.eqc [.prim .idx [.var 1, .var 2], .var 2]] [2]) (fun x : Nat => D.int (x : Int)) (fun x => decide (deedN m s x = x)) (fun x => D.int (x : Int))
    (fun e => ∃ t2, e = [.val true (.fz (netD m s)), .val false (.fz (.tup (encN (deedL m s)))), t2] ∧ Fr t2) (xs := List.range (2 ^ m)) (env0 := [.val true (.fz (netD m s)), .val false (.fz (.tup (encN (deedL m s)))), .emp]) ⟨_, rfl, .emp⟩ (by rw [List.length_range]; omega)
    fun x hx e ⟨t2, he, _⟩ => by
      subst he
      have hx := List.mem_range.mp hx
      refine ⟨_, ?_, .val false (.fz (.int x)), rfl, .val⟩
      by_cases c : deedN m s x = x <;> simp [compB, at_deed k hx, Val.frz, c, Int.natCast_inj]
  rw [kept_eq hs] at h1
  refine ⟨[.val true (.fz (netD m s))], (congrArg (fin 1) (st_then (env' := [.val true (.fz (netD m s)), .val false (.fz (.tup (encN (deedL m s)))), .emp]) ?_ (st_rt (w := .own (encN (((lexU m).filter fun r => decide (runS s r = r)).map numR))) (env' := [.val true (.fz (netD m s)), .val false (.fz (.tup (encN (deedL m s)))), .emp]) ?_))).trans rfl⟩
  · simp [k_kept_rows, evE_call k.dof, k_deed_of, e]
  · simp only [evS_retM, evE_compE, evE_prim, evAs_prim, evAs_var, evAs_nil, argVar_O, List.getElem?_cons_succ, List.getElem?_cons_zero, agO_fz, Res.bind_ok, pkArgs_val, pkArgs_nil, Val.frz_fz, p_lenT, encN_len, deedL_len k, it, lockArgs_val, lockArgs_nil, wipeE_cons, wipeE_nil, List.set_cons_succ, List.set_cons_zero]
    rw [show encN (List.range (2 ^ m)) = (List.range (2 ^ m)).map (fun x : Nat => D.int (x : Int)) from rfl, h1]
    simp [encN]
theorem finer_ok (n : Nat) {m : Nat} {s t : List (Nat × Nat)} (m2 : m ≤ 10) (hs : okS m s) (ht : okS m t) : ∃ o, callF Γ (n + 5) "is_finer" [.fz (netD m s), .fz (netD m t)] = .ok (.fz (.bl ((leftS m s).all fun r => decide (r ∈ leftS m t))), o) := by
  rw [callF_fn k.finer rfl]
  have hp := pow_le k m2
  obtain ⟨o, e⟩ := dof_ok k n m2 hs
  obtain ⟨o2, e2⟩ := dof_ok k n m2 ht
  obtain ⟨e', h1, t3, rfl, _⟩ := compL_m (step := compB Γ (callF Γ (n + 4)) (.prim .inn [.var 3, .var 2]) (.nm 3) [] [3]) (fun x : Nat => D.int (x : Int)) (fun x => D.bl (decide (x ∈ deedL m t)))
    (fun e => ∃ t3, e = [.val true (.fz (netD m s)), .val true (.fz (netD m t)), .val false (.fz (.tup (encN (deedL m t)))), t3] ∧ Fr t3) (xs := deedL m s) (env0 := [.val true (.fz (netD m s)), .val true (.fz (netD m t)), .val false (.fz (.tup (encN (deedL m t)))), .emp]) ⟨_, rfl, .emp⟩ (by rw [deedL_len k]; omega)
    fun x hx e ⟨t3, he, _⟩ => by
      subst he
      refine ⟨_, ?_, .val false (.fz (.int x)), rfl, .val⟩
      simp [compB, p_inN, Val.frz]
  have pa := p_allB (fun x => decide (x ∈ deedL m t)) (deedL m s)
  rw [finer_eq hs ht] at pa
  refine ⟨[.val true (.fz (netD m s)), .val true (.fz (netD m t))], (congrArg (fin 2) (st_then (env' := [.val true (.fz (netD m s)), .val true (.fz (netD m t)), .val false (.fz (.tup (encN (deedL m t)))), .emp]) ?_ (st_rt (w := .fz (.bl ((leftS m s).all fun r => decide (r ∈ leftS m t)))) (env' := [.val true (.fz (netD m s)), .val true (.fz (netD m t)), .val false (.fz (.tup (encN (deedL m t)))), .emp]) ?_))).trans rfl⟩
  · simp [k_is_finer, evE_call k.dof, k_deed_of, e2]
  · simp [evE_call k.dof, k_deed_of, e]
    rw [show encN (deedL m s) = (deedL m s).map (fun x : Nat => D.int (x : Int)) from rfl, h1]
    simp [pa]
theorem com_ok (n : Nat) {m : Nat} {s t : List (Nat × Nat)} (m2 : m ≤ 10) (hs : okS m s) (ht : okS m t) : ∃ o, callF Γ (n + 5) "commute" [.fz (netD m s), .fz (netD m t)] = .ok (.fz (.bl (decide (leftS m (s ++ t) = leftS m (t ++ s)))), o) := by
  rw [callF_fn k.com rfl]
  have hp := pow_le k m2
  obtain ⟨o, e⟩ := dof_ok k n m2 hs
  obtain ⟨o2, e2⟩ := dof_ok k n m2 ht
  have it := it_range (m := 2 ^ m) (by omega)
  obtain ⟨e', h1, t4, rfl, _⟩ := compL_m (step := compB Γ (callF Γ (n + 4)) (.eqc [.prim .idx [.var 3, .prim .idx [.var 2, .var 4]], .prim .idx [.var 2, .prim .idx [.var 3, .var 4]]]) (.nm 4) [] [4]) (fun x : Nat => D.int (x : Int)) (fun x => D.bl (decide (deedN m t (deedN m s x) = deedN m s (deedN m t x))))
    (fun e => ∃ t4, e = [.val true (.fz (netD m s)), .val true (.fz (netD m t)), .val false (.fz (.tup (encN (deedL m s)))), .val false (.fz (.tup (encN (deedL m t)))), t4] ∧ Fr t4) (xs := List.range (2 ^ m)) (env0 := [.val true (.fz (netD m s)), .val true (.fz (netD m t)), .val false (.fz (.tup (encN (deedL m s)))), .val false (.fz (.tup (encN (deedL m t)))), .emp]) ⟨_, rfl, .emp⟩ (by rw [List.length_range]; omega)
    fun x hx e ⟨t4, he, _⟩ => by
      subst he
      have hx := List.mem_range.mp hx
      have hy := deed_lt hs hx
      have hz := deed_lt ht hx
      refine ⟨_, ?_, .val false (.fz (.int x)), rfl, .val⟩
      simp [compB, at_deed k hx, at_deed k hy, at_deed k hz, Val.frz, Int.natCast_inj]
  have pa := p_allB (fun x => decide (deedN m t (deedN m s x) = deedN m s (deedN m t x))) (List.range (2 ^ m))
  rw [comm_eq hs ht] at pa
  refine ⟨[.val true (.fz (netD m s)), .val true (.fz (netD m t))], (congrArg (fin 2) (st_then (env' := [.val true (.fz (netD m s)), .val true (.fz (netD m t)), .val false (.fz (.tup (encN (deedL m s)))), .val false (.fz (.tup (encN (deedL m t)))), .emp]) ?_ (st_rt (w := .fz (.bl (decide (leftS m (s ++ t) = leftS m (t ++ s))))) (env' := [.val true (.fz (netD m s)), .val true (.fz (netD m t)), .val false (.fz (.tup (encN (deedL m s)))), .val false (.fz (.tup (encN (deedL m t)))), .emp]) ?_))).trans rfl⟩
  · simp [k_commute, evE_call k.dof, k_deed_of, e, e2]
  · have hl : primO .eq [.int ((deedL m s).length : Nat), .int ((deedL m t).length : Nat)] = .ok (.fz (.bl true)) := by rw [deedL_len k, deedL_len k]; simp
    rw [evS_retA, and_t (env' := [.val true (.fz (netD m s)), .val true (.fz (netD m t)), .val false (.fz (.tup (encN (deedL m s)))), .val false (.fz (.tup (encN (deedL m t)))), .emp]) (by simp [encN_len, deedL_len k, Val.frz])]
    simp only [evE_prim, evAs_comp, evE_compE, evAs_prim, evAs_var, evAs_nil, argVar_O, List.getElem?_cons_succ, List.getElem?_cons_zero, agO_fz, Res.bind_ok, pkArgs_val, pkArgs_nil, Val.frz_fz, p_lenT, encN_len, deedL_len k, it, lockArgs_val, lockArgs_nil, wipeE_cons, wipeE_nil, List.set_cons_succ, List.set_cons_zero]
    rw [show encN (List.range (2 ^ m)) = (List.range (2 ^ m)).map (fun x : Nat => D.int (x : Int)) from rfl, h1]
    simp [pa, Val.frz]
/-- nets of different width do not commute -/
theorem com_no (n : Nat) {m m' : Nat} {s t : List (Nat × Nat)} (m2 : m ≤ 10) (m3 : m' ≤ 10) (hm : m ≠ m') (hs : okS m s) (ht : okS m' t) : ∃ o, callF Γ (n + 5) "commute" [.fz (netD m s), .fz (netD m' t)] = .ok (.fz (.bl false), o) := by
  rw [callF_fn k.com rfl]
  obtain ⟨o, e⟩ := dof_ok k n m2 hs
  obtain ⟨o2, e2⟩ := dof_ok k n m3 ht
  have hne : (2 ^ m : Nat) ≠ 2 ^ m' := fun z => hm ((Nat.pow_right_inj (by omega)).mp z)
  refine ⟨[.val true (.fz (netD m s)), .val true (.fz (netD m' t))], (congrArg (fin 2) (st_then (env' := [.val true (.fz (netD m s)), .val true (.fz (netD m' t)), .val false (.fz (.tup (encN (deedL m s)))), .val false (.fz (.tup (encN (deedL m' t)))), .emp]) ?_ (st_rt (w := .fz (.bl false)) (env' := [.val true (.fz (netD m s)), .val true (.fz (netD m' t)), .val false (.fz (.tup (encN (deedL m s)))), .val false (.fz (.tup (encN (deedL m' t)))), .emp]) ?_))).trans rfl⟩
  · simp [k_commute, evE_call k.dof, k_deed_of, e, e2]
  · rw [evS_retA, and_f (env' := [.val true (.fz (netD m s)), .val true (.fz (netD m' t)), .val false (.fz (.tup (encN (deedL m s)))), .val false (.fz (.tup (encN (deedL m' t)))), .emp]) ?_]
    · rfl
    · have : ¬ ((2 ^ m : Nat) : Int) = ((2 ^ m' : Nat) : Int) := fun z => hne (by exact_mod_cast z)
      simp only [evE_eqc, evAs_prim, evE_prim, evAs_var, evAs_nil, argVar_O, List.getElem?_cons_succ, List.getElem?_cons_zero, agO_fz, Res.bind_ok, pkArgs_val, pkArgs_nil, Val.frz_fz, p_lenT, encN_len, deedL_len k, eqR_int, eqN_cc, p_eqI, decide_eq_false this]
end
end Rx

set_option Elab.async false
set_option linter.all false
set_option autoImplicit false
set_option maxRecDepth 100000
set_option maxHeartbeats 1000000
namespace Rx
open PySem
/-! ### _law_is of a thing and itself -/
def isOk : Nat → D → Prop
  | 0, d => (∃ i, d = .int i) ∨ (∃ b, d = .bl b) ∨ d = .non
  | n + 1, d => (∃ i, d = .int i) ∨ (∃ b, d = .bl b) ∨ d = .non ∨ (∃ l, d = .tup l ∧ l.length ≤ 100000 ∧ ∀ x ∈ l, isOk n x) ∨ ∃ l, d = .lst l ∧ l.length ≤ 100000 ∧ ∀ x ∈ l, isOk n x
def k_law_is : Fn := { np := 2, ns := 4, pins := [0, 1], body := [.ite (.prim (.isa ["tuple", "list"]) [.var 1]) [.ite (.prim .ne [.prim (.isa ["tuple"]) [.var 0], .prim (.isa ["tuple"]) [.var 1]]) [.ret (.con (.bl false))] [], .ite (.or (.prim .ne [.prim (.isa ["list"]) [.var 0], .prim (.isa ["list"]) [.var 1]]) (.prim .ne [.prim .len [.var 0], .prim .len [.var 1]])) [.ret (.con (.bl false))] [], .ret (.prim .all [.comp (.call "_law_is" [.var 2, .var 3]) (.tp [.nm 2, .nm 3]) .zip [.var 0, .var 1] [] [2, 3]])] [], .ite (.or (.prim .isN [.var 1]) (.prim .isN [.var 0])) [.ret (.and (.prim .isN [.var 1]) (.prim .isN [.var 0]))] [], .ite (.prim .ne [.prim (.isa ["bool"]) [.var 0], .prim (.isa ["bool"]) [.var 1]]) [.ret (.con (.bl false))] [], .ret (.and (.eqc [.prim (.isa ["str"]) [.var 0], .prim (.isa ["str"]) [.var 1]]) (.eqc [.var 0, .var 1]))] }
@[simp] theorem it_zipL {l m : List D} : iterO .zip [.lst l, .lst m] = .ok (List.zipWith (fun x y => .tup [x, y]) l m) := by rw [iterO_eq]; rfl
@[simp] theorem it_zipT {l m : List D} : iterO .zip [.tup l, .tup m] = .ok (List.zipWith (fun x y => .tup [x, y]) l m) := by rw [iterO_eq]; rfl
theorem zip_self (l : List D) : List.zipWith (fun x y => D.tup [x, y]) l l = l.map fun x => .tup [x, x] := by
  induction l with
  | nil => rfl
  | cons x l ih => simp [ih]
@[simp] theorem isN_int {i : Int} : primO .isN [.int i] = .ok (.fz (.bl false)) := by rw [primO_eq]; rfl
@[simp] theorem isN_bl {i : Bool} : primO .isN [.bl i] = .ok (.fz (.bl false)) := by rw [primO_eq]; rfl
@[simp] theorem isN_non : primO .isN [.non] = .ok (.fz (.bl true)) := by rw [primO_eq]; rfl
@[simp] theorem isN_tup {l : List D} : primO .isN [.tup l] = .ok (.fz (.bl false)) := by rw [primO_eq]; rfl
@[simp] theorem isN_lst {l : List D} : primO .isN [.lst l] = .ok (.fz (.bl false)) := by rw [primO_eq]; rfl
@[simp] theorem isN_str {l : Str} : primO .isN [.str l] = .ok (.fz (.bl false)) := by rw [primO_eq]; rfl
theorem isa_tl1 {l : List D} : primO (.isa ["tuple", "list"]) [.tup l] = .ok (.fz (.bl true)) := by rw [primO_eq]; rfl
theorem isa_tl2 {l : List D} : primO (.isa ["tuple", "list"]) [.lst l] = .ok (.fz (.bl true)) := by rw [primO_eq]; rfl
theorem isa_tl3 {i : Int} : primO (.isa ["tuple", "list"]) [.int i] = .ok (.fz (.bl false)) := by rw [primO_eq]; rfl
theorem isa_tl4 {i : Bool} : primO (.isa ["tuple", "list"]) [.bl i] = .ok (.fz (.bl false)) := by rw [primO_eq]; rfl
theorem isa_tl5 : primO (.isa ["tuple", "list"]) [.non] = .ok (.fz (.bl false)) := by rw [primO_eq]; rfl
theorem isa_1 {l : List D} : primO (.isa ["tuple"]) [.tup l] = .ok (.fz (.bl true)) := by rw [primO_eq]; rfl
theorem isa_2 {l : List D} : primO (.isa ["tuple"]) [.lst l] = .ok (.fz (.bl false)) := by rw [primO_eq]; rfl
theorem isa_3 {l : List D} : primO (.isa ["list"]) [.tup l] = .ok (.fz (.bl false)) := by rw [primO_eq]; rfl
theorem isa_4 {l : List D} : primO (.isa ["list"]) [.lst l] = .ok (.fz (.bl true)) := by rw [primO_eq]; rfl
theorem isa_b1 {i : Int} : primO (.isa ["bool"]) [.int i] = .ok (.fz (.bl false)) := by rw [primO_eq]; rfl
theorem isa_b2 {i : Bool} : primO (.isa ["bool"]) [.bl i] = .ok (.fz (.bl true)) := by rw [primO_eq]; rfl
theorem isa_s1 {i : Int} : primO (.isa ["str"]) [.int i] = .ok (.fz (.bl false)) := by rw [primO_eq]; rfl
theorem isa_s2 {i : Bool} : primO (.isa ["str"]) [.bl i] = .ok (.fz (.bl false)) := by rw [primO_eq]; rfl
theorem ne_bl {b : Bool} : primO .ne [.bl b, .bl b] = .ok (.fz (.bl false)) := p_ne_self (a := .bl b) rfl
theorem eq_bl {b : Bool} : primO .eq [.bl b, .bl b] = .ok (.fz (.bl true)) := p_eq_self (a := .bl b) rfl
/-- how a value stands: done with, or a list of one's own -/
def Sits (w : Val) (d : D) : Prop := w = .fz d ∨ ∃ l, d = .lst l ∧ w = .own l
theorem law_is_ok {Γ : Tbl} (hf : Γ.fn "_law_is" = some k_law_is) : ∀ (n m : Nat) {d : D} {w w' : Val}, isOk n d → Sits w d → Sits w' d → callF Γ (m + n + 1) "_law_is" [w, w'] = .ok (.fz (.bl true), [.val true w, .val true w'])
  | n, m, d, w, w', hd, hw, hw' => by
    rw [callF_fn hf rfl]
    have int : ∀ i, d = .int i → fin 2 (evSs Γ (callF Γ (m + n)) k_law_is.body (startE k_law_is.pins 0 [w, w'] ++ List.replicate (k_law_is.ns - k_law_is.np) Slot.emp)) = .ok (.fz (.bl true), [.val true w, .val true w']) := fun i e => by
      subst e
      obtain rfl : w = .fz (.int i) := by rcases hw with e | ⟨l, e, _⟩ <;> first | exact e | cases e
      obtain rfl : w' = .fz (.int i) := by rcases hw' with e | ⟨l, e, _⟩ <;> first | exact e | cases e
      simp [-p_isa, k_law_is, isa_tl3, isa_b1, isa_s1, ne_bl, eq_bl, Val.frz]
    have bl : ∀ i, d = .bl i → fin 2 (evSs Γ (callF Γ (m + n)) k_law_is.body (startE k_law_is.pins 0 [w, w'] ++ List.replicate (k_law_is.ns - k_law_is.np) Slot.emp)) = .ok (.fz (.bl true), [.val true w, .val true w']) := fun i e => by
      subst e
      obtain rfl : w = .fz (.bl i) := by rcases hw with e | ⟨l, e, _⟩ <;> first | exact e | cases e
      obtain rfl : w' = .fz (.bl i) := by rcases hw' with e | ⟨l, e, _⟩ <;> first | exact e | cases e
      simp [-p_isa, k_law_is, isa_tl4, isa_b2, isa_s2, ne_bl, eq_bl, Val.frz]
    have non : d = .non → fin 2 (evSs Γ (callF Γ (m + n)) k_law_is.body (startE k_law_is.pins 0 [w, w'] ++ List.replicate (k_law_is.ns - k_law_is.np) Slot.emp)) = .ok (.fz (.bl true), [.val true w, .val true w']) := fun e => by
      subst e
      obtain rfl : w = .fz .non := by rcases hw with e | ⟨l, e, _⟩ <;> first | exact e | cases e
      obtain rfl : w' = .fz .non := by rcases hw' with e | ⟨l, e, _⟩ <;> first | exact e | cases e
      simp [-p_isa, k_law_is, isa_tl5, Val.frz]
    cases n with
    | zero =>
      rcases hd with ⟨i, e⟩ | ⟨i, e⟩ | e
      · exact int i e
      · exact bl i e
      · exact non e
    | succ n =>
      have body : ∀ (l : List D), l.length ≤ 100000 → (∀ x ∈ l, isOk n x) → ∀ a b : Slot, ∃ s2 s3, compL (compB Γ (callF Γ (m + (n + 1))) (.call "_law_is" [.var 2, .var 3]) (.tp [.nm 2, .nm 3]) [] [2, 3]) (l.map fun x => .tup [x, x]) [] [a, b, .emp, .emp] = .ok (l.map fun _ => .bl true, [a, b, s2, s3]) := fun l hl hx a b => by
        obtain ⟨e', h1, s2, s3, rfl, _, _⟩ := compL_m (step := compB Γ (callF Γ (m + (n + 1))) (.call "_law_is" [.var 2, .var 3]) (.tp [.nm 2, .nm 3]) [] [2, 3]) (fun x : D => D.tup [x, x]) (fun _ => D.bl true)
          (fun e => ∃ s2 s3, e = [a, b, s2, s3] ∧ Fr s2 ∧ Fr s3) (xs := l) (env0 := [a, b, .emp, .emp]) ⟨_, _, rfl, .emp, .emp⟩ (by omega)
          fun x hm e ⟨s2, s3, he, _, _⟩ => by
            subst he
            have ih := law_is_ok hf n m (d := x) (w := .fz x) (w' := .fz x) (hx x hm) (.inl rfl) (.inl rfl)
            rw [show m + n + 1 = m + (n + 1) from rfl] at ih
            refine ⟨_, ?_, .val false (.fz x), .val false (.fz x), rfl, .val, .val⟩
            simp [compB, evE_call hf, k_law_is, ih]
        exact ⟨s2, s3, h1⟩
      have pa : ∀ l : List D, primO .all [.lst (l.map fun _ => .bl true)] = .ok (.fz (.bl true)) := fun l => all_true fun d hd => by
        obtain ⟨_, _, rfl⟩ := List.mem_map.mp hd
        rfl
      rcases hd with ⟨i, e⟩ | ⟨i, e⟩ | e | ⟨l, e, hl, hx⟩ | ⟨l, e, hl, hx⟩
      · exact int i e
      · exact bl i e
      · exact non e
      · subst e
        obtain rfl : w = .fz (.tup l) := by rcases hw with e | ⟨l, e, _⟩ <;> first | exact e | cases e
        obtain rfl : w' = .fz (.tup l) := by rcases hw' with e | ⟨l, e, _⟩ <;> first | exact e | cases e
        obtain ⟨s2, s3, h1⟩ := body l hl hx (.val true (.fz (.tup l))) (.val true (.fz (.tup l)))
        simp [-p_isa, k_law_is, isa_tl1, isa_1, isa_3, ne_bl, Val.frz]
        rw [h1]
        simp [pa, Val.frz]
      · subst e
        rcases hw with rfl | ⟨l1, e1, rfl⟩ <;> rcases hw' with rfl | ⟨l2, e2, rfl⟩
        · obtain ⟨s2, s3, h1⟩ := body l hl hx (.val true (.fz (.lst l))) (.val true (.fz (.lst l)))
          simp [-p_isa, k_law_is, isa_tl2, isa_2, isa_4, ne_bl, Val.frz]
          rw [h1]
          simp [pa, Val.frz]
        · cases e2
          obtain ⟨s2, s3, h1⟩ := body l hl hx (.val true (.fz (.lst l))) .lck
          simp [-p_isa, k_law_is, isa_tl2, isa_2, isa_4, ne_bl, Val.frz]
          rw [h1]
          simp [pa, Val.frz]
        · cases e1
          obtain ⟨s2, s3, h1⟩ := body l hl hx .lck (.val true (.fz (.lst l)))
          simp [-p_isa, k_law_is, isa_tl2, isa_2, isa_4, ne_bl, Val.frz]
          rw [h1]
          simp [pa, Val.frz]
        · cases e1
          cases e2
          obtain ⟨s2, s3, h1⟩ := body l hl hx .lck .lck
          simp [-p_isa, k_law_is, isa_tl2, isa_2, isa_4, ne_bl, Val.frz]
          rw [h1]
          simp [pa, Val.frz]
end Rx

set_option Elab.async false
set_option linter.all false
set_option autoImplicit false
set_option maxRecDepth 100000
set_option maxHeartbeats 1000000
namespace Rx
open PySem
def k_lrun17 : Fn := { np := 2, ns := 5, pins := [0, 1], body := [.asg (.nm 2) (.prim .list [.var 1]), .for (.tp [.nm 3, .nm 4]) .plain [.var 0] [.ite (.prim .gt [.prim .idx [.var 2, .var 3], .prim .idx [.var 2, .var 4]]) [.asg (.tp [.sub 2 (.var 3), .sub 2 (.var 4)]) (.tup [.prim .idx [.var 2, .var 4], .prim .idx [.var 2, .var 3]])] []], .ret (.prim .tuple [.var 2])] }
theorem lrun_ok {Γ : Tbl} (hf : Γ.fn "_law_run" = some k_lrun17) (n : Nat) {s : List (Nat × Nat)} {r : List Int} (hs : okS r.length s) : ∃ o, callF Γ (n + 1) "_law_run" [.fz (.tup (encS s)), .fz (.tup (r.map D.int))] = .ok (.fz (.tup ((runS s r).map D.int)), o) := by
  rw [callF_fn hf rfl]
  have sl : 2 ≤ SL := by decide
  obtain ⟨e', h1, s2, s3, he, _, _⟩ := forL_inv (step := forB Γ (callF Γ n) (.tp [.nm 3, .nm 4]) rawB) (its := encS s) (k := 0) (env0 := [.val true (.fz (.tup (encS s))), .val true (.fz (.tup (r.map D.int))), .val false (.own (r.map D.int)), .emp, .emp])
    (fun k e => ∃ s2 s3, e = [.val true (.fz (.tup (encS s))), .val true (.fz (.tup (r.map D.int))), .val false (.own ((runS (s.take k) r).map D.int)), s2, s3] ∧ Fr s2 ∧ Fr s3) ⟨.emp, .emp, rfl, .emp, .emp⟩ fun i d e hd ⟨s2, s3, he, f2, f3⟩ => by
      subst he
      rw [Nat.zero_add]
      unfold encS at hd
      rw [List.getElem?_map] at hd
      cases hi : s[i]? with
      | none => rw [hi] at hd; cases hd
      | some p =>
        rw [hi] at hd
        cases hd
        obtain ⟨a, b⟩ := p
        obtain ⟨h1, h2, h3⟩ := hs (a, b) (List.mem_of_getElem? hi)
        have l1 : a < (runS (s.take i) r).length := by rw [runS_len]; exact h1
        have l2 : b < (runS (s.take i) r).length := by rw [runS_len]; exact h2
        refine ⟨[.val true (.fz (.tup (encS s))), .val true (.fz (.tup (r.map D.int))), .val false (.own ((runS (s.take (i + 1)) r).map D.int)), .val false (.fz (.int a)), .val false (.fz (.int b))], .inl ?_, _, _, rfl, .val, .val⟩
        rw [take_succ_get hi, runS_snoc]
        generalize hx : runS (s.take i) r = x at l1 l2
        have l3 : b < (x.set a (x.getD b 0)).length := by rw [List.length_set]; exact l2
        by_cases hlt : x.getD b 0 < x.getD a 0
        · have e1 : sw1 x (a, b) = (x.set a (x.getD b 0)).set b (x.getD a 0) := if_pos hlt
          rw [e1]
          have m1 := set_map (v := x.getD b 0) l1
          have m2 := set_map (v := x.getD a 0) l3
          simp only [List.getD_eq_getElem?_getD, List.map_set] at hlt m1 m2
          simp [forB, rawB, stO_fr f2, stO_fr f3, at_map l1, at_map l2, hlt, sl, m1, m2]
        · have e1 : sw1 x (a, b) = x := if_neg hlt
          rw [e1]
          simp only [List.getD_eq_getElem?_getD] at hlt
          simp [forB, rawB, stO_fr f2, stO_fr f3, at_map l1, at_map l2, hlt]
  have hk : s.take (0 + (encS s).length) = s := by
    rw [Nat.zero_add, encS_len, List.take_length]
  rw [hk] at he
  subst he
  refine ⟨_, (congrArg (fin 2) (st_then (env' := [.val true (.fz (.tup (encS s))), .val true (.fz (.tup (r.map D.int))), .val false (.own (r.map D.int)), .emp, .emp]) ?_ (st_then (env' := [.val true (.fz (.tup (encS s))), .val true (.fz (.tup (r.map D.int))), .val false (.own ((runS s r).map D.int)), s2, s3]) ?_ (st_rt (w := .fz (.tup ((runS s r).map D.int))) (env' := [.val true (.fz (.tup (encS s))), .val true (.fz (.tup (r.map D.int))), .val false (.own ((runS s r).map D.int)), s2, s3]) ?_)))).trans rfl⟩
  · simp [k_lrun17]
  · simp
    rw [show ([CS.ite (.prim .gt [.prim .idx [.var 2, .var 3], .prim .idx [.var 2, .var 4]]) [.asg (.tp [.sub 2 (.var 3), .sub 2 (.var 4)]) (.tup [.prim .idx [.var 2, .var 4], .prim .idx [.var 2, .var 3]])] []] : List CS) = rawB from rfl, h1]
    simp
  · simp [Val.frz]
def k_lbits : Fn := { np := 1, ns := 5, pins := [0], body := [.asg (.nm 1) (.lst [.tup []]), .for (.nm 2) (.range 1) [.var 0] [.asg (.nm 3) (.lst []), .for (.nm 4) .plain [.var 1] [.expr (.mut .extend 3 [.lst [.prim .add [.var 4, .tup [.con (.int 0)]], .prim .add [.var 4, .tup [.con (.int 1)]]]])], .asg (.nm 1) (.var 3)], .ret (.var 1)] }
theorem lbits_ok {Γ : Tbl} (hf : Γ.fn "_law_bits" = some k_lbits) (n : Nat) {m : Nat} (m1 : 1 ≤ m) (m2 : m ≤ 10) : ∃ o, callF Γ (n + 1) "_law_bits" [.fz (.int m)] = .ok (.fz (.lst (encR (lexU m))), o) := by
  rw [callF_fn hf rfl]
  have s1' : 1 ≤ SL := sl_le (m := 1) (Nat.le_refl _) (by omega)
  have s2' : 2 ≤ SL := sl_le (m := 2) (Nat.le_refl _) (by omega)
  have inner : ∀ (k : Nat) (a : Slot) (d : D) (s4 : Slot), k ≤ 10 → Fr s4 → ∃ s4', Fr s4' ∧ forL (forB Γ (callF Γ n) (.nm 4) [.expr (.mut .extend 3 [.lst [.prim .add [.var 4, .tup [.con (.int 0)]], .prim .add [.var 4, .tup [.con (.int 1)]]]])]) (encR (lexU k)) [.val true (.fz (.int m)), a, .val false (.fz d), .val false (.own []), s4] = .ok (.nx, [.val true (.fz (.int m)), a, .val false (.fz d), .val false (.own (encR (lexU (k + 1)))), s4']) := fun k a d s4 hk f4 => by
    have hp : 2 ^ k ≤ 1024 := Nat.pow_le_pow_right (by omega) hk
    obtain ⟨e', h1, s4', he, f4'⟩ := forL_inv (step := forB Γ (callF Γ n) (.nm 4) [.expr (.mut .extend 3 [.lst [.prim .add [.var 4, .tup [.con (.int 0)]], .prim .add [.var 4, .tup [.con (.int 1)]]]])]) (its := encR (lexU k)) (k := 0) (env0 := [.val true (.fz (.int m)), a, .val false (.fz d), .val false (.own []), s4])
      (fun i e => ∃ s4, e = [.val true (.fz (.int m)), a, .val false (.fz d), .val false (.own (encR (((lexU k).take i).flatMap fun r => [r ++ [0], r ++ [1]]))), s4] ∧ Fr s4) ⟨s4, rfl, f4⟩ fun i d' e hd ⟨s4, he, f4⟩ => by
        subst he
        rw [Nat.zero_add]
        unfold encR at hd
        rw [List.getElem?_map] at hd
        cases hi : (lexU k)[i]? with
        | none => rw [hi] at hd; cases hd
        | some r =>
          rw [hi] at hd
          cases hd
          have hr := lex_len (List.mem_of_getElem? hi)
          have hil : i < (lexU k).length := (List.getElem?_eq_some_iff.mp hi).1
          rw [lexU_len] at hil
          have hl : (((lexU k).take i).flatMap fun r => [r ++ [0], r ++ [1]]).length ≤ 2048 := by
            rw [List.length_flatMap]
            have : ((((lexU k).take i).map fun r => ([r ++ [0], r ++ [1]] : List (List Int)).length)).sum ≤ 2 * i := by
              have : (((lexU k).take i).map fun r => ([r ++ [0], r ++ [1]] : List (List Int)).length) = List.replicate ((lexU k).take i).length 2 := by
                rw [← List.map_const']
                exact List.map_congr_left fun _ _ => rfl
              rw [this, List.sum_replicate_nat, List.length_take]
              have : min i (lexU k).length ≤ i := Nat.min_le_left _ _
              omega
            omega
          have sl : r.length + 1 ≤ SL := sl_le (m := 100) (by omega) (by omega)
          have sl2 : (encR (((lexU k).take i).flatMap fun r => [r ++ [0], r ++ [1]])).length + 2 ≤ SL := by
            unfold encR
            rw [List.length_map]
            exact sl_le (m := 10000) (by omega) (by omega)
          refine ⟨[.val true (.fz (.int m)), a, .val false (.fz d), .val false (.own (encR (((lexU k).take (i + 1)).flatMap fun r => [r ++ [0], r ++ [1]]))), .val false (.fz (encT r))], .inl ?_, _, rfl, .val⟩
          have e1 : encR (((lexU k).take (i + 1)).flatMap fun r => [r ++ [0], r ++ [1]]) = encR (((lexU k).take i).flatMap fun r => [r ++ [0], r ++ [1]]) ++ [encT (r ++ [0]), encT (r ++ [1])] := by
            rw [take_succ_get hi, List.flatMap_append]
            simp [encR]
          rw [e1]
          generalize encR (((lexU k).take i).flatMap fun r => [r ++ [0], r ++ [1]]) = L at sl2
          simp [forB, stO_fr f4, encT, s1', s2', sl, sl2, Val.frz]
    rw [Nat.zero_add] at he
    have hk0 : (lexU k).take (encR (lexU k)).length = lexU k := by unfold encR; rw [List.length_map, List.take_length]
    rw [hk0] at he
    exact ⟨s4', f4', by rw [h1, he]; rfl⟩
  have it := it_range (m := m) (by omega)
  obtain ⟨e', h1, w, s2, s3, s4, he, hw, hz, f2, f3, f4⟩ := forL_inv (step := forB Γ (callF Γ n) (.nm 2) [.asg (.nm 3) (.lst []), .for (.nm 4) .plain [.var 1] [.expr (.mut .extend 3 [.lst [.prim .add [.var 4, .tup [.con (.int 0)]], .prim .add [.var 4, .tup [.con (.int 1)]]]])], .asg (.nm 1) (.var 3)]) (its := encN (List.range m)) (k := 0) (env0 := [.val true (.fz (.int m)), .val false (.own [.tup []]), .emp, .emp, .emp])
    (fun i e => ∃ w s2 s3 s4, e = [.val true (.fz (.int m)), .val false w, s2, s3, s4] ∧ Sits w (.lst (encR (lexU i))) ∧ (0 < i → w = .fz (.lst (encR (lexU i)))) ∧ Fr s2 ∧ Fr s3 ∧ Fr s4) ⟨_, _, _, _, rfl, .inr ⟨_, rfl, rfl⟩, fun z => absurd z (Nat.lt_irrefl 0), .emp, .emp, .emp⟩ fun i d e hi ⟨w, s2, s3, s4, he, hw, hz, f2, f3, f4⟩ => by
      subst he
      rw [Nat.zero_add] at *
      have him : i < m := by
        have := (List.getElem?_eq_some_iff.mp hi).1
        rw [encN_len, List.length_range] at this
        exact this
      rcases hw with rfl | ⟨l, e, rfl⟩
      · obtain ⟨s4', f4', h2⟩ := inner i (.val false (.fz (.lst (encR (lexU i))))) d s4 (by omega) f4
        refine ⟨[.val true (.fz (.int m)), .val false (.fz (.lst (encR (lexU (i + 1))))), .val false (.fz d), .val false (.fz (.lst (encR (lexU (i + 1))))), s4'], .inl ?_, _, _, _, _, rfl, .inl rfl, fun _ => rfl, .val, .val, f4'⟩
        simp [forB, stO_fr f2, stO_fr f3]
        rw [h2]
        simp
      · cases e
        obtain ⟨s4', f4', h2⟩ := inner i .lck d s4 (by omega) f4
        refine ⟨[.val true (.fz (.int m)), .val false (.fz (.lst (encR (lexU (i + 1))))), .val false (.fz d), .val false (.fz (.lst (encR (lexU (i + 1))))), s4'], .inl ?_, _, _, _, _, rfl, .inl rfl, fun _ => rfl, .val, .val, f4'⟩
        simp [forB, stO_fr f2, stO_fr f3, Val.frz]
        rw [h2]
        simp
  rw [encN_len, List.length_range, Nat.zero_add] at hz
  obtain rfl := hz (by omega)
  subst he
  refine ⟨_, (congrArg (fin 1) (st_then (env' := [.val true (.fz (.int m)), .val false (.own [.tup []]), .emp, .emp, .emp]) ?_ (st_then (env' := [.val true (.fz (.int m)), .val false (.fz (.lst (encR (lexU m)))), s2, s3, s4]) ?_ (st_rt (w := .fz (.lst (encR (lexU m)))) (env' := [.val true (.fz (.int m)), .val false (.fz (.lst (encR (lexU m)))), s2, s3, s4]) ?_)))).trans rfl⟩
  · simp [k_lbits, s1', Val.frz]
  · simp [it]
    rw [h1]
    simp
  · simp
def k_law_number : Fn := { np := 1, ns := 3, pins := [0], body := [.asg (.nm 1) (.con (.int 0)), .for (.nm 2) .plain [.var 0] [.asg (.nm 1) (.prim .add [.prim .mul [.con (.int 2), .var 1], .var 2])], .ret (.var 1)] }
theorem lnum_ok {Γ : Tbl} (hf : Γ.fn "_law_number" = some k_law_number) (n : Nat) {r : List Int} (hb : bitR r) : ∃ o, callF Γ (n + 1) "_law_number" [.fz (encT r)] = .ok (.fz (.int (numR r : Nat)), o) := by
  rw [callF_fn hf rfl]
  have b2 : B64 2 = true := by decide
  obtain ⟨e', h1, s2, he, _⟩ := forL_inv (step := forB Γ (callF Γ n) (.nm 2) [.asg (.nm 1) (.prim .add [.prim .mul [.con (.int 2), .var 1], .var 2])]) (its := r.map D.int) (k := 0) (env0 := [.val true (.fz (encT r)), .val false (.fz (.int 0)), .emp])
    (fun i e => ∃ s2, e = [.val true (.fz (encT r)), .val false (.fz (.int (numR (r.take i) : Nat))), s2] ∧ Fr s2) ⟨.emp, rfl, .emp⟩ fun i d e hd ⟨s2, he, f2⟩ => by
      subst he
      rw [Nat.zero_add]
      rw [List.getElem?_map] at hd
      cases hi : r[i]? with
      | none => rw [hi] at hd; cases hd
      | some b =>
        rw [hi] at hd
        cases hd
        have e1 : ((numR (r.take (i + 1)) : Nat) : Int) = 2 * (numR (r.take i) : Nat) + b := by
          rw [take_succ_get hi, numR_snoc]
          rcases hb b (List.mem_of_getElem? hi) with rfl | rfl <;> simp
        refine ⟨[.val true (.fz (encT r)), .val false (.fz (.int (numR (r.take (i + 1)) : Nat))), .val false (.fz (.int b))], .inl ?_, _, rfl, .val⟩
        rw [e1]
        simp [forB, stO_fr f2, b2]
  rw [Nat.zero_add, List.length_map, List.take_length] at he
  subst he
  refine ⟨_, (congrArg (fin 1) (st_then (env' := [.val true (.fz (encT r)), .val false (.fz (.int 0)), .emp]) ?_ (st_then (env' := [.val true (.fz (encT r)), .val false (.fz (.int (numR r : Nat))), s2]) ?_ (st_rt (w := .fz (.int (numR r : Nat))) (env' := [.val true (.fz (encT r)), .val false (.fz (.int (numR r : Nat))), s2]) ?_)))).trans rfl⟩
  · simp [k_law_number]
  · simp [encT] at h1 ⊢
    rw [h1]
    simp
  · simp
def k_law_left : Fn := { np := 2, ns := 3, pins := [0, 1], body := [.ret (.comp (.call "_law_run" [.var 1, .var 2]) (.nm 2) .plain [.call "_law_bits" [.var 0]] [] [2])] }
theorem left_ok {Γ : Tbl} (hr : Γ.fn "_law_run" = some k_lrun17) (hb : Γ.fn "_law_bits" = some k_lbits) (hf : Γ.fn "_law_left" = some k_law_left) (n : Nat) {m : Nat} {s : List (Nat × Nat)} (m1 : 1 ≤ m) (m2 : m ≤ 10) (hs : okS m s) : ∃ o, callF Γ (n + 2) "_law_left" [.fz (.int m), .fz (.tup (encS s))] = .ok (.own (encR (leftS m s)), o) := by
  rw [callF_fn hf rfl]
  have hp : 2 ^ m ≤ 1024 := Nat.pow_le_pow_right (by omega) m2
  obtain ⟨o, e⟩ := lbits_ok hb n m1 m2
  obtain ⟨e', h1, t2, rfl, _⟩ := compL_m (step := compB Γ (callF Γ (n + 1)) (.call "_law_run" [.var 1, .var 2]) (.nm 2) [] [2]) encT (fun r => encT (runS s r))
    (fun e => ∃ t2, e = [.val true (.fz (.int m)), .val true (.fz (.tup (encS s))), t2] ∧ Fr t2) (xs := lexU m) (env0 := [.val true (.fz (.int m)), .val true (.fz (.tup (encS s))), .emp]) ⟨_, rfl, .emp⟩ (by rw [lexU_len]; omega)
    fun r hr' e ⟨t2, he, _⟩ => by
      subst he
      obtain ⟨o, e3⟩ := lrun_ok hr n (s := s) (r := r) (by rw [lex_len hr']; exact hs)
      refine ⟨_, ?_, .val false (.fz (encT r)), rfl, .val⟩
      simp [compB, evE_call hr, k_lrun17, encT, e3]
  refine ⟨[.val true (.fz (.int m)), .val true (.fz (.tup (encS s)))], (congrArg (fin 2) (st_rt (w := .own (encR (leftS m s))) (env' := [.val true (.fz (.int m)), .val true (.fz (.tup (encS s))), .emp]) ?_)).trans rfl⟩
  show evS Γ _ (.ret (.comp (.call "_law_run" [.var 1, .var 2]) (.nm 2) .plain [.call "_law_bits" [.var 0]] [] [2])) _ = _
  rw [evS_retM]
  simp [k_law_left, evE_call hb, k_lbits, e]
  rw [show encR (lexU m) = (lexU m).map encT from rfl, h1]
  simp [encR, leftS]
end Rx

set_option Elab.async false
set_option linter.all false
set_option autoImplicit false
set_option maxRecDepth 100000
set_option maxHeartbeats 1000000
namespace Rx
open PySem
def swapsB (sm : Str) : List CS := [.asg (.nm 6) (.call "_law_draw" [.var 0, .var 1]), .asg (.nm 7) (.prim .mod [.prim .int [.prim .add [.prim .add [.var 6, .con (.int 1)], .call "_law_draw" [.var 0, .prim .sub [.var 1, .con (.int 1)]]]], .var 1]), .asg (.nm 8) (.ite (.var 4) (.tup [.var 6, .var 7]) (.tup [.prim .min [.var 6, .var 7], .prim .max [.var 6, .var 7]])), .expr (.mut .append 5 [.call sm [.var 0, .lst [.var 8, .var 8, .var 8, .ite (.prim .gt [.prim .len [.var 5], .con (.int 0)]) (.prim .idx [.var 5, .prim .neg [.con (.int 1)]]) (.var 8)]]])]
def k_swaps (sm : Str) : Fn := { np := 3, ns := 9, pins := [0, 1, 2], body := [.par [4, 5] [.eqc [.call "_law_draw" [.var 0, .con (.int 4)], .con (.int 0)], .lst []], .for (.nm 3) (.range 1) [.ite (.prim .gt [.var 1, .con (.int 1)]) (.call "_law_draw" [.var 0, .prim .add [.var 2, .con (.int 1)]]) (.con (.int 0))] (swapsB sm), .ret (.prim .tuple [.var 5])] }
theorem atI_last {l : List D} {d : D} : L2.atI (l ++ [d]) (-1) = some d := by
  have e : L2.ixN (l ++ [d]).length (-1) = some l.length := by
    unfold L2.ixN
    rw [if_neg (by omega), if_pos (by rw [List.length_append, List.length_singleton]; omega)]
    congr 1
    rw [List.length_append, List.length_singleton]
    omega
  unfold L2.atI
  rw [e]
  simp
section
variable {Γ : Tbl} {b : List CS} (k : Drw Γ b) {sm : Str} (hs : Γ.fn sm = some c_some)
include k hs
theorem swaps_step (n : Nat) {l : List D} (h : Hd l) {m q : Nat} (m1 : 2 ≤ m) (m2 : m ≤ 100) (c : Bool) {s : List (Nat × Nat)} (hok : okS m s) (hl : s.length ≤ 1000) {s3 s6 s7 s8 : Slot} (f6 : Fr s6) (f7 : Fr s7) (f8 : Fr s8) :
    ∃ (l' : List D) (p : Nat × Nat) (t6 t7 t8 : Slot), evSs Γ (callF Γ (n + 2)) (swapsB sm) [.val true (.own l), .val true (.fz (.int m)), .val true (.fz (.int q)), s3, .val false (.fz (.bl c)), .val false (.own (encS s)), s6, s7, s8]
      = .ok (.nx, [.val true (.own l'), .val true (.fz (.int m)), .val true (.fz (.int q)), s3, .val false (.fz (.bl c)), .val false (.own (encS (s ++ [p]))), t6, t7, t8]) ∧ Hd l' ∧ okS m (s ++ [p]) ∧ Fr t6 ∧ Fr t7 ∧ Fr t8 := by
  have sl : s.length < SL := Nat.lt_of_lt_of_le (show s.length < 1001 by omega) (sl_le (m := 1001) (Nat.le_refl _) (by omega))
  have s2 : 2 ≤ SL := sl_le (m := 2) (Nat.le_refl _) (by omega)
  have s4 : 4 ≤ SL := sl_le (m := 4) (Nat.le_refl _) (by omega)
  obtain ⟨d, l1, e1, d0, d1, h1⟩ := k.ok (z := (m : Int)) (n + 1) h (by omega) (by omega)
  obtain ⟨d', l2, e2, d0', d1', h2⟩ := k.ok (z := (m : Int) - 1) (n + 1) h1 (by omega) (by omega)
  obtain ⟨x, rfl⟩ : ∃ x : Nat, d = x := ⟨d.toNat, by omega⟩
  obtain ⟨u, rfl⟩ : ∃ x : Nat, d' = x := ⟨d'.toNat, by omega⟩
  obtain ⟨y, hy, y1, y2⟩ : ∃ y : Nat, ((x : Int) + 1 + u) % m = y ∧ y < m ∧ x ≠ y := by
    refine ⟨(x + 1 + u) % m, by simp, Nat.mod_lt _ (by omega), ?_⟩
    by_cases g : x + 1 + u < m
    · rw [Nat.mod_eq_of_lt g]; omega
    · rw [Nat.mod_eq_sub_mod (by omega), Nat.mod_eq_of_lt (by omega)]; omega
  have m0 : (0 : Int) < m := by omega
  have mN : 0 < m := by omega
  obtain ⟨p, hp, p1, p2, p3, ep⟩ : ∃ p : Nat × Nat, True ∧ p.1 < m ∧ p.2 < m ∧ p.1 ≠ p.2 ∧ evS Γ (callF Γ (n + 2)) (.asg (.nm 8) (.ite (.var 4) (.tup [.var 6, .var 7]) (.tup [.prim .min [.var 6, .var 7], .prim .max [.var 6, .var 7]]))) [.val true (.own l2), .val true (.fz (.int m)), .val true (.fz (.int q)), s3, .val false (.fz (.bl c)), .val false (.own (encS s)), .val false (.fz (.int x)), .val false (.fz (.int y)), s8]
      = .ok (.nx, [.val true (.own l2), .val true (.fz (.int m)), .val true (.fz (.int q)), s3, .val false (.fz (.bl c)), .val false (.own (encS s)), .val false (.fz (.int x)), .val false (.fz (.int y)), .val false (.fz (.tup [.int p.1, .int p.2]))]) := by
    cases c with
    | true => exact ⟨(x, y), trivial, by omega, y1, y2, by simp [stO_fr f8, s2]⟩
    | false =>
      have e3 : (if (y : Int) < x then (y : Int) else x) = ((min x y : Nat) : Int) := by split <;> omega
      have e4 : (if (y : Int) > x then (y : Int) else x) = ((max x y : Nat) : Int) := by split <;> omega
      have e3' : primO .min [.int x, .int y] = .ok (.fz (.int (min x y : Nat))) := by rw [primO_eq]; exact congrArg (fun z => Res.ok (Val.fz (D.int z))) e3
      have e4' : primO .max [.int x, .int y] = .ok (.fz (.int (max x y : Nat))) := by rw [primO_eq]; exact congrArg (fun z => Res.ok (Val.fz (D.int z))) e4
      exact ⟨(min x y, max x y), trivial, by show min x y < m; omega, by show max x y < m; omega, by show min x y ≠ max x y; omega, by simp [stO_fr f8, s2, e3', e4']⟩
  -- the last, or the pair
  obtain ⟨r, r1, r2, er⟩ : ∃ r : Nat × Nat, (r = p ∨ r ∈ s) ∧ True ∧ evE Γ (callF Γ (n + 2)) (.ite (.prim .gt [.prim .len [.var 5], .con (.int 0)]) (.prim .idx [.var 5, .prim .neg [.con (.int 1)]]) (.var 8)) [.val true (.own l2), .val true (.fz (.int m)), .val true (.fz (.int q)), s3, .val false (.fz (.bl c)), .val false (.own (encS s)), .val false (.fz (.int x)), .val false (.fz (.int y)), .val false (.fz (.tup [.int p.1, .int p.2]))]
      = .ok (.fz (.tup [.int r.1, .int r.2]), [.val true (.own l2), .val true (.fz (.int m)), .val true (.fz (.int q)), s3, .val false (.fz (.bl c)), .val false (.own (encS s)), .val false (.fz (.int x)), .val false (.fz (.int y)), .val false (.fz (.tup [.int p.1, .int p.2]))]) := by
    rcases List.eq_nil_or_concat s with e | ⟨s', z, e⟩
    · subst e
      exact ⟨p, .inl rfl, trivial, by simp [encS, Val.frz]⟩
    · rw [List.concat_eq_append] at e
      subst e
      refine ⟨z, .inr (by simp), trivial, ?_⟩
      have hpos : (0 : Int) < ((encS (s' ++ [z])).length : Nat) := by rw [encS_len]; simp
      have hla : L2.atI (encS (s' ++ [z])) (-1) = some (.tup [.int z.1, .int z.2]) := by rw [encS_append]; exact atI_last
      have hne : encS (s' ++ [z]) ≠ [] := fun e => by rw [e] at hpos; simp at hpos
      generalize encS (s' ++ [z]) = L at hpos hla hne
      simp [hpos, hla, hne, Val.frz]
  obtain ⟨g, l3, o3, e3, hg, h3⟩ := someG k hs (m := [.tup [.int p.1, .int p.2], .tup [.int p.1, .int p.2], .tup [.int p.1, .int p.2], .tup [.int r.1, .int r.2]]) n h2 (by simp) (by simp)
  obtain ⟨z, hz, rfl⟩ : ∃ z : Nat × Nat, (z.1 < m ∧ z.2 < m ∧ z.1 ≠ z.2) ∧ g = .tup [.int z.1, .int z.2] := by
    have : g = .tup [.int p.1, .int p.2] ∨ g = .tup [.int r.1, .int r.2] := by simpa using hg
    rcases this with rfl | rfl
    · exact ⟨p, ⟨p1, p2, p3⟩, rfl⟩
    · rcases r1 with rfl | r1
      · exact ⟨r, ⟨p1, p2, p3⟩, rfl⟩
      · exact ⟨r, hok r r1, rfl⟩
  refine ⟨l3, z, .val false (.fz (.int x)), .val false (.fz (.int y)), .val false (.fz (.tup [.int p.1, .int p.2])), ?_, h3, fun w hw => ?_, .val, .val, .val⟩
  · refine st_then (env' := [.val true (.own l1), .val true (.fz (.int m)), .val true (.fz (.int q)), s3, .val false (.fz (.bl c)), .val false (.own (encS s)), .val false (.fz (.int x)), s7, s8]) ?_ (st_then (env' := [.val true (.own l2), .val true (.fz (.int m)), .val true (.fz (.int q)), s3, .val false (.fz (.bl c)), .val false (.own (encS s)), .val false (.fz (.int x)), .val false (.fz (.int y)), s8]) ?_ (st_then ep (st_then (env' := [.val true (.own l3), .val true (.fz (.int m)), .val true (.fz (.int q)), s3, .val false (.fz (.bl c)), .val false (.own (encS (s ++ [z]))), .val false (.fz (.int x)), .val false (.fz (.int y)), .val false (.fz (.tup [.int p.1, .int p.2]))]) ?_ rfl)))
    · simp [evE_call k.f, dFn, e1, stO_fr f6]
    · simp [evE_call k.f, dFn, e2, stO_fr f7, m0, mN, hy]
    · have sl' : (encS s).length < SL := by rw [encS_len]; exact sl
      have eL : encS s ++ [.tup [.int z.1, .int z.2]] = encS (s ++ [z]) := by rw [encS_append]; rfl
      simp only [evS_expr, evE_mut, List.getElem?_cons_succ, List.getElem?_cons_zero, muO_own, evVs_cons, evVs_nil, evE_call hs, c_some, evAs_var, evAs_lst, evAs_nil, argVar_O, agO_own, Res.bind_ok, evE_lst, evE_var, rdVar_O, rdO_fz, er, List.map_cons, List.map_nil, Val.frz_fz, own?_ite, List.length_cons, List.length_nil]
      rw [if_pos (show 0 + 1 + 1 + 1 + 1 ≤ SL from s4)]
      simp [e3, sl', ← eL]
  · rcases List.mem_append.mp hw with hw | hw
    · exact hok w hw
    · rw [List.mem_singleton.mp hw]; exact hz
theorem swaps_ok' (n : Nat) {nm : Str} (hf : Γ.fn nm = some (k_swaps sm)) {l : List D} (h : Hd l) {m q : Nat} (m1 : 1 ≤ m) (m2 : m ≤ 100) (hq : q ≤ 1000) :
    ∃ (l' : List D) (s : List (Nat × Nat)), callF Γ (n + 3) nm [.own l, .fz (.int m), .fz (.int q)] = .ok (.fz (.tup (encS s)), [.val true (.own l'), .val true (.fz (.int m)), .val true (.fz (.int q))]) ∧ Hd l' ∧ okS m s ∧ s.length ≤ q := by
  rw [callF_fn hf rfl]
  obtain ⟨d, l1, e1, d0, d1, h1⟩ := k.ok (z := 4) (n + 1) h (by omega) (by omega)
  -- how many
  obtain ⟨c, l2, hc, hcm, h2, e2⟩ : ∃ (c : Nat) (l2 : List D), c ≤ q ∧ (m = 1 → c = 0) ∧ Hd l2 ∧ evE Γ (callF Γ (n + 2)) (.ite (.prim .gt [.var 1, .con (.int 1)]) (.call "_law_draw" [.var 0, .prim .add [.var 2, .con (.int 1)]]) (.con (.int 0))) [.val true (.own l1), .val true (.fz (.int m)), .val true (.fz (.int q)), .emp, .val false (.fz (.bl (decide (d = 0)))), .val false (.own []), .emp, .emp, .emp]
      = .ok (.fz (.int c), [.val true (.own l2), .val true (.fz (.int m)), .val true (.fz (.int q)), .emp, .val false (.fz (.bl (decide (d = 0)))), .val false (.own []), .emp, .emp, .emp]) := by
    by_cases g : m = 1
    · exact ⟨0, l1, Nat.zero_le _, fun _ => rfl, h1, by subst g; simp⟩
    · obtain ⟨c, l2, e2, c0, c1, h2⟩ := k.ok (z := (q : Int) + 1) (n + 1) h1 (by omega) (by omega)
      obtain ⟨c', rfl⟩ : ∃ x : Nat, c = x := ⟨c.toNat, by omega⟩
      have hm : (1 : Int) < m := by omega
      have hm' : 1 < m := by omega
      exact ⟨c', l2, by omega, fun z => absurd z g, h2, by simp [hm, hm', evE_call k.f, dFn, e2]⟩
  have it := it_range (m := c) (by omega)
  obtain ⟨e', h3, l3, s, s3, s6, s7, s8, he, h3', hok, hlen, f3, f6, f7, f8⟩ := forL_inv (step := forB Γ (callF Γ (n + 2)) (.nm 3) (swapsB sm)) (its := encN (List.range c)) (k := 0) (env0 := [.val true (.own l2), .val true (.fz (.int m)), .val true (.fz (.int q)), .emp, .val false (.fz (.bl (decide (d = 0)))), .val false (.own []), .emp, .emp, .emp])
    (fun i e => ∃ (l : List D) (s : List (Nat × Nat)) (s3 s6 s7 s8 : Slot), e = [.val true (.own l), .val true (.fz (.int m)), .val true (.fz (.int q)), s3, .val false (.fz (.bl (decide (d = 0)))), .val false (.own (encS s)), s6, s7, s8] ∧ Hd l ∧ okS m s ∧ s.length = i ∧ Fr s3 ∧ Fr s6 ∧ Fr s7 ∧ Fr s8)
    ⟨l2, [], _, _, _, _, rfl, h2, (fun p hp => by cases hp), rfl, .emp, .emp, .emp, .emp⟩ fun i d' e hi ⟨l, s, s3, s6, s7, s8, he, hh, hok, hlen, f3, f6, f7, f8⟩ => by
      subst he
      have hic : i < c := by
        have := (List.getElem?_eq_some_iff.mp hi).1
        rw [encN_len, List.length_range] at this
        exact this
      have hm1 : m ≠ 1 := fun z => by have := hcm z; omega
      obtain ⟨l', p, t6, t7, t8, z1, z2, z3, z6, z7, z8⟩ := swaps_step k hs n hh (m := m) (q := q) (by omega) m2 (decide (d = 0)) hok (by omega) (s3 := .val false (.fz d')) f6 f7 f8
      refine ⟨_, .inl ?_, l', s ++ [p], .val false (.fz d'), t6, t7, t8, rfl, z2, z3, by simp [hlen], .val, z6, z7, z8⟩
      show (bindT Γ _ (.nm 3) _ _).bind _ = _
      simp only [bindT_nm, setSlot_O, List.length_cons, List.getElem?_cons_succ, List.getElem?_cons_zero, stO_fr f3, Res.bind_ok, List.set_cons_succ, List.set_cons_zero]
      exact z1
  rw [encN_len, List.length_range, Nat.zero_add] at hlen
  subst he
  refine ⟨l3, s, (congrArg (fin 3) (st_then (env' := [.val true (.own l1), .val true (.fz (.int m)), .val true (.fz (.int q)), .emp, .val false (.fz (.bl (decide (d = 0)))), .val false (.own []), .emp, .emp, .emp]) ?_ (st_then (env' := [.val true (.own l3), .val true (.fz (.int m)), .val true (.fz (.int q)), s3, .val false (.fz (.bl (decide (d = 0)))), .val false (.own (encS s)), s6, s7, s8]) ?_ (st_rt (w := .fz (.tup (encS s))) (env' := [.val true (.own l3), .val true (.fz (.int m)), .val true (.fz (.int q)), s3, .val false (.fz (.bl (decide (d = 0)))), .val false (.own (encS s)), s6, s7, s8]) ?_)))).trans rfl, h3', hok, by omega⟩
  · simp [k_swaps, evE_call k.f, dFn, e1, Val.frz]
  · simp only [evS_forE, evAs_iteE, e2, evAs_nil, Res.bind_ok, pkArgs_val, pkArgs_nil, Val.frz_fz, it, lockArgs_val, lockArgs_nil, h3, unlock_nil]
  · simp [Val.frz]
end
end Rx

set_option Elab.async false
set_option linter.all false
set_option autoImplicit false
set_option maxRecDepth 100000
set_option maxHeartbeats 2000000
namespace Rx
open PySem
@[simp] theorem p_min2 {i j : Int} : primO .min [.int i, .int j] = .ok (.fz (.int (if j < i then j else i))) := by rw [primO_eq]; rfl
@[simp] theorem p_max2 {i j : Int} : primO .max [.int i, .int j] = .ok (.fz (.int (if j > i then j else i))) := by rw [primO_eq]; rfl
def k_law : Fn := { np := 1, ns := 10, pins := [0], body := [.asg (.nm 1) (.call "_law_hand" [.var 0]), .asg (.tp [.nm 3, .nm 4]) (.call "untangled" [.make "Net" [.con (.int 2), .tup [.tup [.con (.int 1), .con (.int 0)]]]]), .ite (.or (.not (.eqc [.var 3, .make "Net" [.con (.int 2), .tup [.tup [.con (.int 0), .con (.int 1)]]]])) (.or (.prim .ne [.var 4, .tup [.con (.int 1), .con (.int 0)]]) (.not (.eqc [.prim .idx [.call "untangled" [.make "Net" [.con (.int 1), .tup []]], .con (.int 0)], .make "Net" [.con (.int 1), .tup []]])))) [.ret (.con (.bl false))] [], .for (.nm 2) (.range 1) [.con (.int 7)] [.asg (.nm 5) (.prim .add [.con (.int 1), .call "_law_draw" [.var 1, .con (.int 6)]]), .asg (.nm 6) (.lst [.call "_law_net" [.var 1, .var 5, .con (.int 12), .con (.bl false)], .call "_law_net" [.var 1, .var 5, .con (.int 12), .con (.bl true)]]), .asg (.nm 7) (.call "_law_some" [.var 1, .prim .add [.var 6, .lst [.call "_law_known" [.var 1, .prim .min [.var 5, .con (.int 5)]]]]]), .ite (.eqc [.call "_law_draw" [.var 1, .con (.int 3)], .con (.int 0)]) [.asg (.nm 7) (.prim .tuple [.comp (.ite (.eqc [.call "_law_draw" [.var 1, .con (.int 2)], .con (.int 0)]) (.tup [.var 9, .var 8]) (.tup [.var 8, .var 9])) (.tp [.nm 8, .nm 9]) .plain [.var 7] [] [8, 9]])] [], .ite (.not (.call "_law_is_right" [.var 1, .var 5, .var 7])) [.ret (.con (.bl false))] []], .ret (.con (.bl true))] }
def lawB : List CS := [.asg (.nm 5) (.prim .add [.con (.int 1), .call "_law_draw" [.var 1, .con (.int 6)]]), .asg (.nm 6) (.lst [.call "_law_net" [.var 1, .var 5, .con (.int 12), .con (.bl false)], .call "_law_net" [.var 1, .var 5, .con (.int 12), .con (.bl true)]]), .asg (.nm 7) (.call "_law_some" [.var 1, .prim .add [.var 6, .lst [.call "_law_known" [.var 1, .prim .min [.var 5, .con (.int 5)]]]]]), .ite (.eqc [.call "_law_draw" [.var 1, .con (.int 3)], .con (.int 0)]) [.asg (.nm 7) (.prim .tuple [.comp (.ite (.eqc [.call "_law_draw" [.var 1, .con (.int 2)], .con (.int 0)]) (.tup [.var 9, .var 8]) (.tup [.var 8, .var 9])) (.tp [.nm 8, .nm 9]) .plain [.var 7] [] [8, 9]])] [], .ite (.not (.call "_law_is_right" [.var 1, .var 5, .var 7])) [.ret (.con (.bl false))] []]
structure K4l (Γ : Tbl) : Prop extends K4 Γ where
  hand : Γ.fn "_law_hand" = some c_hand
  lnet : Γ.fn "_law_net" = some k_law_net
  lkn : Γ.fn "_law_known" = some k_law_known
  right : Γ.fn "_law_is_right" = some k_law_is_right
  law : Γ.fn "law" = some k_law
theorem flip_ok {Γ : Tbl} (k : K4l Γ) (n : Nat) (ns : List Int) {l : List D} (h : Hd l) {m : Nat} {s : List (Nat × Nat)} (hs : okS m s) (hl : s.length ≤ 60) {s2 s6 s8 s9 : Slot} (f8 : Fr s8) (f9 : Fr s9) :
    ∃ (l' : List D) (t : List (Nat × Nat)), evS Γ (callF Γ (n + 6)) (.ite (.eqc [.call "_law_draw" [.var 1, .con (.int 3)], .con (.int 0)]) [.asg (.nm 7) (.prim .tuple [.comp (.ite (.eqc [.call "_law_draw" [.var 1, .con (.int 2)], .con (.int 0)]) (.tup [.var 9, .var 8]) (.tup [.var 8, .var 9])) (.tp [.nm 8, .nm 9]) .plain [.var 7] [] [8, 9]])] []) [.val true (.fz (.scr ns)), .val false (.own l), s2, .val false (.fz (netD 2 [(0, 1)])), .val false (.fz (.tup [.int 1, .int 0])), .val false (.fz (.int m)), s6, .val false (.fz (.tup (encS s))), s8, s9] = .ok (.nx, [.val true (.fz (.scr ns)), .val false (.own l'), s2, .val false (.fz (netD 2 [(0, 1)])), .val false (.fz (.tup [.int 1, .int 0])), .val false (.fz (.int m)), s6, .val false (.fz (.tup (encS t))), s8, s9]) ∧ Hd l' ∧ okS m t ∧ t.length ≤ 60 := by
  obtain ⟨d, l1, e1, d0, d1, h1⟩ := draw_ok k.draw (z := 3) (n + 5) h (by omega) (by omega)
  have s2' : 2 ≤ SL := sl_le (m := 2) (Nat.le_refl _) (by omega)
  by_cases c : d = 0
  · subst c
    obtain ⟨acc, e2, h2, t, lh, s8', s9', rfl, rfl, hh, ht, hlt, f8', f9'⟩ := compL_inv (step := compB Γ (callF Γ (n + 6)) (.ite (.eqc [.call "_law_draw" [.var 1, .con (.int 2)], .con (.int 0)]) (.tup [.var 9, .var 8]) (.tup [.var 8, .var 9])) (.tp [.nm 8, .nm 9]) [] [8, 9]) (its := encS s) (acc := []) (k := 0) (env0 := [.val true (.fz (.scr ns)), .val false (.own l1), s2, .val false (.fz (netD 2 [(0, 1)])), .val false (.fz (.tup [.int 1, .int 0])), .val false (.fz (.int m)), s6, .val false (.fz (.tup (encS s))), .emp, .emp])
      (fun i acc e => ∃ (t : List (Nat × Nat)) (lh : List D) (s8 s9 : Slot), acc = encS t ∧ e = [.val true (.fz (.scr ns)), .val false (.own lh), s2, .val false (.fz (netD 2 [(0, 1)])), .val false (.fz (.tup [.int 1, .int 0])), .val false (.fz (.int m)), s6, .val false (.fz (.tup (encS s))), s8, s9] ∧ Hd lh ∧ okS m t ∧ t.length = i ∧ Fr s8 ∧ Fr s9)
      ⟨[], l1, .emp, .emp, rfl, rfl, h1, (fun x hx => by cases hx), rfl, .emp, .emp⟩ (by rw [encS_len]; exact sl_le (m := 60) (by simp; omega) (by omega)) fun i d acc e hi ⟨t, lh, s8, s9, ha, he, hh, ht, hlt, f8, f9⟩ => by
        subst he ha
        unfold encS at hi
        rw [List.getElem?_map] at hi
        cases hg : s[i]? with
        | none => rw [hg] at hi; cases hi
        | some p =>
          rw [hg] at hi
          cases hi
          obtain ⟨a1, a2, a3⟩ := hs p (List.mem_of_getElem? hg)
          obtain ⟨d', l3, e4, _, _, h3⟩ := draw_ok k.draw (z := 2) (n + 5) hh (by omega) (by omega)
          by_cases c : d' = 0
          · subst c
            refine ⟨_, .inl ⟨.tup [.int p.2, .int p.1], ?_, t ++ [(p.2, p.1)], l3, .val false (.fz (.int p.1)), .val false (.fz (.int p.2)), by simp [encS], rfl, h3, ?_, by simp [hlt], .val, .val⟩⟩
            · simp [compB, evE_call k.draw, c_draw, e4, s2']
            · intro q hq
              rcases List.mem_append.mp hq with hq | hq
              · exact ht q hq
              · rw [List.mem_singleton.mp hq]
                exact ⟨a2, a1, fun z => a3 z.symm⟩
          · refine ⟨_, .inl ⟨.tup [.int p.1, .int p.2], ?_, t ++ [p], l3, .val false (.fz (.int p.1)), .val false (.fz (.int p.2)), by simp [encS], rfl, h3, ?_, by simp [hlt], .val, .val⟩⟩
            · simp [compB, evE_call k.draw, c_draw, e4, c, s2']
            · intro q hq
              rcases List.mem_append.mp hq with hq | hq
              · exact ht q hq
              · rw [List.mem_singleton.mp hq]
                exact ⟨a1, a2, a3⟩
    refine ⟨lh, t, ?_, hh, ht, by rw [hlt, encS_len]; omega⟩
    simp [evE_call k.draw, c_draw, e1]
    rw [h2]
    simp
  · refine ⟨l1, s, ?_, h1, hs, hl⟩
    simp [evE_call k.draw, c_draw, e1, c]
theorem lap_ok {Γ : Tbl} (k : K4l Γ) (n : Nat) (ns : List Int) {l : List D} (h : Hd l) {s2 s5 s6 s7 s8 s9 : Slot} (f5 : Fr s5) (f6 : Fr s6) (f7 : Fr s7) (f8 : Fr s8) (f9 : Fr s9) :
    ∃ (l' : List D) (t5 t6 t7 : Slot), evSs Γ (callF Γ (n + 6)) lawB [.val true (.fz (.scr ns)), .val false (.own l), s2, .val false (.fz (netD 2 [(0, 1)])), .val false (.fz (.tup [.int 1, .int 0])), s5, s6, s7, s8, s9] = .ok (.nx, [.val true (.fz (.scr ns)), .val false (.own l'), s2, .val false (.fz (netD 2 [(0, 1)])), .val false (.fz (.tup [.int 1, .int 0])), t5, t6, t7, s8, s9]) ∧ Hd l' ∧ Fr t5 ∧ Fr t6 ∧ Fr t7 := by
  have s1' : 1 ≤ SL := sl_le (m := 1) (Nat.le_refl _) (by omega)
  have s2' : 2 ≤ SL := sl_le (m := 2) (Nat.le_refl _) (by omega)
  have s3' : 3 ≤ SL := sl_le (m := 3) (Nat.le_refl _) (by omega)
  obtain ⟨d, l1, e1, d0, d1, h1⟩ := draw_ok k.draw (z := 6) (n + 5) h (by omega) (by omega)
  obtain ⟨m, hm, m1, m2⟩ : ∃ m : Nat, (1 : Int) + d = m ∧ 1 ≤ m ∧ m ≤ 6 := ⟨(1 + d).toNat, by omega, by omega, by omega⟩
  obtain ⟨l2, t1, e2, h2, g1, g2⟩ := net_ok k.draw k.shuf (n + 3) k.lnet h1 (m := m) (k := 12) m1 (by omega) (by omega) false
  obtain ⟨l3, t2, e3, h3, g3, g4⟩ := net_ok k.draw k.shuf (n + 3) k.lnet h2 (m := m) (k := 12) m1 (by omega) (by omega) true
  obtain ⟨l4, t3, e4, h4, g5, g6⟩ := known_ok k.draw k.shuf (n + 3) k.lkn h3 (m := min m 5) (by omega) (by omega)
  have g7 : t3.length ≤ 60 := by
    have : min m 5 * min m 5 ≤ 5 * 5 := Nat.mul_le_mul (by omega) (by omega)
    omega
  obtain ⟨d', l5, o, e5, hd', h5⟩ := some_ok k.draw k.smm (m := [.tup (encS t1), .tup (encS t2), .tup (encS t3)]) (n + 4) h4 (by simp) (by simp)
  obtain ⟨s, rfl, hs, hl⟩ : ∃ s, d' = .tup (encS s) ∧ okS m s ∧ s.length ≤ 60 := by
    simp only [List.mem_cons, List.not_mem_nil, or_false] at hd'
    rcases hd' with rfl | rfl | rfl
    · exact ⟨t1, rfl, g1, by omega⟩
    · exact ⟨t2, rfl, g3, by omega⟩
    · exact ⟨t3, rfl, fun p hp => by have := g5 p hp; omega, g7⟩
  obtain ⟨l6, t, e6, h6, g8, g9⟩ := flip_ok k n ns h5 hs hl (s2 := s2) (s6 := .val false (.own [.tup (encS t1), .tup (encS t2)])) f8 f9
  obtain ⟨l7, e7, h7⟩ := is_right_ok k.toK4 n k.right h6 (m := m) (s := t) m1 (by omega) g8 g9
  refine ⟨l7, .val false (.fz (.int m)), .val false (.own [.tup (encS t1), .tup (encS t2)]), .val false (.fz (.tup (encS t))), ?_, h7, .val, .val, .val⟩
  have hmin : (if (5 : Int) < m then (5 : Int) else m) = ((min m 5 : Nat) : Int) := by split <;> omega
  refine st_then (env' := [.val true (.fz (.scr ns)), .val false (.own l1), s2, .val false (.fz (netD 2 [(0, 1)])), .val false (.fz (.tup [.int 1, .int 0])), .val false (.fz (.int m)), s6, s7, s8, s9]) ?_ (st_then (env' := [.val true (.fz (.scr ns)), .val false (.own l3), s2, .val false (.fz (netD 2 [(0, 1)])), .val false (.fz (.tup [.int 1, .int 0])), .val false (.fz (.int m)), .val false (.own [.tup (encS t1), .tup (encS t2)]), s7, s8, s9]) ?_
    (st_then (env' := [.val true (.fz (.scr ns)), .val false (.own l5), s2, .val false (.fz (netD 2 [(0, 1)])), .val false (.fz (.tup [.int 1, .int 0])), .val false (.fz (.int m)), .val false (.own [.tup (encS t1), .tup (encS t2)]), .val false (.fz (.tup (encS s))), s8, s9]) ?_ (st_then e6 (st_then (env' := [.val true (.fz (.scr ns)), .val false (.own l7), s2, .val false (.fz (netD 2 [(0, 1)])), .val false (.fz (.tup [.int 1, .int 0])), .val false (.fz (.int m)), .val false (.own [.tup (encS t1), .tup (encS t2)]), .val false (.fz (.tup (encS t))), s8, s9]) ?_ rfl))))
  · simp [evE_call k.draw, c_draw, e1, hm, stO_fr f5]
  · simp at e2 e3
    simp [evE_call k.lnet, k_law_net, e2, e3, s2', Val.frz, stO_fr f6]
  · simp [evE_call k.smm, c_some, evE_call k.lkn, k_law_known, hmin, e4, s1', s3', Val.frz, e5, stO_fr f7]
  · simp [evE_call k.right, k_law_is_right, e7]
theorem law_ok {Γ : Tbl} (k : K4l Γ) (n : Nat) (ns : List Int) (hn : ns.length ≤ 63) : ∃ outs, callF Γ (n + 7) "law" [.fz (.scr ns)] = .ok (.fz (.bl true), outs) := by
  rw [callF_fn k.law rfl]
  have s1' : 1 ≤ SL := sl_le (m := 1) (Nat.le_refl _) (by omega)
  have s2' : 2 ≤ SL := sl_le (m := 2) (Nat.le_refl _) (by omega)
  have s0' : 0 ≤ SL := Nat.zero_le _
  obtain ⟨l, o1, e1, h⟩ := hand_ok k.hand ns hn (n + 5)
  obtain ⟨o2, e2⟩ := untangled_ok k.chk k.net (n + 1) k.unt (m := 2) (s := [(1, 0)]) (by omega) (by omega) (by intro p hp; rw [List.mem_singleton.mp hp]; decide) (by simp)
  obtain ⟨o3, e3⟩ := untangled_ok k.chk k.net (n + 1) k.unt (m := 1) (s := []) (by omega) (by omega) (by intro p hp; cases hp) (by simp)
  rw [show unD 2 [(1, 0)] = .tup [netD 2 [(0, 1)], .tup [.int 1, .int 0]] from rfl] at e2
  rw [show unD 1 [] = .tup [netD 1 [], .tup [.int 0]] from rfl] at e3
  have mk (m : Nat) (s : List (Nat × Nat)) (h1 : 1 ≤ m) (h2 : m ≤ 10) (h : okS m s) (hl : s.length ≤ 60) (es : List CE) (env : Env) (he : evVs Γ (callF Γ (n + 6)) es env = .ok ([.fz (.int m), .fz (.tup (encS s))], env)) := r_make k.chk k.net (n + 2) h1 h2 h hl (es := es) (env := env) (env' := env) he
  obtain ⟨o4, e4⟩ := net_eq_ok (n + 5) k.eq (m := 2) (m' := 2) (s := [(0, 1)]) (s' := [(0, 1)])
  obtain ⟨o5, e5⟩ := net_eq_ok (n + 5) k.eq (m := 1) (m' := 1) (s := []) (s' := [])
  have pn := p_ne_self (a := .tup [.int 1, .int 0]) rfl
  have it : iterO (.range 1) [.int 7] = .ok (encN (List.range 7)) := it_range (m := 7) (by omega)
  have it : iterO (.range 1) [.int 7] = .ok (encN (List.range 7)) := it_range (m := 7) (by omega)
  obtain ⟨e', h8, l', s2, s5, s6, s7, rfl, hh, f2, f5, f6, f7⟩ := forL_all (step := forB Γ (callF Γ (n + 6)) (.nm 2) lawB) (xs := encN (List.range 7)) (env0 := [.val true (.fz (.scr ns)), .val false (.own l), .emp, .val false (.fz (netD 2 [(0, 1)])), .val false (.fz (.tup [.int 1, .int 0])), .emp, .emp, .emp, .emp, .emp])
    (fun e => ∃ (l' : List D) (s2 s5 s6 s7 : Slot), e = [.val true (.fz (.scr ns)), .val false (.own l'), s2, .val false (.fz (netD 2 [(0, 1)])), .val false (.fz (.tup [.int 1, .int 0])), s5, s6, s7, .emp, .emp] ∧ Hd l' ∧ Fr s2 ∧ Fr s5 ∧ Fr s6 ∧ Fr s7) ⟨l, _, _, _, _, rfl, h, .emp, .emp, .emp, .emp⟩ fun d hd e ⟨l', s2, s5, s6, s7, he, hh, f2, f5, f6, f7⟩ => by
      subst he
      obtain ⟨l2, t5, t6, t7, z1, z2, z3, z4, z5⟩ := lap_ok k n ns hh (s2 := .val false (.fz d)) f5 f6 f7 (s8 := .emp) (s9 := .emp) .emp .emp
      refine ⟨[.val true (.fz (.scr ns)), .val false (.own l2), .val false (.fz d), .val false (.fz (netD 2 [(0, 1)])), .val false (.fz (.tup [.int 1, .int 0])), t5, t6, t7, .emp, .emp], .inl ?_, l2, .val false (.fz d), t5, t6, t7, rfl, z2, .val, z3, z4, z5⟩
      show (bindT Γ _ (.nm 2) _ _).bind _ = _
      simp only [bindT_nm, setSlot_O, List.length_cons, List.getElem?_cons_succ, List.getElem?_cons_zero, stO_fr f2, Res.bind_ok, List.set_cons_succ, List.set_cons_zero]
      exact z1
  refine ⟨_, (congrArg (fin 1) (st_then (env' := [.val true (.fz (.scr ns)), .val false (.own l), .emp, .emp, .emp, .emp, .emp, .emp, .emp, .emp]) ?_ (st_then (env' := [.val true (.fz (.scr ns)), .val false (.own l), .emp, .val false (.fz (netD 2 [(0, 1)])), .val false (.fz (.tup [.int 1, .int 0])), .emp, .emp, .emp, .emp, .emp]) ?_ (st_then (env' := [.val true (.fz (.scr ns)), .val false (.own l), .emp, .val false (.fz (netD 2 [(0, 1)])), .val false (.fz (.tup [.int 1, .int 0])), .emp, .emp, .emp, .emp, .emp]) ?_ (st_then (env' := [.val true (.fz (.scr ns)), .val false (.own l'), s2, .val false (.fz (netD 2 [(0, 1)])), .val false (.fz (.tup [.int 1, .int 0])), s5, s6, s7, .emp, .emp]) ?_ (st_rt (w := .fz (.bl true)) (env' := [.val true (.fz (.scr ns)), .val false (.own l'), s2, .val false (.fz (netD 2 [(0, 1)])), .val false (.fz (.tup [.int 1, .int 0])), s5, s6, s7, .emp, .emp]) ?_)))))).trans rfl⟩
  · simp [k_law, evE_call k.hand, c_hand, e1]
  · rw [evS_asgT, evE_call k.unt, evAs_make, mk 2 [(1, 0)] (by omega) (by omega) (by intro p hp; rw [List.mem_singleton.mp hp]; decide) (by simp) _ _ (by simp [s1', s2', encS])]
    simp [k_untangled, e2]
  · have m1 := mk 2 [(0, 1)] (by omega) (by omega) (by intro p hp; rw [List.mem_singleton.mp hp]; decide) (by simp) [.con (.int 2), .tup [.tup [.con (.int 0), .con (.int 1)]]] [.val true (.fz (.scr ns)), .val false (.own l), .emp, .val false (.fz (netD 2 [(0, 1)])), .val false (.fz (.tup [.int 1, .int 0])), .emp, .emp, .emp, .emp, .emp] (by simp [s1', s2', encS])
    have m2 := mk 1 [] (by omega) (by omega) (by intro p hp; cases hp) (by simp) [.con (.int 1), .tup []] [.val true (.fz (.scr ns)), .val false (.own l), .emp, .val false (.fz (netD 2 [(0, 1)])), .val false (.fz (.tup [.int 1, .int 0])), .emp, .emp, .emp, .emp, .emp] (by simp [s0', encS])
    refine (ite_f ((or_f (env' := [.val true (.fz (.scr ns)), .val false (.own l), .emp, .val false (.fz (netD 2 [(0, 1)])), .val false (.fz (.tup [.int 1, .int 0])), .emp, .emp, .emp, .emp, .emp]) (not_t ?_)).trans ((or_f (env' := [.val true (.fz (.scr ns)), .val false (.own l), .emp, .val false (.fz (netD 2 [(0, 1)])), .val false (.fz (.tup [.int 1, .int 0])), .emp, .emp, .emp, .emp, .emp]) ?_).trans (not_t ?_)))).trans rfl
    · simp [m1, eqR_net k.eqm, e4]
    · simp [pn, s2', Val.frz]
    · simp [evE_call k.unt, k_untangled, m2, e3]
      simp [m2, eqR_net k.eqm, e5]
  · simp [it]
    rw [show ([.asg (.nm 5) (.prim .add [.con (.int 1), .call "_law_draw" [.var 1, .con (.int 6)]]), .asg (.nm 6) (.lst [.call "_law_net" [.var 1, .var 5, .con (.int 12), .con (.bl false)], .call "_law_net" [.var 1, .var 5, .con (.int 12), .con (.bl true)]]), .asg (.nm 7) (.call "_law_some" [.var 1, .prim .add [.var 6, .lst [.call "_law_known" [.var 1, .prim .min [.var 5, .con (.int 5)]]]]]), .ite (.eqc [.call "_law_draw" [.var 1, .con (.int 3)], .con (.int 0)]) [.asg (.nm 7) (.prim .tuple [.comp (.ite (.eqc [.call "_law_draw" [.var 1, .con (.int 2)], .con (.int 0)]) (.tup [.var 9, .var 8]) (.tup [.var 8, .var 9])) (.tp [.nm 8, .nm 9]) .plain [.var 7] [] [8, 9]])] [], .ite (.not (.call "_law_is_right" [.var 1, .var 5, .var 7])) [.ret (.con (.bl false))] []] : List CS) = lawB from rfl, h8]
    simp
  · simp

end Rx

set_option Elab.async false
set_option linter.all false
set_option autoImplicit false
set_option maxRecDepth 100000
set_option maxHeartbeats 1000000
namespace Rx
open PySem
def k_law_drawn : Fn := { np := 2, ns := 6, pins := [0, 1], body := [.asg (.nm 2) (.lst []), .for (.nm 3) (.range 3) [.prim .sub [.var 1, .con (.int 1)], .con (.int 0), .prim .neg [.con (.int 1)]] [.expr (.mut .extend 2 [.comp (.tup [.var 5, .prim .add [.var 5, .con (.int 1)]]) (.nm 5) (.range 1) [.var 3] [] [5]])], .asg (.nm 4) (.lst [.call "_law_swaps" [.var 0, .var 1, .con (.int 7)], .call "_law_swaps" [.var 0, .var 1, .con (.int 7)], .prim .tuple [.var 2], .call "_law_swaps" [.var 0, .var 1, .con (.int 1)], .tup []]), .ret (.call "_law_some" [.var 0, .var 4])] }
/-- all the neighbours, from the last down -/
theorem bub_loop {Γ : Tbl} (n : Nat) {l : List D} {m : Nat} (m1 : 1 ≤ m) (m2 : m ≤ 10) :
    ∃ (s : List (Nat × Nat)) (s3 s5 : Slot), forL (forB Γ (callF Γ n) (.nm 3) [.expr (.mut .extend 2 [knownC])]) (downL ((m : Int) - 1) (m - 1)) [.val true (.own l), .val true (.fz (.int m)), .val false (.own []), .emp, .emp, .emp] = .ok (.nx, [.val true (.own l), .val true (.fz (.int m)), .val false (.own (encS s)), s3, .emp, s5]) ∧ okS m s ∧ s.length ≤ (m - 1) * m ∧ Fr s3 ∧ Fr s5 := by
  have dl : (downL ((m : Int) - 1) (m - 1)).length = m - 1 := by
    unfold downL
    rw [List.length_map, List.length_range]
  obtain ⟨e', h1, s, s3, s5, rfl, hs', hl', f3, f5⟩ := forL_inv (step := forB Γ (callF Γ n) (.nm 3) [.expr (.mut .extend 2 [knownC])]) (its := downL ((m : Int) - 1) (m - 1)) (k := 0) (env0 := [.val true (.own l), .val true (.fz (.int m)), .val false (.own []), .emp, .emp, .emp])
    (fun i e => ∃ (s : List (Nat × Nat)) (s3 s5 : Slot), e = [.val true (.own l), .val true (.fz (.int m)), .val false (.own (encS s)), s3, .emp, s5] ∧ okS m s ∧ s.length ≤ i * m ∧ Fr s3 ∧ Fr s5)
    ⟨[], .emp, .emp, rfl, (fun p hp => by cases hp), by simp, .emp, .emp⟩ fun i d e hi ⟨s, s3, s5, he, hs', hl', f3, f5⟩ => by
      subst he
      have hic : i < m - 1 := by
        have := (List.getElem?_eq_some_iff.mp hi).1
        rw [dl] at this
        exact this
      rw [Nat.zero_add] at hl' ⊢
      obtain ⟨j, rfl, hj⟩ : ∃ j : Nat, d = .int (j : Int) ∧ j < m := by
        unfold downL at hi
        rw [List.getElem?_map, List.getElem?_range (by omega)] at hi
        simp at hi
        exact ⟨m - 1 - i, by rw [← hi]; congr 1; omega, by omega⟩
      have hb : i * m ≤ 10 * 10 := Nat.mul_le_mul (by omega) (by omega)
      have sl : s.length + j ≤ SL := sl_le (m := 1000) (by omega) (by omega)
      have ll : (nbrs j).length = j := by unfold nbrs; rw [List.length_map, List.length_range]
      refine ⟨_, .inl ?_, s ++ nbrs j, .val false (.fz (.int j)), s5, rfl, ?_, ?_, .val, f5⟩
      · have hk := knownC_ok (Γ := Γ) n (l := l) (m := m) (j := j) (s := s) (s4 := .emp) (s5 := s5) f5 (by omega)
        simp [forB, stO_fr f3, hk, encS_len, ll, sl, encS_append]
      · intro p hp
        rcases List.mem_append.mp hp with hp | hp
        · exact hs' p hp
        · obtain ⟨i, hi, rfl⟩ := List.mem_map.mp hp
          have := List.mem_range.mp hi
          dsimp only
          omega
      · rw [List.length_append, ll, Nat.succ_mul]
        omega
  rw [dl, Nat.zero_add] at hl'
  exact ⟨s, s3, s5, h1, hs', hl', f3, f5⟩
theorem drawn_ok {Γ : Tbl} {b : List CS} (k : Drw Γ b) (hs : Γ.fn "_law_some" = some c_some) (hw : Γ.fn "_law_swaps" = some (k_swaps "_law_some")) (hf : Γ.fn "_law_drawn" = some k_law_drawn) (n : Nat) {l : List D} (h : Hd l) {m : Nat} (m1 : 1 ≤ m) (m2 : m ≤ 7) :
    ∃ (l' : List D) (s : List (Nat × Nat)), callF Γ (n + 4) "_law_drawn" [.own l, .fz (.int m)] = .ok (.fz (.tup (encS s)), [.val true (.own l'), .val true (.fz (.int m))]) ∧ Hd l' ∧ okS m s ∧ s.length ≤ 50 := by
  rw [callF_fn hf rfl]
  obtain ⟨s, s3, s5, e1, hok, hlen, f3, f5⟩ := bub_loop (Γ := Γ) (n + 3) (l := l) m1 (by omega : m ≤ 10)
  have hlen' : s.length ≤ 50 := by
    have : (m - 1) * m ≤ 6 * 7 := Nat.mul_le_mul (by omega) m2
    omega
  obtain ⟨l1, t1, e2, h1, g1, q1⟩ := swaps_ok' k hs n hw h (m := m) (q := 7) m1 (by omega) (by omega)
  obtain ⟨l2, t2, e3, h2, g2, q2⟩ := swaps_ok' k hs n hw h1 (m := m) (q := 7) m1 (by omega) (by omega)
  obtain ⟨l3, t3, e4, h3, g3, q3⟩ := swaps_ok' k hs n hw h2 (m := m) (q := 1) m1 (by omega) (by omega)
  obtain ⟨d, l4, o, e5, hd, h4⟩ := someG k hs (m := [.tup (encS t1), .tup (encS t2), .tup (encS s), .tup (encS t3), .tup []]) (n + 1) h3 (by simp) (by simp)
  obtain ⟨t, rfl, gt, qt⟩ : ∃ t, d = .tup (encS t) ∧ okS m t ∧ t.length ≤ 50 := by
    simp only [List.mem_cons, List.not_mem_nil, or_false] at hd
    rcases hd with rfl | rfl | rfl | rfl | rfl
    · exact ⟨t1, rfl, g1, by omega⟩
    · exact ⟨t2, rfl, g2, by omega⟩
    · exact ⟨s, rfl, hok, hlen'⟩
    · exact ⟨t3, rfl, g3, by omega⟩
    · exact ⟨[], rfl, (fun p hp => by cases hp), by simp⟩
  have ho : ∃ w, o = .val true w := by
    have := e5
    rw [callF_fn hs rfl] at this
    revert this
    obtain ⟨x, l', e, _, _, _⟩ := k.ok (z := ((5 : Nat) : Int)) (n + 1) h3 (by omega) (by omega)
    simp [c_some, evE_call k.f, dFn]
    intro e'
    simp at e
    simp [e] at e'
    cases hx : L2.atI [D.tup (encS t1), .tup (encS t2), .tup (encS s), .tup (encS t3), .tup []] x with
    | none => rw [hx] at e'; cases e'
    | some y =>
      rw [hx] at e'
      simp at e'
      exact ⟨_, e'.2.2.symm⟩
  obtain ⟨w, rfl⟩ := ho
  have it := it_down (a := (m : Int) - 1) (b := 0) (by omega) (by omega) (by omega) (by omega)
  have ez : ((m : Int) - 1 - 0).toNat = m - 1 := by omega
  rw [ez] at it
  have s5' : 5 ≤ SL := sl_le (m := 5) (Nat.le_refl _) (by omega)
  have s0' : 0 ≤ SL := Nat.zero_le _
  refine ⟨l4, t, (congrArg (fin 2) (st_then (env' := [.val true (.own l), .val true (.fz (.int m)), .val false (.own []), .emp, .emp, .emp]) ?_ (st_then (env' := [.val true (.own l), .val true (.fz (.int m)), .val false (.own (encS s)), s3, .emp, s5]) ?_ (st_then (env' := [.val true (.own l3), .val true (.fz (.int m)), .val false (.own (encS s)), s3, .val false (.own [.tup (encS t1), .tup (encS t2), .tup (encS s), .tup (encS t3), .tup []]), s5]) ?_ (st_rt (w := .fz (.tup (encS t))) (env' := [.val true (.own l4), .val true (.fz (.int m)), .val false (.own (encS s)), s3, .val false w, s5]) ?_))))).trans rfl, h4, gt, qt⟩
  · simp [k_law_drawn]
  · show evS Γ _ (.for (.nm 3) (.range 3) [.prim .sub [.var 1, .con (.int 1)], .con (.int 0), .prim .neg [.con (.int 1)]] [.expr (.mut .extend 2 [knownC])]) _ = _
    simp [it]
    rw [e1]
    simp
  · simp at e2 e3 e4
    simp [evE_call hw, k_swaps, e2, e3, e4, s5', s0', Val.frz]
  · simp [evE_call hs, c_some, e5, Val.frz]
def k_ladder : Fn := { np := 1, ns := 3, pins := [0], body := [.asg (.nm 1) (.lst [.prim (.tupleR 1) [.call "power_two" [.prim (.fld "wires") [.var 0]]]]), .for (.nm 2) .plain [.prim (.fld "swaps") [.var 0]] [.expr (.mut .append 1 [.call "led" [.prim .idx [.var 1, .prim .neg [.con (.int 1)]], .var 2, .prim (.fld "wires") [.var 0]]])], .ret (.prim .tuple [.var 1])] }
def k_needless : Fn := { np := 1, ns := 6, pins := [0], body := [.par [1, 2] [.call "ladder" [.var 0], .lst []], .for (.tp [.nm 3, .nm 4]) .enum [.prim (.fld "swaps") [.var 0]] [.ite (.eqc [.prim .idx [.var 1, .var 3], .prim .tuple [.comp (.var 5) (.nm 5) .plain [.prim .idx [.var 1, .var 3]] [.eqc [.call "led" [.tup [.var 5], .var 4, .prim (.fld "wires") [.var 0]], .tup [.var 5]]] [5]]]) [.expr (.mut .append 2 [.var 3])] []], .ret (.prim .tuple [.var 2])] }
@[simp] theorem it_enumT {l : List D} : iterO .enum [.tup l] = .ok (l.mapIdx fun i d => .tup [.int (i : Nat), d]) := by rw [iterO_eq]; rfl
/-- no swaps, no needless ones -/
theorem needless_nil {Γ : Tbl} (hp : Γ.fn "power_two" = some k_power_two) (hl : Γ.fn "ladder" = some k_ladder) (hf : Γ.fn "needless" = some k_needless) (n : Nat) {m : Nat} (m2 : m ≤ 10) : ∃ o, callF Γ (n + 3) "needless" [.fz (netD m [])] = .ok (.fz (.tup []), o) := by
  rw [callF_fn hf rfl]
  have s1' : 1 ≤ SL := sl_le (m := 1) (Nat.le_refl _) (by omega)
  have hpw : 2 ^ m ≤ 1024 := Nat.pow_le_pow_right (by omega) m2
  obtain ⟨o, e⟩ := power_ok hp n (k := m) (by omega)
  have pt : primO (.tupleR 1) [.int (2 ^ m)] = .ok (.fz (.tup (encN (List.range (2 ^ m))))) := by have := p_tupleR (k := 1) (m := 2 ^ m) (by omega); simpa using this
  have e2 : callF Γ (n + 2) "ladder" [.fz (netD m [])] = .ok (.fz (.tup [.tup (encN (List.range (2 ^ m)))]), [.val true (.fz (netD m []))]) := by
    rw [callF_fn hl rfl]
    simp [k_ladder, evE_call hp, k_power_two, e, pt, s1', Val.frz, encS, forL]
  exact ⟨[.val true (.fz (netD m []))], by simp [k_needless, evE_call hl, k_ladder, e2, Val.frz, encS, forL]⟩
end Rx

set_option Elab.async false
set_option linter.all false
set_option autoImplicit false
set_option maxRecDepth 100000
set_option maxHeartbeats 2000000
namespace Rx
open PySem
theorem encR_pur (l : List (List Int)) : D.purs (encR l) = true := by
  rw [purs_iff]
  intro d hd
  obtain ⟨r, _, rfl⟩ := List.mem_map.mp hd
  exact encI_pur r
theorem encR_fits (n : Nat) (l : List (List Int)) : D.fits (n + 1) (encR l) = true := by
  rw [fits_iff]
  intro d hd
  obtain ⟨r, _, rfl⟩ := List.mem_map.mp hd
  exact encI_fits n r
theorem encT_inj {r q : List Int} : encT r = encT q ↔ r = q := ⟨fun h => by have := congrArg decT h; rwa [dec_encT, dec_encT] at this, fun h => by rw [h]⟩
theorem encR_inj {a b : List (List Int)} : encR a = encR b ↔ a = b := by
  constructor
  · intro h
    have := congrArg (List.map decT) h
    unfold encR at this
    rw [List.map_map, List.map_map] at this
    have e : (decT ∘ encT) = id := funext fun r => dec_encT r
    rwa [e, List.map_id, List.map_id] at this
  · intro h; rw [h]
theorem p_eqR {a b : List (List Int)} : primO .eq [.lst (encR a), .lst (encR b)] = .ok (.fz (.bl (decide (a = b)))) := by
  classical
  rw [p_eq_pur (a := .lst (encR a)) (b := .lst (encR b)) (by rw [fit_lst, encR_fits]) (by rw [fit_lst, encR_fits]) (encR_pur a) (encR_pur b)]
  simp [encR_inj]
theorem p_neR {a b : List (List Int)} : primO .ne [.lst (encR a), .lst (encR b)] = .ok (.fz (.bl (!decide (a = b)))) := by
  classical
  rw [p_ne_pur (a := .lst (encR a)) (b := .lst (encR b)) (by rw [fit_lst, encR_fits]) (by rw [fit_lst, encR_fits]) (encR_pur a) (encR_pur b)]
  simp [encR_inj]
theorem p_eqT {a b : List Int} : primO .eq [.tup (a.map D.int), .tup (b.map D.int)] = .ok (.fz (.bl (decide (a = b)))) := by
  classical
  show primO .eq [encT a, encT b] = _
  rw [p_eq_pur (a := encT a) (b := encT b) (by unfold encT; rw [fit_tup, encI_fits]) (by unfold encT; rw [fit_tup, encI_fits]) (encI_pur a) (encI_pur b)]
  simp [encT_inj]
theorem p_inR {r : List Int} {l : List (List Int)} : primO .inn [.tup (r.map D.int), .lst (encR l)] = .ok (.fz (.bl (decide (r ∈ l)))) := by
  rw [primO_eq]
  show (if ((D.tup (r.map D.int)).fit 40 && D.fits 40 (encR l)) = true then rB ((encR l).any fun b => b.eqD (encT r)) else .bad) = _
  rw [if_pos (by rw [encR_fits, fit_tup, encI_fits]; rfl)]
  have : ((encR l).any fun b => b.eqD (encT r)) = decide (r ∈ l) := by
    apply Bool.eq_iff_iff.mpr
    rw [List.any_eq_true, decide_eq_true_iff]
    constructor
    · rintro ⟨d, hd, e⟩
      obtain ⟨q, hq, rfl⟩ := List.mem_map.mp hd
      have := (eqD_pur (a := encT q) (b := encT r) (encI_pur q) (encI_pur r)).mp e
      rw [← encT_inj.mp this]
      exact hq
    · intro h
      exact ⟨encT r, List.mem_map.mpr ⟨r, h, rfl⟩, (eqD_pur (a := encT r) (b := encT r) (encI_pur r) (encI_pur r)).mpr rfl⟩
  rw [this]
  rfl
@[simp] theorem eqN_rr {env : Env} {i j : Nat} : eqN [.ref i, .ref j] env = (pkO env[i]?).bind fun d => (pkO env[j]?).bind fun e => (primO .eq [d, e]).bind fun w => .ok (w, env) := by
  show ((pkO env[i]?).bind fun d => ((pkO env[j]?).bind fun e => _).bind _).bind _ = _
  cases pkO env[i]? <;> cases pkO env[j]? <;> rfl
@[simp] theorem eqN_cr {env : Env} {u : Val} {j : Nat} : eqN [.val u, .ref j] env = (pkO env[j]?).bind fun e => (primO .eq [u.frz, e]).bind fun w => .ok (w, env) := by
  show (((pkO env[j]?).bind fun e => _).bind _).bind _ = _
  cases pkO env[j]? <;> rfl
theorem evS_retO {Γ : Tbl} {cl : Call} {env : Env} {a b : CE} : evS Γ cl (.ret (.or a b)) env = (evE Γ cl (.or a b) env).bind fun q => .ok (.rt q.1, q.2) := rfl
theorem ints?_map : ∀ ns : List Int, ints? (ns.map D.int) = some ns
  | [] => rfl
  | n :: ns => by
    show (ints? (ns.map D.int)).map (n :: ·) = _
    rw [ints?_map ns]
    rfl
theorem p_sset {ns : List Int} (h1 : ns.length ≤ 1000) (h2 : (setOfI ns).length < 64) : primO .sortedSet [.lst (ns.map D.int)] = .ok (.own ((setOfI ns).map D.int)) := by
  rw [primO_eq]
  show (match ints? (ns.map D.int) with | some ns' => if (decide ((ns.map D.int).length ≤ 1000) && decide ((setOfI ns').length < 64)) = true then Res.ok (Val.own ((setOfI ns').map D.int)) else .bad | none => .bad) = _
  rw [ints?_map, List.length_map]
  dsimp only
  rw [decide_eq_true h1, decide_eq_true h2]
  rfl
def keptS (m : Nat) (s : List (Nat × Nat)) : List Nat := ((lexU m).filter fun r => decide (runS s r = r)).map numR
structure K17 (Γ : Tbl) (b : List CS) : Prop extends Fun17 Γ where
  chk : Chk Γ
  net : NetK Γ
  draw : Drw Γ b
  smm : Γ.fn "_law_some" = some c_some
  is : Γ.fn "_law_is" = some k_law_is
  swaps : Γ.fn "_law_swaps" = some (k_swaps "_law_some")
  bits : Γ.fn "_law_bits" = some k_lbits
  lrun : Γ.fn "_law_run" = some k_lrun17
  num : Γ.fn "_law_number" = some k_law_number
  drawn : Γ.fn "_law_drawn" = some k_law_drawn
  left : Γ.fn "_law_left" = some k_law_left
  ladder : Γ.fn "ladder" = some k_ladder
  needless : Γ.fn "needless" = some k_needless

def k17_right : Fn := { np := 1, ns := 12, pins := [0], body := [.asg (.nm 1) (.prim .add [.con (.int 1), .call "_law_draw" [.var 0, .con (.int 5)]]), .par [6, 7] [.call "_law_drawn" [.var 0, .var 1], .call "_law_drawn" [.var 0, .var 1]], .asg (.nm 2) (.call "_law_bits" [.var 1]), .par [8, 9, 10] [.make "Net" [.var 1, .var 6], .make "Net" [.var 1, .var 7], .call "_law_left" [.var 1, .var 6]], .ite (.not (.call "_law_is" [.call "is_idle" [.var 8], .eqc [.var 10, .var 2]])) [.ret (.con (.bl false))] [], .asg (.nm 3) (.call "_law_left" [.var 1, .prim .add [.var 6, .var 6]]), .ite (.not (.call "_law_is" [.call "settles" [.var 8], .eqc [.var 3, .var 10]])) [.ret (.con (.bl false))] [], .asg (.nm 4) (.comp (.call "_law_number" [.var 11]) (.nm 11) .plain [.var 2] [.eqc [.call "_law_run" [.var 6, .var 11], .var 11]] [11]), .ite (.not (.call "_law_is" [.prim .list [.call "kept_rows" [.var 8]], .var 4])) [.ret (.con (.bl false))] [], .asg (.nm 5) (.call "_law_left" [.var 1, .var 7]), .ite (.not (.call "_law_is" [.call "is_finer" [.var 8, .var 9], .prim .all [.comp (.prim .inn [.var 11, .var 5]) (.nm 11) .plain [.var 10] [] [11]]])) [.ret (.con (.bl false))] [], .ite (.not (.call "_law_is" [.call "commute" [.var 8, .var 9], .eqc [.call "_law_left" [.var 1, .prim .add [.var 6, .var 7]], .call "_law_left" [.var 1, .prim .add [.var 7, .var 6]]]])) [.ret (.con (.bl false))] [], .ite (.prim (.notB false) [.call "commute" [.var 8, .make "Net" [.prim .add [.var 1, .con (.int 1)], .var 7]]]) [.ret (.con (.bl false))] [], .ite (.and (.call "is_idle" [.var 8]) (.or (.prim .ne [.prim .len [.call "needless" [.var 8]], .prim .len [.var 6]]) (.prim (.notB true) [.call "settles" [.var 8]]))) [.ret (.con (.bl false))] [], .ret (.or (.prim .ne [.var 3, .var 10]) (.eqc [.prim .sortedSet [.comp (.call "_law_number" [.var 11]) (.nm 11) .plain [.var 10] [] [11]], .var 4]))] }
theorem right17 {Γ : Tbl} {b : List CS} (k : K17 Γ b) (hf : Γ.fn "_law_is_right" = some k17_right) (n : Nat) {l : List D} (h : Hd l) : ∃ (l' : List D), callF Γ (n + 7) "_law_is_right" [.own l] = .ok (.fz (.bl true), [.val true (.own l')]) ∧ Hd l' := by
  rw [callF_fn hf rfl]
  obtain ⟨d, l1, e1, d0, d1, h1⟩ := k.draw.ok (z := 5) (n + 5) h (by omega) (by omega)
  obtain ⟨m, hm, m1, m2⟩ : ∃ m : Nat, (1 : Int) + d = m ∧ 1 ≤ m ∧ m ≤ 5 := ⟨(1 + d).toNat, by omega, by omega, by omega⟩
  obtain ⟨l2, s, e2, h2, hs, sl⟩ := drawn_ok k.draw k.smm k.swaps k.drawn (n + 2) h1 m1 (by omega : m ≤ 7)
  obtain ⟨l3, t, e3, h3, ht, tl⟩ := drawn_ok k.draw k.smm k.swaps k.drawn (n + 2) h2 m1 (by omega : m ≤ 7)
  have m10 : m ≤ 10 := by omega
  obtain ⟨o4, e4⟩ := lbits_ok k.bits (n + 5) m1 m10
  have mk (s' : List (Nat × Nat)) (m' : Nat) (q1 : 1 ≤ m') (q2 : m' ≤ 10) (h : okS m' s') (hl : s'.length ≤ 60) (es : List CE) (env : Env) (he : evVs Γ (callF Γ (n + 6)) es env = .ok ([.fz (.int m'), .fz (.tup (encS s'))], env)) := r_make k.chk k.net (n + 2) q1 q2 h hl (es := es) (env := env) (env' := env) he
  have lf (s' : List (Nat × Nat)) (h : okS m s') := left_ok k.lrun k.bits k.left (n + 4) m1 m10 h
  obtain ⟨o5, e5⟩ := lf s hs
  obtain ⟨o6, e6⟩ := lf (s ++ s) (okS_app hs hs)
  obtain ⟨o7, e7⟩ := lf t ht
  obtain ⟨o8, e8⟩ := lf (s ++ t) (okS_app hs ht)
  obtain ⟨o9, e9⟩ := lf (t ++ s) (okS_app ht hs)
  obtain ⟨oa, ea⟩ := idle_ok k.toFun17 (n + 1) m10 hs
  obtain ⟨ob, eb⟩ := stl_ok k.toFun17 (n + 1) m10 hs
  obtain ⟨oc, ec⟩ := kept_ok k.toFun17 (n + 1) m10 hs
  obtain ⟨od, ed⟩ := finer_ok k.toFun17 (n + 1) m10 hs ht
  obtain ⟨oe, ee⟩ := com_ok k.toFun17 (n + 1) m10 hs ht
  have ht' : okS (m + 1) t := fun p hp => by have := ht p hp; omega
  obtain ⟨og, eg⟩ := com_no k.toFun17 (n + 1) (m := m) (m' := m + 1) (s := s) (t := t) m10 (by omega) (by omega) hs ht'
  have isB (c : Bool) : callF Γ (n + 6) "_law_is" [.fz (.bl c), .fz (.bl c)] = .ok (.fz (.bl true), [.val true (.fz (.bl c)), .val true (.fz (.bl c))]) := law_is_ok k.is 0 (n + 5) (.inr (.inl ⟨c, rfl⟩)) (.inl rfl) (.inl rfl)
  have hp : 2 ^ m ≤ 2 ^ 5 := Nat.pow_le_pow_right (by omega) m2
  have fl : (keptS m s).length ≤ 32 := by
    unfold keptS
    rw [List.length_map]
    have := List.length_filter_le (fun r => decide (runS s r = r)) (lexU m)
    rw [lexU_len] at this
    omega
  have isK : callF Γ (n + 6) "_law_is" [.own (encN (keptS m s)), .own (encN (keptS m s))] = .ok (.fz (.bl true), [.val true (.own (encN (keptS m s))), .val true (.own (encN (keptS m s)))]) := law_is_ok k.is 1 (n + 4) (d := .lst (encN (keptS m s))) (.inr (.inr (.inr (.inr ⟨_, rfl, by rw [encN_len]; omega, fun x hx => by
    obtain ⟨i, _, rfl⟩ := List.mem_map.mp hx
    exact .inl ⟨_, rfl⟩⟩)))) (.inr ⟨_, rfl, rfl⟩) (.inr ⟨_, rfl, rfl⟩)
  have al (p q : List (Nat × Nat)) (hp : p.length ≤ 50) (hq : q.length ≤ 50) : primO .add [.tup (encS p), .tup (encS q)] = .ok (.fz (.tup (encS (p ++ q)))) := by
    rw [p_addT, if_pos (sl_le (m := 1000) (by rw [List.length_append, encS_len, encS_len]; omega) (by omega)), encS_append]

  -- the rows kept
  obtain ⟨eK, hK, s11, rfl, _⟩ := compL_f (step := compB Γ (callF Γ (n + 6)) (.call "_law_number" [.var 11]) (.nm 11) [.eqc [.call "_law_run" [.var 6, .var 11], .var 11]] [11]) encT (fun r => decide (runS s r = r)) (fun r => D.int (numR r : Nat))
    (fun e => ∃ s11, e = [.val true (.own l3), .val false (.fz (.int m)), .val false (.fz (.lst (encR (lexU m)))), .val false (.own (encR (leftS m (s ++ s)))), .emp, .emp, .val false (.fz (.tup (encS s))), .val false (.fz (.tup (encS t))), .val false (.fz (netD m s)), .val false (.fz (netD m t)), .val false (.own (encR (leftS m s))), s11] ∧ Fr s11) (xs := lexU m) (env0 := [.val true (.own l3), .val false (.fz (.int m)), .val false (.fz (.lst (encR (lexU m)))), .val false (.own (encR (leftS m (s ++ s)))), .emp, .emp, .val false (.fz (.tup (encS s))), .val false (.fz (.tup (encS t))), .val false (.fz (netD m s)), .val false (.fz (netD m t)), .val false (.own (encR (leftS m s))), .emp]) ⟨_, rfl, .emp⟩ (by rw [lexU_len]; omega)
    fun r hr e ⟨s11, he, _⟩ => by
      subst he
      obtain ⟨oi, ei⟩ := lrun_ok k.lrun (n + 5) (s := s) (r := r) (by rw [lex_len hr]; exact hs)
      obtain ⟨oj, ej⟩ := lnum_ok k.num (n + 5) (r := r) (lex_bit hr)
      refine ⟨_, ?_, .val false (.fz (encT r)), rfl, .val⟩
      unfold encT at *
      by_cases c : runS s r = r
      · rw [c] at ei
        simp [compB, evE_call k.lrun, k_lrun17, ei, evE_call k.num, k_law_number, ej, p_eqT, Val.frz, c]
      · simp [compB, evE_call k.lrun, k_lrun17, ei, evE_call k.num, k_law_number, ej, p_eqT, Val.frz, c]
  have hK' : ((lexU m).filter fun r => decide (runS s r = r)).map (fun r => D.int (numR r : Nat)) = encN (keptS m s) := by
    unfold keptS encN
    rw [List.map_map]
    rfl
  rw [hK'] at hK
  -- what is left stands in the other's
  obtain ⟨eF, hF, s11f, rfl, _⟩ := compL_m (step := compB Γ (callF Γ (n + 6)) (.prim .inn [.var 11, .var 5]) (.nm 11) [] [11]) encT (fun r => D.bl (decide (r ∈ leftS m t)))
    (fun e => ∃ s11, e = [.val true (.own l3), .val false (.fz (.int m)), .val false (.fz (.lst (encR (lexU m)))), .val false (.own (encR (leftS m (s ++ s)))), .val false (.own (encN (keptS m s))), .val false (.own (encR (leftS m t))), .val false (.fz (.tup (encS s))), .val false (.fz (.tup (encS t))), .val false (.fz (netD m s)), .val false (.fz (netD m t)), .lck, s11] ∧ Fr s11) (xs := leftS m s) (env0 := [.val true (.own l3), .val false (.fz (.int m)), .val false (.fz (.lst (encR (lexU m)))), .val false (.own (encR (leftS m (s ++ s)))), .val false (.own (encN (keptS m s))), .val false (.own (encR (leftS m t))), .val false (.fz (.tup (encS s))), .val false (.fz (.tup (encS t))), .val false (.fz (netD m s)), .val false (.fz (netD m t)), .lck, .emp]) ⟨_, rfl, .emp⟩ (by unfold leftS; rw [List.length_map, lexU_len]; omega)
    fun r hr e ⟨s11, he, _⟩ => by
      subst he
      refine ⟨_, ?_, .val false (.fz (encT r)), rfl, .val⟩
      unfold encT
      simp [compB, p_inR, Val.frz]
  have pF := p_allB (fun r => decide (r ∈ leftS m t)) (leftS m s)
  -- the numbers of what is left
  obtain ⟨eN, hN, s11n, rfl, _⟩ := compL_m (step := compB Γ (callF Γ (n + 6)) (.call "_law_number" [.var 11]) (.nm 11) [] [11]) encT (fun r => D.int (numR r : Nat))
    (fun e => ∃ s11, e = [.val true (.own l3), .val false (.fz (.int m)), .val false (.fz (.lst (encR (lexU m)))), .val false (.own (encR (leftS m (s ++ s)))), .val false (.own (encN (keptS m s))), .val false (.own (encR (leftS m t))), .val false (.fz (.tup (encS s))), .val false (.fz (.tup (encS t))), .val false (.fz (netD m s)), .val false (.fz (netD m t)), .lck, s11] ∧ Fr s11) (xs := leftS m s) (env0 := [.val true (.own l3), .val false (.fz (.int m)), .val false (.fz (.lst (encR (lexU m)))), .val false (.own (encR (leftS m (s ++ s)))), .val false (.own (encN (keptS m s))), .val false (.own (encR (leftS m t))), .val false (.fz (.tup (encS s))), .val false (.fz (.tup (encS t))), .val false (.fz (netD m s)), .val false (.fz (netD m t)), .lck, .emp]) ⟨_, rfl, .emp⟩ (by unfold leftS; rw [List.length_map, lexU_len]; omega)
    fun r hr e ⟨s11, he, _⟩ => by
      subst he
      obtain ⟨r0, hr0, rfl⟩ := List.mem_map.mp hr
      obtain ⟨oj, ej⟩ := lnum_ok k.num (n + 5) (r := runS s r0) (bitR_run s (lex_bit hr0))
      refine ⟨_, ?_, .val false (.fz (encT (runS s r0))), rfl, .val⟩
      unfold encT at *
      simp [compB, evE_call k.num, k_law_number, ej]

  refine ⟨l3, (congrArg (fin 1) (st_then (env' := [.val true (.own l1), .val false (.fz (.int m)), .emp, .emp, .emp, .emp, .emp, .emp, .emp, .emp, .emp, .emp]) ?_ (st_then (env' := [.val true (.own l3), .val false (.fz (.int m)), .emp, .emp, .emp, .emp, .val false (.fz (.tup (encS s))), .val false (.fz (.tup (encS t))), .emp, .emp, .emp, .emp]) ?_ (st_then (env' := [.val true (.own l3), .val false (.fz (.int m)), .val false (.fz (.lst (encR (lexU m)))), .emp, .emp, .emp, .val false (.fz (.tup (encS s))), .val false (.fz (.tup (encS t))), .emp, .emp, .emp, .emp]) ?_ (st_then (env' := [.val true (.own l3), .val false (.fz (.int m)), .val false (.fz (.lst (encR (lexU m)))), .emp, .emp, .emp, .val false (.fz (.tup (encS s))), .val false (.fz (.tup (encS t))), .val false (.fz (netD m s)), .val false (.fz (netD m t)), .val false (.own (encR (leftS m s))), .emp]) ?_ (st_then (env' := [.val true (.own l3), .val false (.fz (.int m)), .val false (.fz (.lst (encR (lexU m)))), .emp, .emp, .emp, .val false (.fz (.tup (encS s))), .val false (.fz (.tup (encS t))), .val false (.fz (netD m s)), .val false (.fz (netD m t)), .val false (.own (encR (leftS m s))), .emp]) ?_ (st_then (env' := [.val true (.own l3), .val false (.fz (.int m)), .val false (.fz (.lst (encR (lexU m)))), .val false (.own (encR (leftS m (s ++ s)))), .emp, .emp, .val false (.fz (.tup (encS s))), .val false (.fz (.tup (encS t))), .val false (.fz (netD m s)), .val false (.fz (netD m t)), .val false (.own (encR (leftS m s))), .emp]) ?_ (st_then (env' := [.val true (.own l3), .val false (.fz (.int m)), .val false (.fz (.lst (encR (lexU m)))), .val false (.own (encR (leftS m (s ++ s)))), .emp, .emp, .val false (.fz (.tup (encS s))), .val false (.fz (.tup (encS t))), .val false (.fz (netD m s)), .val false (.fz (netD m t)), .val false (.own (encR (leftS m s))), .emp]) ?_ (st_then (env' := [.val true (.own l3), .val false (.fz (.int m)), .val false (.fz (.lst (encR (lexU m)))), .val false (.own (encR (leftS m (s ++ s)))), .val false (.own (encN (keptS m s))), .emp, .val false (.fz (.tup (encS s))), .val false (.fz (.tup (encS t))), .val false (.fz (netD m s)), .val false (.fz (netD m t)), .val false (.own (encR (leftS m s))), .emp]) ?_ (st_then (env' := [.val true (.own l3), .val false (.fz (.int m)), .val false (.fz (.lst (encR (lexU m)))), .val false (.own (encR (leftS m (s ++ s)))), .val false (.own (encN (keptS m s))), .emp, .val false (.fz (.tup (encS s))), .val false (.fz (.tup (encS t))), .val false (.fz (netD m s)), .val false (.fz (netD m t)), .val false (.own (encR (leftS m s))), .emp]) ?_ (st_then (env' := [.val true (.own l3), .val false (.fz (.int m)), .val false (.fz (.lst (encR (lexU m)))), .val false (.own (encR (leftS m (s ++ s)))), .val false (.own (encN (keptS m s))), .val false (.own (encR (leftS m t))), .val false (.fz (.tup (encS s))), .val false (.fz (.tup (encS t))), .val false (.fz (netD m s)), .val false (.fz (netD m t)), .val false (.own (encR (leftS m s))), .emp]) ?_ (st_then (env' := [.val true (.own l3), .val false (.fz (.int m)), .val false (.fz (.lst (encR (lexU m)))), .val false (.own (encR (leftS m (s ++ s)))), .val false (.own (encN (keptS m s))), .val false (.own (encR (leftS m t))), .val false (.fz (.tup (encS s))), .val false (.fz (.tup (encS t))), .val false (.fz (netD m s)), .val false (.fz (netD m t)), .val false (.own (encR (leftS m s))), .emp]) ?_ (st_then (env' := [.val true (.own l3), .val false (.fz (.int m)), .val false (.fz (.lst (encR (lexU m)))), .val false (.own (encR (leftS m (s ++ s)))), .val false (.own (encN (keptS m s))), .val false (.own (encR (leftS m t))), .val false (.fz (.tup (encS s))), .val false (.fz (.tup (encS t))), .val false (.fz (netD m s)), .val false (.fz (netD m t)), .val false (.own (encR (leftS m s))), .emp]) ?_ (st_then (env' := [.val true (.own l3), .val false (.fz (.int m)), .val false (.fz (.lst (encR (lexU m)))), .val false (.own (encR (leftS m (s ++ s)))), .val false (.own (encN (keptS m s))), .val false (.own (encR (leftS m t))), .val false (.fz (.tup (encS s))), .val false (.fz (.tup (encS t))), .val false (.fz (netD m s)), .val false (.fz (netD m t)), .val false (.own (encR (leftS m s))), .emp]) ?_ (st_then (env' := [.val true (.own l3), .val false (.fz (.int m)), .val false (.fz (.lst (encR (lexU m)))), .val false (.own (encR (leftS m (s ++ s)))), .val false (.own (encN (keptS m s))), .val false (.own (encR (leftS m t))), .val false (.fz (.tup (encS s))), .val false (.fz (.tup (encS t))), .val false (.fz (netD m s)), .val false (.fz (netD m t)), .val false (.own (encR (leftS m s))), .emp]) ?_ (st_rt (w := .fz (.bl true)) (env' := [.val true (.own l3), .val false (.fz (.int m)), .val false (.fz (.lst (encR (lexU m)))), .val false (.own (encR (leftS m (s ++ s)))), .val false (.own (encN (keptS m s))), .val false (.own (encR (leftS m t))), .val false (.fz (.tup (encS s))), .val false (.fz (.tup (encS t))), .val false (.fz (netD m s)), .val false (.fz (netD m t)), .val false (.own (encR (leftS m s))), .emp]) ?_)))))))))))))))).trans rfl, h3⟩
  · simp [k17_right, evE_call k.draw.f, dFn, e1, hm]
  · simp [evE_call k.drawn, k_law_drawn, e2, e3]
  · simp [evE_call k.bits, k_lbits, e4]
  · have z1 := mk s m m1 m10 hs (by omega) [.var 1, .var 6] [.val true (.own l3), .val false (.fz (.int m)), .val false (.fz (.lst (encR (lexU m)))), .emp, .emp, .emp, .val false (.fz (.tup (encS s))), .val false (.fz (.tup (encS t))), .emp, .emp, .emp, .emp] (by simp)
    have z2 := mk t m m1 m10 ht (by omega) [.var 1, .var 7] [.val true (.own l3), .val false (.fz (.int m)), .val false (.fz (.lst (encR (lexU m)))), .emp, .emp, .emp, .val false (.fz (.tup (encS s))), .val false (.fz (.tup (encS t))), .emp, .emp, .emp, .emp] (by simp)
    rw [evS_par, evVs_cons, z1, Res.bind_ok, evVs_cons, z2]
    simp [evE_call k.left, k_law_left, e5]
  · simp [evE_call k.is, k_law_is, evE_call k.idle, k_is_idle, ea, p_eqR, Val.frz, isB]
  · simp [evE_call k.left, k_law_left, al s s sl sl, e6, Val.frz]
  · simp [evE_call k.is, k_law_is, evE_call k.stl, k_settles, eb, p_eqR, Val.frz, isB]
  · simp
    change compL _ (encR (lexU m)) _ _ = _ at hK
    rw [hK]
    simp
  · rw [show ((lexU m).filter fun r => decide (runS s r = r)).map numR = keptS m s from rfl] at ec
    simp [evE_call k.is, k_law_is, evE_call k.kept, k_kept_rows, ec, Val.frz, isK]
  · simp [evE_call k.left, k_law_left, e7]
  · have z : evE Γ (callF Γ (n + 6)) (.prim .all [.comp (.prim .inn [.var 11, .var 5]) (.nm 11) .plain [.var 10] [] [11]]) [.val true (.own l3), .val false (.fz (.int m)), .val false (.fz (.lst (encR (lexU m)))), .val false (.own (encR (leftS m (s ++ s)))), .val false (.own (encN (keptS m s))), .val false (.own (encR (leftS m t))), .val false (.fz (.tup (encS s))), .val false (.fz (.tup (encS t))), .val false (.fz (netD m s)), .val false (.fz (netD m t)), .val false (.own (encR (leftS m s))), .emp] = .ok (.fz (.bl ((leftS m s).all fun r => decide (r ∈ leftS m t))), [.val true (.own l3), .val false (.fz (.int m)), .val false (.fz (.lst (encR (lexU m)))), .val false (.own (encR (leftS m (s ++ s)))), .val false (.own (encN (keptS m s))), .val false (.own (encR (leftS m t))), .val false (.fz (.tup (encS s))), .val false (.fz (.tup (encS t))), .val false (.fz (netD m s)), .val false (.fz (netD m t)), .val false (.own (encR (leftS m s))), .emp]) := by
      simp [Val.frz]
      change compL _ (encR (leftS m s)) _ _ = _ at hF
      rw [hF]
      simp only [nox_ok, Res.bind_ok, pkArgs_val, pkArgs_nil, Val.frz_own, pF]
      simp
    rw [ite_f (env' := [.val true (.own l3), .val false (.fz (.int m)), .val false (.fz (.lst (encR (lexU m)))), .val false (.own (encR (leftS m (s ++ s)))), .val false (.own (encN (keptS m s))), .val false (.own (encR (leftS m t))), .val false (.fz (.tup (encS s))), .val false (.fz (.tup (encS t))), .val false (.fz (netD m s)), .val false (.fz (netD m t)), .val false (.own (encR (leftS m s))), .emp]) ?_]
    · rfl
    · rw [not_t (env' := [.val true (.own l3), .val false (.fz (.int m)), .val false (.fz (.lst (encR (lexU m)))), .val false (.own (encR (leftS m (s ++ s)))), .val false (.own (encN (keptS m s))), .val false (.own (encR (leftS m t))), .val false (.fz (.tup (encS s))), .val false (.fz (.tup (encS t))), .val false (.fz (netD m s)), .val false (.fz (netD m t)), .val false (.own (encR (leftS m s))), .emp]) ?_]
      rw [evE_call k.is, evAs_call, evE_call k.finer]
      simp only [evAs_var, argVar_O, List.getElem?_cons_succ, List.getElem?_cons_zero, agO_fz, Res.bind_ok, evAs_nil, k_is_finer, bindCall_val, bindCall_nil, ed, backCall_val, backCall_nil, evAs_prim, z, k_law_is, isB]
  · simp [evE_call k.is, k_law_is, evE_call k.com, k_commute, ee, evE_call k.left, k_law_left, al s t sl tl, al t s tl sl, e8, e9, p_eqR, Val.frz, isB]
  · have z1 := mk t (m + 1) (by omega) (by omega) ht' (by omega) [.prim .add [.var 1, .con (.int 1)], .var 7] [.val true (.own l3), .val false (.fz (.int m)), .val false (.fz (.lst (encR (lexU m)))), .val false (.own (encR (leftS m (s ++ s)))), .val false (.own (encN (keptS m s))), .val false (.own (encR (leftS m t))), .val false (.fz (.tup (encS s))), .val false (.fz (.tup (encS t))), .val false (.fz (netD m s)), .val false (.fz (netD m t)), .val false (.own (encR (leftS m s))), .emp] (by simp)
    rw [ite_f (env' := [.val true (.own l3), .val false (.fz (.int m)), .val false (.fz (.lst (encR (lexU m)))), .val false (.own (encR (leftS m (s ++ s)))), .val false (.own (encN (keptS m s))), .val false (.own (encR (leftS m t))), .val false (.fz (.tup (encS s))), .val false (.fz (.tup (encS t))), .val false (.fz (netD m s)), .val false (.fz (netD m t)), .val false (.own (encR (leftS m s))), .emp]) ?_]
    · rfl
    · simp only [evE_prim, evAs_call, evE_call k.com, evAs_var, argVar_O, List.getElem?_cons_succ, List.getElem?_cons_zero, agO_fz, Res.bind_ok, evAs_make, z1, evAs_nil, k_commute, bindCall_val, bindCall_nil, eg, backCall_val, backCall_nil, pkArgs_val, pkArgs_nil, Val.frz_fz, p_notB]
      rfl
  · by_cases c : leftS m s = lexU m
    · have hnil : s = [] := idle_nil hs fun r hr => by
        have e : lexU m = (lexU m).map id := (List.map_id _).symm
        unfold leftS at c
        have c' := map_eq_iff.mp (c.trans e)
        exact c' r hr
      obtain ⟨oh, eh⟩ := needless_nil k.pow k.ladder k.needless (n + 3) m10
      have tw : leftS m (s ++ s) = leftS m s := by rw [hnil]; rfl
      have ez : encS s = [] := by rw [hnil]; rfl
      rw [decide_eq_true c] at ea
      rw [decide_eq_true tw] at eb
      rw [← hnil] at eh
      rw [ite_f (env' := [.val true (.own l3), .val false (.fz (.int m)), .val false (.fz (.lst (encR (lexU m)))), .val false (.own (encR (leftS m (s ++ s)))), .val false (.own (encN (keptS m s))), .val false (.own (encR (leftS m t))), .val false (.fz (.tup (encS s))), .val false (.fz (.tup (encS t))), .val false (.fz (netD m s)), .val false (.fz (netD m t)), .val false (.own (encR (leftS m s))), .emp]) ?_]
      · rfl
      · rw [and_t (env' := [.val true (.own l3), .val false (.fz (.int m)), .val false (.fz (.lst (encR (lexU m)))), .val false (.own (encR (leftS m (s ++ s)))), .val false (.own (encN (keptS m s))), .val false (.own (encR (leftS m t))), .val false (.fz (.tup (encS s))), .val false (.fz (.tup (encS t))), .val false (.fz (netD m s)), .val false (.fz (netD m t)), .val false (.own (encR (leftS m s))), .emp]) (by simp [evE_call k.idle, k_is_idle, ea]), or_f (env' := [.val true (.own l3), .val false (.fz (.int m)), .val false (.fz (.lst (encR (lexU m)))), .val false (.own (encR (leftS m (s ++ s)))), .val false (.own (encN (keptS m s))), .val false (.own (encR (leftS m t))), .val false (.fz (.tup (encS s))), .val false (.fz (.tup (encS t))), .val false (.fz (netD m s)), .val false (.fz (netD m t)), .val false (.own (encR (leftS m s))), .emp]) (by simp [evE_call k.needless, k_needless, eh, ez, Val.frz])]
        simp [evE_call k.stl, k_settles, eb, Val.frz]
    · rw [decide_eq_false c] at ea
      rw [ite_f (env' := [.val true (.own l3), .val false (.fz (.int m)), .val false (.fz (.lst (encR (lexU m)))), .val false (.own (encR (leftS m (s ++ s)))), .val false (.own (encN (keptS m s))), .val false (.own (encR (leftS m t))), .val false (.fz (.tup (encS s))), .val false (.fz (.tup (encS t))), .val false (.fz (netD m s)), .val false (.fz (netD m t)), .val false (.own (encR (leftS m s))), .emp]) ?_]
      · rfl
      · rw [and_f (env' := [.val true (.own l3), .val false (.fz (.int m)), .val false (.fz (.lst (encR (lexU m)))), .val false (.own (encR (leftS m (s ++ s)))), .val false (.own (encN (keptS m s))), .val false (.own (encR (leftS m t))), .val false (.fz (.tup (encS s))), .val false (.fz (.tup (encS t))), .val false (.fz (netD m s)), .val false (.fz (netD m t)), .val false (.own (encR (leftS m s))), .emp]) (by simp [evE_call k.idle, k_is_idle, ea])]
  · rw [evS_retO]
    by_cases c : leftS m (s ++ s) = leftS m s
    · rw [or_f (env' := [.val true (.own l3), .val false (.fz (.int m)), .val false (.fz (.lst (encR (lexU m)))), .val false (.own (encR (leftS m (s ++ s)))), .val false (.own (encN (keptS m s))), .val false (.own (encR (leftS m t))), .val false (.fz (.tup (encS s))), .val false (.fz (.tup (encS t))), .val false (.fz (netD m s)), .val false (.fz (netD m t)), .val false (.own (encR (leftS m s))), .emp]) (by simp [p_neR, Val.frz, c])]
      have hset := settled_set c
      have e11 : (setOfI ((leftS m s).map fun r => (numR r : Int))).map D.int = encN (keptS m s) := by
        rw [hset]
        unfold keptS encN
        rw [List.map_map, List.map_map]
        rfl
      have l11 : (setOfI ((leftS m s).map fun r => (numR r : Int))).length < 64 := by
        have := congrArg List.length e11
        rw [List.length_map, encN_len] at this
        omega
      have ps := p_sset (ns := (leftS m s).map fun r => (numR r : Int)) (by unfold leftS; rw [List.length_map, List.length_map, lexU_len]; omega) l11
      rw [e11] at ps
      have e12 : (leftS m s).map (fun r => D.int (numR r : Nat)) = ((leftS m s).map fun r => (numR r : Int)).map D.int := by rw [List.map_map]; rfl
      rw [e12] at hN
      have pe := p_eq_self (a := .lst (encN (keptS m s))) (by rw [fit_lst, encN_fits])
      have z : evE Γ (callF Γ (n + 6)) (.prim .sortedSet [.comp (.call "_law_number" [.var 11]) (.nm 11) .plain [.var 10] [] [11]]) [.val true (.own l3), .val false (.fz (.int m)), .val false (.fz (.lst (encR (lexU m)))), .val false (.own (encR (leftS m (s ++ s)))), .val false (.own (encN (keptS m s))), .val false (.own (encR (leftS m t))), .val false (.fz (.tup (encS s))), .val false (.fz (.tup (encS t))), .val false (.fz (netD m s)), .val false (.fz (netD m t)), .val false (.own (encR (leftS m s))), .emp] = .ok (.own (encN (keptS m s)), [.val true (.own l3), .val false (.fz (.int m)), .val false (.fz (.lst (encR (lexU m)))), .val false (.own (encR (leftS m (s ++ s)))), .val false (.own (encN (keptS m s))), .val false (.own (encR (leftS m t))), .val false (.fz (.tup (encS s))), .val false (.fz (.tup (encS t))), .val false (.fz (netD m s)), .val false (.fz (netD m t)), .val false (.own (encR (leftS m s))), .emp]) := by
        simp [Val.frz]
        change compL _ (encR (leftS m s)) _ _ = _ at hN
        rw [hN]
        simp only [nox_ok, Res.bind_ok, pkArgs_val, pkArgs_nil, Val.frz_own, ps]
        simp
      rw [evE_eqc, evAs_prim, z]
      simp [pe, Val.frz]
    · rw [or_t (env' := [.val true (.own l3), .val false (.fz (.int m)), .val false (.fz (.lst (encR (lexU m)))), .val false (.own (encR (leftS m (s ++ s)))), .val false (.own (encN (keptS m s))), .val false (.own (encR (leftS m t))), .val false (.fz (.tup (encS s))), .val false (.fz (.tup (encS t))), .val false (.fz (netD m s)), .val false (.fz (netD m t)), .val false (.own (encR (leftS m s))), .emp]) (by simp [p_neR, Val.frz, c])]
      rfl
end Rx

set_option Elab.async false
set_option linter.all false
set_option autoImplicit false
set_option maxRecDepth 100000
set_option maxHeartbeats 2000000
namespace Rx
open PySem
def k17_law : Fn := { np := 1, ns := 6, pins := [0], body := [.asg (.nm 1) (.call "_law_hand" [.var 0]), .par [3, 4] [.make "Net" [.con (.int 3), .tup [.tup [.con (.int 0), .con (.int 1)]]], .make "Net" [.con (.int 3), .tup [.tup [.con (.int 1), .con (.int 2)]]]], .asg (.nm 2) (.lst [.call "settles" [.var 3], .call "is_idle" [.var 3], .prim .list [.call "kept_rows" [.var 3]], .call "commute" [.var 3, .var 4]]), .expr (.mut .append 2 [.call "is_finer" [.make "Net" [.con (.int 2), .tup [.tup [.con (.int 0), .con (.int 1)]]], .make "Net" [.con (.int 2), .tup []]]]), .ite (.not (.call "_law_is" [.var 2, .lst [.con (.bl true), .con (.bl false), .lst [.con (.int 0), .con (.int 1), .con (.int 2), .con (.int 3), .con (.int 6), .con (.int 7)], .con (.bl false), .con (.bl true)]])) [.ret (.con (.bl false))] [], .ite (.or (.prim (.notB true) [.call "commute" [.make "Net" [.con (.int 4), .tup [.tup [.con (.int 0), .con (.int 1)]]], .make "Net" [.con (.int 4), .tup [.tup [.con (.int 2), .con (.int 3)]]]]]) (.prim (.notB true) [.call "settles" [.make "Net" [.con (.int 2), .tup [.tup [.con (.int 0), .con (.int 1)], .tup [.con (.int 1), .con (.int 0)]]]]])) [.ret (.con (.bl false))] [], .ret (.prim .all [.comp (.call "_law_is_right" [.var 1]) (.nm 5) (.range 1) [.con (.int 6)] [] [5]])] }
structure K17l (Γ : Tbl) (b : List CS) : Prop extends K17 Γ b where
  hand : Γ.fn "_law_hand" = some (hFn 97 7)
  right : Γ.fn "_law_is_right" = some k17_right
  law : Γ.fn "law" = some k17_law
theorem law17 {Γ : Tbl} {b : List CS} (k : K17l Γ b) (n : Nat) (ns : List Int) (hn : ns.length ≤ 63) : ∃ outs, callF Γ (n + 8) "law" [.fz (.scr ns)] = .ok (.fz (.bl true), outs) := by
  rw [callF_fn k.law rfl]
  have s0' : 0 ≤ SL := Nat.zero_le _
  have s1' : 1 ≤ SL := sl_le (m := 1) (Nat.le_refl _) (by omega)
  have s2' : 2 ≤ SL := sl_le (m := 2) (Nat.le_refl _) (by omega)
  have s4' : 4 ≤ SL := sl_le (m := 4) (Nat.le_refl _) (by omega)
  have s4'' : 4 < SL := Nat.lt_of_lt_of_le (show 4 < 5 by omega) (sl_le (m := 5) (Nat.le_refl _) (by omega))
  have s5' : 5 ≤ SL := sl_le (m := 5) (Nat.le_refl _) (by omega)
  have s6' : 6 ≤ SL := sl_le (m := 6) (Nat.le_refl _) (by omega)
  obtain ⟨l, o1, e1, h⟩ := handG (by decide) k.hand ns hn (n + 6)
  have mk (s' : List (Nat × Nat)) (m' : Nat) (q1 : 1 ≤ m') (q2 : m' ≤ 10) (h : okS m' s') (hl : s'.length ≤ 60) (es : List CE) (env : Env) (he : evVs Γ (callF Γ (n + 7)) es env = .ok ([.fz (.int m'), .fz (.tup (encS s'))], env)) := r_make k.chk k.net (n + 3) q1 q2 h hl (es := es) (env := env) (env' := env) he
  have okA : okS 3 [(0, 1)] := by intro p hp; rw [List.mem_singleton.mp hp]; decide
  have okB : okS 3 [(1, 2)] := by intro p hp; rw [List.mem_singleton.mp hp]; decide
  have okC : okS 2 [(0, 1)] := by intro p hp; rw [List.mem_singleton.mp hp]; decide
  have okD : okS 2 [] := by intro p hp; cases hp
  have okE : okS 4 [(0, 1)] := by intro p hp; rw [List.mem_singleton.mp hp]; decide
  have okF : okS 4 [(2, 3)] := by intro p hp; rw [List.mem_singleton.mp hp]; decide
  have okG : okS 2 [(0, 1), (1, 0)] := by
    intro p hp
    simp only [List.mem_cons, List.not_mem_nil, or_false] at hp
    rcases hp with rfl | rfl <;> decide
  obtain ⟨o2, e2⟩ := stl_ok k.toFun17 (n + 2) (by omega) okA
  obtain ⟨o3, e3⟩ := idle_ok k.toFun17 (n + 2) (by omega) okA
  obtain ⟨o4, e4⟩ := kept_ok k.toFun17 (n + 2) (by omega) okA
  obtain ⟨o5, e5⟩ := com_ok k.toFun17 (n + 2) (by omega) okA okB
  obtain ⟨o6, e6⟩ := finer_ok k.toFun17 (n + 2) (by omega) okC okD
  obtain ⟨o7, e7⟩ := com_ok k.toFun17 (n + 2) (by omega) okE okF
  obtain ⟨o8, e8⟩ := stl_ok k.toFun17 (n + 2) (by omega) okG
  rw [show decide (leftS 3 ([(0, 1)] ++ [(0, 1)]) = leftS 3 [(0, 1)]) = true by decide +kernel] at e2
  rw [show decide (leftS 3 [(0, 1)] = lexU 3) = false by decide +kernel] at e3
  rw [show ((lexU 3).filter fun r => decide (runS [(0, 1)] r = r)).map numR = [0, 1, 2, 3, 6, 7] by decide +kernel] at e4
  rw [show decide (leftS 3 ([(0, 1)] ++ [(1, 2)]) = leftS 3 ([(1, 2)] ++ [(0, 1)])) = false by decide +kernel] at e5
  rw [show ((leftS 2 [(0, 1)]).all fun r => decide (r ∈ leftS 2 [])) = true by decide +kernel] at e6
  rw [show decide (leftS 4 ([(0, 1)] ++ [(2, 3)]) = leftS 4 ([(2, 3)] ++ [(0, 1)])) = true by decide +kernel] at e7
  rw [show decide (leftS 2 ([(0, 1), (1, 0)] ++ [(0, 1), (1, 0)]) = leftS 2 [(0, 1), (1, 0)]) = true by decide +kernel] at e8
  rw [show encN [0, 1, 2, 3, 6, 7] = [.int 0, .int 1, .int 2, .int 3, .int 6, .int 7] from rfl] at e4
  have isok : isOk 2 (.lst [.bl true, .bl false, .lst [.int 0, .int 1, .int 2, .int 3, .int 6, .int 7], .bl false, .bl true]) := .inr (.inr (.inr (.inr ⟨_, rfl, by decide, fun x hx => by
    simp only [List.mem_cons, List.not_mem_nil, or_false] at hx
    rcases hx with rfl | rfl | rfl | rfl | rfl
    · exact .inr (.inl ⟨_, rfl⟩)
    · exact .inr (.inl ⟨_, rfl⟩)
    · refine .inr (.inr (.inr (.inr ⟨_, rfl, by decide, fun x hx => ?_⟩)))
      simp only [List.mem_cons, List.not_mem_nil, or_false] at hx
      rcases hx with rfl | rfl | rfl | rfl | rfl | rfl <;> exact .inl ⟨_, rfl⟩
    · exact .inr (.inl ⟨_, rfl⟩)
    · exact .inr (.inl ⟨_, rfl⟩)⟩)))
  have isT := law_is_ok k.is 2 (n + 4) (w := .own [.bl true, .bl false, .lst [.int 0, .int 1, .int 2, .int 3, .int 6, .int 7], .bl false, .bl true]) (w' := .own [.bl true, .bl false, .lst [.int 0, .int 1, .int 2, .int 3, .int 6, .int 7], .bl false, .bl true]) isok (.inr ⟨_, rfl, rfl⟩) (.inr ⟨_, rfl, rfl⟩)
  rw [show n + 4 + 2 + 1 = n + 7 from rfl] at isT
  have it : iterO (.range 1) [.int 6] = .ok (encN (List.range 6)) := it_range (m := 6) (by omega)
  obtain ⟨e', hL, l', s5, rfl, hh, _⟩ := compL_m (step := compB Γ (callF Γ (n + 7)) (.call "_law_is_right" [.var 1]) (.nm 5) [] [5]) (fun x : Nat => D.int (x : Int)) (fun _ => D.bl true)
    (fun e => ∃ l' s5, e = [.val true (.fz (.scr ns)), .val false (.own l'), .val false (.own [.bl true, .bl false, .lst [.int 0, .int 1, .int 2, .int 3, .int 6, .int 7], .bl false, .bl true]), .val false (.fz (netD 3 [(0, 1)])), .val false (.fz (netD 3 [(1, 2)])), s5] ∧ Hd l' ∧ Fr s5) (xs := List.range 6) (env0 := [.val true (.fz (.scr ns)), .val false (.own l), .val false (.own [.bl true, .bl false, .lst [.int 0, .int 1, .int 2, .int 3, .int 6, .int 7], .bl false, .bl true]), .val false (.fz (netD 3 [(0, 1)])), .val false (.fz (netD 3 [(1, 2)])), .emp]) ⟨l, _, rfl, h, .emp⟩ (by decide)
    fun x hx e ⟨l', s5, he, hh, _⟩ => by
      subst he
      obtain ⟨l2, er, h2⟩ := right17 k.toK17 k.right n hh
      refine ⟨_, ?_, l2, .val false (.fz (.int x)), rfl, h2, .val⟩
      simp [compB, evE_call k.right, k17_right, er]
  change compL _ (encN (List.range 6)) _ _ = _ at hL
  have pa := p_allB (fun _ : Nat => true) (List.range 6)
  refine ⟨_, (congrArg (fin 1) (st_then (env' := [.val true (.fz (.scr ns)), .val false (.own l), .emp, .emp, .emp, .emp]) ?_ (st_then (env' := [.val true (.fz (.scr ns)), .val false (.own l), .emp, .val false (.fz (netD 3 [(0, 1)])), .val false (.fz (netD 3 [(1, 2)])), .emp]) ?_ (st_then (env' := [.val true (.fz (.scr ns)), .val false (.own l), .val false (.own [.bl true, .bl false, .lst [.int 0, .int 1, .int 2, .int 3, .int 6, .int 7], .bl false]), .val false (.fz (netD 3 [(0, 1)])), .val false (.fz (netD 3 [(1, 2)])), .emp]) ?_ (st_then (env' := [.val true (.fz (.scr ns)), .val false (.own l), .val false (.own [.bl true, .bl false, .lst [.int 0, .int 1, .int 2, .int 3, .int 6, .int 7], .bl false, .bl true]), .val false (.fz (netD 3 [(0, 1)])), .val false (.fz (netD 3 [(1, 2)])), .emp]) ?_ (st_then (env' := [.val true (.fz (.scr ns)), .val false (.own l), .val false (.own [.bl true, .bl false, .lst [.int 0, .int 1, .int 2, .int 3, .int 6, .int 7], .bl false, .bl true]), .val false (.fz (netD 3 [(0, 1)])), .val false (.fz (netD 3 [(1, 2)])), .emp]) ?_ (st_then (env' := [.val true (.fz (.scr ns)), .val false (.own l), .val false (.own [.bl true, .bl false, .lst [.int 0, .int 1, .int 2, .int 3, .int 6, .int 7], .bl false, .bl true]), .val false (.fz (netD 3 [(0, 1)])), .val false (.fz (netD 3 [(1, 2)])), .emp]) ?_ (st_rt (w := .fz (.bl true)) (env' := [.val true (.fz (.scr ns)), .val false (.own l'), .val false (.own [.bl true, .bl false, .lst [.int 0, .int 1, .int 2, .int 3, .int 6, .int 7], .bl false, .bl true]), .val false (.fz (netD 3 [(0, 1)])), .val false (.fz (netD 3 [(1, 2)])), .emp]) ?_)))))))).trans rfl⟩
  · simp [k17_law, evE_call k.hand, hFn, e1]
  · have z1 := mk [(0, 1)] 3 (by omega) (by omega) okA (by simp) [.con (.int 3), .tup [.tup [.con (.int 0), .con (.int 1)]]] [.val true (.fz (.scr ns)), .val false (.own l), .emp, .emp, .emp, .emp] (by simp [s1', s2', encS])
    have z2 := mk [(1, 2)] 3 (by omega) (by omega) okB (by simp) [.con (.int 3), .tup [.tup [.con (.int 1), .con (.int 2)]]] [.val true (.fz (.scr ns)), .val false (.own l), .emp, .emp, .emp, .emp] (by simp [s1', s2', encS])
    rw [evS_par, evVs_cons, z1, Res.bind_ok, evVs_cons, z2]
    simp
  · simp [evE_call k.stl, k_settles, e2, evE_call k.idle, k_is_idle, e3, evE_call k.kept, k_kept_rows, e4, evE_call k.com, k_commute, e5, s4', Val.frz]
  · have z1 := mk [(0, 1)] 2 (by omega) (by omega) okC (by simp) [.con (.int 2), .tup [.tup [.con (.int 0), .con (.int 1)]]] [.val true (.fz (.scr ns)), .val false (.own l), .val false (.own [.bl true, .bl false, .lst [.int 0, .int 1, .int 2, .int 3, .int 6, .int 7], .bl false]), .val false (.fz (netD 3 [(0, 1)])), .val false (.fz (netD 3 [(1, 2)])), .emp] (by simp [s1', s2', encS])
    have z2 := mk [] 2 (by omega) (by omega) okD (by simp) [.con (.int 2), .tup []] [.val true (.fz (.scr ns)), .val false (.own l), .val false (.own [.bl true, .bl false, .lst [.int 0, .int 1, .int 2, .int 3, .int 6, .int 7], .bl false]), .val false (.fz (netD 3 [(0, 1)])), .val false (.fz (netD 3 [(1, 2)])), .emp] (by simp [s0', encS])
    rw [evS_expr, evE_mut, evVs_cons, evE_call k.finer, evAs_make, z1, Res.bind_ok, evAs_make, z2]
    simp [k_is_finer, e6, s4'', Val.frz]
  · simp [evE_call k.is, k_law_is, s5', s6', Val.frz, isT]
  · have z1 := mk [(0, 1)] 4 (by omega) (by omega) okE (by simp) [.con (.int 4), .tup [.tup [.con (.int 0), .con (.int 1)]]] [.val true (.fz (.scr ns)), .val false (.own l), .val false (.own [.bl true, .bl false, .lst [.int 0, .int 1, .int 2, .int 3, .int 6, .int 7], .bl false, .bl true]), .val false (.fz (netD 3 [(0, 1)])), .val false (.fz (netD 3 [(1, 2)])), .emp] (by simp [s1', s2', encS])
    have z2 := mk [(2, 3)] 4 (by omega) (by omega) okF (by simp) [.con (.int 4), .tup [.tup [.con (.int 2), .con (.int 3)]]] [.val true (.fz (.scr ns)), .val false (.own l), .val false (.own [.bl true, .bl false, .lst [.int 0, .int 1, .int 2, .int 3, .int 6, .int 7], .bl false, .bl true]), .val false (.fz (netD 3 [(0, 1)])), .val false (.fz (netD 3 [(1, 2)])), .emp] (by simp [s1', s2', encS])
    have z3 := mk [(0, 1), (1, 0)] 2 (by omega) (by omega) okG (by simp) [.con (.int 2), .tup [.tup [.con (.int 0), .con (.int 1)], .tup [.con (.int 1), .con (.int 0)]]] [.val true (.fz (.scr ns)), .val false (.own l), .val false (.own [.bl true, .bl false, .lst [.int 0, .int 1, .int 2, .int 3, .int 6, .int 7], .bl false, .bl true]), .val false (.fz (netD 3 [(0, 1)])), .val false (.fz (netD 3 [(1, 2)])), .emp] (by simp [s2', encS])
    rw [ite_f (env' := [.val true (.fz (.scr ns)), .val false (.own l), .val false (.own [.bl true, .bl false, .lst [.int 0, .int 1, .int 2, .int 3, .int 6, .int 7], .bl false, .bl true]), .val false (.fz (netD 3 [(0, 1)])), .val false (.fz (netD 3 [(1, 2)])), .emp]) ?_]
    · rfl
    · rw [or_f (env' := [.val true (.fz (.scr ns)), .val false (.own l), .val false (.own [.bl true, .bl false, .lst [.int 0, .int 1, .int 2, .int 3, .int 6, .int 7], .bl false, .bl true]), .val false (.fz (netD 3 [(0, 1)])), .val false (.fz (netD 3 [(1, 2)])), .emp]) ?_]
      · rw [evE_prim, evAs_call, evE_call k.stl, evAs_make, z3]
        simp [k_settles, e8, Val.frz]
      · rw [evE_prim, evAs_call, evE_call k.com, evAs_make, z1, Res.bind_ok, evAs_make, z2]
        simp [k_commute, e7, Val.frz]
  · rw [evS_retP]
    simp [it]
    rw [hL]
    simp [Val.frz]
    rw [pa]
    simp
end Rx

set_option maxRecDepth 100000
set_option maxHeartbeats 0
set_option linter.all false
namespace Lw
open PySem Rx
def c_is_integer : Fn := { np := 1, ns := 1, pins := [0], body := [.ret (.and (.prim (.isa ["int"]) [.var 0]) (.not (.prim (.isa ["bool"]) [.var 0])))] }
def c_is_within : Fn := { np := 3, ns := 3, pins := [0, 1, 2], body := [.ret (.and (.call "is_integer" [.var 0]) (.chain .le .le (.var 1) (.var 0) (.var 2)))] }
def c_is_tuple : Fn := { np := 2, ns := 2, pins := [0, 1], body := [.ret (.and (.prim (.isa ["tuple"]) [.var 0]) (.eqc [.prim .len [.var 0], .var 1]))] }
def c_is_sized : Fn := { np := 3, ns := 3, pins := [0, 1, 2], body := [.ret (.and (.prim (.isa ["tuple"]) [.var 0]) (.chain .le .le (.var 1) (.prim .len [.var 0]) (.var 2)))] }
def c_are_swaps : Fn := { np := 2, ns := 4, pins := [0, 1], body := [.ite (.or (.not (.call "is_sized" [.var 0, .con (.int 0), .glob "MOST_SWAPS"])) (.not (.prim .all [.comp (.call "is_tuple" [.var 2, .con (.int 2)]) (.nm 2) .plain [.var 0] [] [2]]))) [.ret (.con (.bl false))] [], .ret (.prim .all [.comp (.and (.prim .all [.comp (.call "is_within" [.var 3, .con (.int 0), .prim .sub [.var 1, .con (.int 1)]]) (.nm 3) .plain [.var 2] [] [3]]) (.prim .ne [.prim .idx [.var 2, .con (.int 0)], .prim .idx [.var 2, .con (.int 1)]])) (.nm 2) .plain [.var 0] [] [2]])] }
def c_Net__init_ : Fn := { np := 3, ns := 3, pins := [0, 1, 2], body := [.ite (.not (.call "is_within" [.var 1, .con (.int 1), .glob "MOST_WIRES"])) [.raise "BadNet" [.con (.str "wires")]] [], .ite (.not (.call "are_swaps" [.var 2, .var 1])) [.raise "BadNet" [.con (.str "swaps")]] [], .fset 0 "wires" (.var 1), .fset 0 "swaps" (.var 2)] }
def c_Net__eq_ : Fn := { np := 2, ns := 2, pins := [0, 1], body := [.ret (.and (.prim (.isa ["Net"]) [.var 1]) (.and (.eqc [.prim (.fld "wires") [.var 0], .prim (.fld "wires") [.var 1]]) (.eqc [.prim (.fld "swaps") [.var 0], .prim (.fld "swaps") [.var 1]])))] }
def c_led : Fn := { np := 3, ns := 11, pins := [0, 1, 2], body := [.asg (.tp [.nm 5, .nm 6]) (.var 1), .par [7, 8] [.call "power_two" [.prim .sub [.prim .sub [.var 2, .con (.int 1)], .var 5]], .call "power_two" [.prim .sub [.prim .sub [.var 2, .con (.int 1)], .var 6]]], .asg (.nm 3) (.prim .dnewK []), .for (.nm 4) .plain [.var 0] [.par [9, 10] [.eqc [.prim .mod [.prim .fdiv [.var 4, .var 7], .con (.int 2)], .con (.int 1)], .eqc [.prim .mod [.prim .fdiv [.var 4, .var 8], .con (.int 2)], .con (.int 1)]], .dput 3 [.con (.bl true), .ite (.and (.var 9) (.not (.var 10))) (.prim .add [.prim .sub [.var 4, .var 7], .var 8]) (.var 4)]], .ret (.prim .tuple [.prim .sorted [.var 3]])] }
def c_power_two : Fn := { np := 1, ns := 3, pins := [0], body := [.asg (.nm 1) (.con (.int 1)), .for (.nm 2) (.range 1) [.var 0] [.asg (.nm 1) (.prim .mul [.con (.int 2), .var 1])], .ret (.var 1)] }
def c_ladder : Fn := { np := 1, ns := 3, pins := [0], body := [.asg (.nm 1) (.lst [.prim (.tupleR 1) [.call "power_two" [.prim (.fld "wires") [.var 0]]]]), .for (.nm 2) .plain [.prim (.fld "swaps") [.var 0]] [.expr (.mut .append 1 [.call "led" [.prim .idx [.var 1, .prim .neg [.con (.int 1)]], .var 2, .prim (.fld "wires") [.var 0]]])], .ret (.prim .tuple [.var 1])] }
def c_needless : Fn := { np := 1, ns := 6, pins := [0], body := [.par [1, 2] [.call "ladder" [.var 0], .lst []], .for (.tp [.nm 3, .nm 4]) .enum [.prim (.fld "swaps") [.var 0]] [.ite (.eqc [.prim .idx [.var 1, .var 3], .prim .tuple [.comp (.var 5) (.nm 5) .plain [.prim .idx [.var 1, .var 3]] [.eqc [.call "led" [.tup [.var 5], .var 4, .prim (.fld "wires") [.var 0]], .tup [.var 5]]] [5]]]) [.expr (.mut .append 2 [.var 3])] []], .ret (.prim .tuple [.var 2])] }
def c_deed : Fn := { np := 2, ns := 5, pins := [0, 1], body := [.asg (.nm 2) (.prim (.listR 1) [.call "power_two" [.var 0]]), .for (.nm 3) .plain [.var 1] [.asg (.nm 2) (.comp (.prim .idx [.call "led" [.tup [.var 4], .var 3, .var 0], .con (.int 0)]) (.nm 4) .plain [.var 2] [] [4])], .ret (.prim .tuple [.var 2])] }
def c_deed_of : Fn := { np := 1, ns := 1, pins := [0], body := [.ret (.call "deed" [.prim (.fld "wires") [.var 0], .prim (.fld "swaps") [.var 0]])] }
def c_is_idle : Fn := { np := 1, ns := 1, pins := [0], body := [.ret (.eqc [.call "deed_of" [.var 0], .prim (.tupleR 1) [.call "power_two" [.prim (.fld "wires") [.var 0]]]])] }
def c_settles : Fn := { np := 1, ns := 3, pins := [0], body := [.asg (.nm 1) (.call "deed_of" [.var 0]), .ret (.prim .all [.comp (.eqc [.prim .idx [.var 1, .prim .idx [.var 1, .var 2]], .prim .idx [.var 1, .var 2]]) (.nm 2) (.range 1) [.prim .len [.var 1]] [] [2]])] }
def c_kept_rows : Fn := { np := 1, ns := 3, pins := [0], body := [.asg (.nm 1) (.call "deed_of" [.var 0]), .ret (.comp (.var 2) (.nm 2) (.range 1) [.prim .len [.var 1]] [.eqc [.prim .idx [.var 1, .var 2], .var 2]] [2])] }
def c_is_finer : Fn := { np := 2, ns := 4, pins := [0, 1], body := [.asg (.nm 2) (.call "deed_of" [.var 1]), .ret (.prim .all [.comp (.prim .inn [.var 3, .var 2]) (.nm 3) .plain [.call "deed_of" [.var 0]] [] [3]])] }
def c_commute : Fn := { np := 2, ns := 5, pins := [0, 1], body := [.par [2, 3] [.call "deed_of" [.var 0], .call "deed_of" [.var 1]], .ret (.and (.eqc [.prim .len [.var 2], .prim .len [.var 3]]) (.prim .all [.comp (.eqc [.prim .idx [.var 3, .prim .idx [.var 2, .var 4]], .prim .idx [.var 2, .prim .idx [.var 3, .var 4]]]) (.nm 4) (.range 1) [.prim .len [.var 2]] [] [4]]))] }
def c__law_hand : Fn := { np := 1, ns := 3, pins := [0], body := [.asg (.nm 1) (.comp (.prim .abs [.prim .int [.var 2]]) (.nm 2) .plain [.prim (.slice false true) [.var 0, .con (.int 63)]] [] [2]), .ret (.lst [.var 1, .con (.int 0), .con (.int 0), .prim .add [.con (.int 97), .prim .mul [.con (.int 7), .prim .len [.var 1]]], .con (.int 0)])] }
def c__law_draw : Fn := { np := 2, ns := 5, pins := [0, 1], body := [.ite (.and (.eqc [.prim .idx [.var 0, .con (.int 2)], .con (.int 0)]) (.prim .lt [.prim .idx [.var 0, .con (.int 1)], .prim .len [.prim .idx [.var 0, .con (.int 0)]]])) [.asg (.nm 3) (.prim .idx [.prim .idx [.var 0, .con (.int 0)], .prim .idx [.var 0, .con (.int 1)]]), .asg (.sub 0 (.con (.int 1))) (.prim .add [.prim .idx [.var 0, .con (.int 1)], .con (.int 1)]), .asg (.sub 0 (.con (.int 3))) (.prim .mod [.prim .int [.prim .add [.prim .add [.prim .mul [.prim .idx [.var 0, .con (.int 3)], .con (.int 69621)], .var 3], .con (.int 43)]], .con (.int 2147483629)]), .ite (.prim .ge [.var 3, .prim .pow [.con (.int 10), .con (.int 18)]]) [.asg (.sub 0 (.con (.int 2))) (.var 3)] []] [], .ite (.prim .gt [.prim .idx [.var 0, .con (.int 2)], .con (.int 0)]) [.asg (.nm 4) (.prim .mod [.prim .int [.prim .idx [.var 0, .con (.int 2)]], .var 1]), .asg (.sub 0 (.con (.int 2))) (.prim .fdiv [.prim .idx [.var 0, .con (.int 2)], .var 1]), .ret (.var 4)] [], .asg (.sub 0 (.con (.int 4))) (.prim .add [.prim .idx [.var 0, .con (.int 4)], .con (.int 1)]), .asg (.nm 2) (.prim .mod [.prim .int [.prim .mul [.prim .int [.prim .add [.prim .idx [.var 0, .con (.int 3)], .prim .mul [.con (.int 7919), .prim .idx [.var 0, .con (.int 4)]]]], .con (.int 48271)]], .con (.int 2147483647)]), .asg (.nm 2) (.prim .mod [.prim .int [.prim .mul [.var 2, .prim .add [.prim .fdiv [.var 2, .con (.int 1009)], .con (.int 69621)]]], .con (.int 2147483647)]), .asg (.nm 2) (.prim .mod [.prim .int [.prim .mul [.var 2, .prim .add [.prim .fdiv [.var 2, .con (.int 2003)], .con (.int 40692)]]], .con (.int 2147483399)]), .ret (.prim .mod [.prim .int [.prim .fdiv [.var 2, .con (.int 16)]], .var 1])] }
def c__law_some : Fn := { np := 2, ns := 2, pins := [0, 1], body := [.ret (.prim .idx [.var 1, .call "_law_draw" [.var 0, .prim .len [.var 1]]])] }
def c__law_is : Fn := { np := 2, ns := 4, pins := [0, 1], body := [.ite (.prim (.isa ["tuple", "list"]) [.var 1]) [.ite (.prim .ne [.prim (.isa ["tuple"]) [.var 0], .prim (.isa ["tuple"]) [.var 1]]) [.ret (.con (.bl false))] [], .ite (.or (.prim .ne [.prim (.isa ["list"]) [.var 0], .prim (.isa ["list"]) [.var 1]]) (.prim .ne [.prim .len [.var 0], .prim .len [.var 1]])) [.ret (.con (.bl false))] [], .ret (.prim .all [.comp (.call "_law_is" [.var 2, .var 3]) (.tp [.nm 2, .nm 3]) .zip [.var 0, .var 1] [] [2, 3]])] [], .ite (.or (.prim .isN [.var 1]) (.prim .isN [.var 0])) [.ret (.and (.prim .isN [.var 1]) (.prim .isN [.var 0]))] [], .ite (.prim .ne [.prim (.isa ["bool"]) [.var 0], .prim (.isa ["bool"]) [.var 1]]) [.ret (.con (.bl false))] [], .ret (.and (.eqc [.prim (.isa ["str"]) [.var 0], .prim (.isa ["str"]) [.var 1]]) (.eqc [.var 0, .var 1]))] }
def c__law_swaps : Fn := { np := 3, ns := 9, pins := [0, 1, 2], body := [.par [4, 5] [.eqc [.call "_law_draw" [.var 0, .con (.int 4)], .con (.int 0)], .lst []], .for (.nm 3) (.range 1) [.ite (.prim .gt [.var 1, .con (.int 1)]) (.call "_law_draw" [.var 0, .prim .add [.var 2, .con (.int 1)]]) (.con (.int 0))] [.asg (.nm 6) (.call "_law_draw" [.var 0, .var 1]), .asg (.nm 7) (.prim .mod [.prim .int [.prim .add [.prim .add [.var 6, .con (.int 1)], .call "_law_draw" [.var 0, .prim .sub [.var 1, .con (.int 1)]]]], .var 1]), .asg (.nm 8) (.ite (.var 4) (.tup [.var 6, .var 7]) (.tup [.prim .min [.var 6, .var 7], .prim .max [.var 6, .var 7]])), .expr (.mut .append 5 [.call "_law_some" [.var 0, .lst [.var 8, .var 8, .var 8, .ite (.prim .gt [.prim .len [.var 5], .con (.int 0)]) (.prim .idx [.var 5, .prim .neg [.con (.int 1)]]) (.var 8)]]])], .ret (.prim .tuple [.var 5])] }
def c__law_bits : Fn := { np := 1, ns := 5, pins := [0], body := [.asg (.nm 1) (.lst [.tup []]), .for (.nm 2) (.range 1) [.var 0] [.asg (.nm 3) (.lst []), .for (.nm 4) .plain [.var 1] [.expr (.mut .extend 3 [.lst [.prim .add [.var 4, .tup [.con (.int 0)]], .prim .add [.var 4, .tup [.con (.int 1)]]]])], .asg (.nm 1) (.var 3)], .ret (.var 1)] }
def c__law_run : Fn := { np := 2, ns := 5, pins := [0, 1], body := [.asg (.nm 2) (.prim .list [.var 1]), .for (.tp [.nm 3, .nm 4]) .plain [.var 0] [.ite (.prim .gt [.prim .idx [.var 2, .var 3], .prim .idx [.var 2, .var 4]]) [.asg (.tp [.sub 2 (.var 3), .sub 2 (.var 4)]) (.tup [.prim .idx [.var 2, .var 4], .prim .idx [.var 2, .var 3]])] []], .ret (.prim .tuple [.var 2])] }
def c__law_number : Fn := { np := 1, ns := 3, pins := [0], body := [.asg (.nm 1) (.con (.int 0)), .for (.nm 2) .plain [.var 0] [.asg (.nm 1) (.prim .add [.prim .mul [.con (.int 2), .var 1], .var 2])], .ret (.var 1)] }
def c__law_drawn : Fn := { np := 2, ns := 6, pins := [0, 1], body := [.asg (.nm 2) (.lst []), .for (.nm 3) (.range 3) [.prim .sub [.var 1, .con (.int 1)], .con (.int 0), .prim .neg [.con (.int 1)]] [.expr (.mut .extend 2 [.comp (.tup [.var 5, .prim .add [.var 5, .con (.int 1)]]) (.nm 5) (.range 1) [.var 3] [] [5]])], .asg (.nm 4) (.lst [.call "_law_swaps" [.var 0, .var 1, .con (.int 7)], .call "_law_swaps" [.var 0, .var 1, .con (.int 7)], .prim .tuple [.var 2], .call "_law_swaps" [.var 0, .var 1, .con (.int 1)], .tup []]), .ret (.call "_law_some" [.var 0, .var 4])] }
def c__law_left : Fn := { np := 2, ns := 3, pins := [0, 1], body := [.ret (.comp (.call "_law_run" [.var 1, .var 2]) (.nm 2) .plain [.call "_law_bits" [.var 0]] [] [2])] }
def c__law_is_right : Fn := { np := 1, ns := 12, pins := [0], body := [.asg (.nm 1) (.prim .add [.con (.int 1), .call "_law_draw" [.var 0, .con (.int 5)]]), .par [6, 7] [.call "_law_drawn" [.var 0, .var 1], .call "_law_drawn" [.var 0, .var 1]], .asg (.nm 2) (.call "_law_bits" [.var 1]), .par [8, 9, 10] [.make "Net" [.var 1, .var 6], .make "Net" [.var 1, .var 7], .call "_law_left" [.var 1, .var 6]], .ite (.not (.call "_law_is" [.call "is_idle" [.var 8], .eqc [.var 10, .var 2]])) [.ret (.con (.bl false))] [], .asg (.nm 3) (.call "_law_left" [.var 1, .prim .add [.var 6, .var 6]]), .ite (.not (.call "_law_is" [.call "settles" [.var 8], .eqc [.var 3, .var 10]])) [.ret (.con (.bl false))] [], .asg (.nm 4) (.comp (.call "_law_number" [.var 11]) (.nm 11) .plain [.var 2] [.eqc [.call "_law_run" [.var 6, .var 11], .var 11]] [11]), .ite (.not (.call "_law_is" [.prim .list [.call "kept_rows" [.var 8]], .var 4])) [.ret (.con (.bl false))] [], .asg (.nm 5) (.call "_law_left" [.var 1, .var 7]), .ite (.not (.call "_law_is" [.call "is_finer" [.var 8, .var 9], .prim .all [.comp (.prim .inn [.var 11, .var 5]) (.nm 11) .plain [.var 10] [] [11]]])) [.ret (.con (.bl false))] [], .ite (.not (.call "_law_is" [.call "commute" [.var 8, .var 9], .eqc [.call "_law_left" [.var 1, .prim .add [.var 6, .var 7]], .call "_law_left" [.var 1, .prim .add [.var 7, .var 6]]]])) [.ret (.con (.bl false))] [], .ite (.prim (.notB false) [.call "commute" [.var 8, .make "Net" [.prim .add [.var 1, .con (.int 1)], .var 7]]]) [.ret (.con (.bl false))] [], .ite (.and (.call "is_idle" [.var 8]) (.or (.prim .ne [.prim .len [.call "needless" [.var 8]], .prim .len [.var 6]]) (.prim (.notB true) [.call "settles" [.var 8]]))) [.ret (.con (.bl false))] [], .ret (.or (.prim .ne [.var 3, .var 10]) (.eqc [.prim .sortedSet [.comp (.call "_law_number" [.var 11]) (.nm 11) .plain [.var 10] [] [11]], .var 4]))] }
def c_law : Fn := { np := 1, ns := 6, pins := [0], body := [.asg (.nm 1) (.call "_law_hand" [.var 0]), .par [3, 4] [.make "Net" [.con (.int 3), .tup [.tup [.con (.int 0), .con (.int 1)]]], .make "Net" [.con (.int 3), .tup [.tup [.con (.int 1), .con (.int 2)]]]], .asg (.nm 2) (.lst [.call "settles" [.var 3], .call "is_idle" [.var 3], .prim .list [.call "kept_rows" [.var 3]], .call "commute" [.var 3, .var 4]]), .expr (.mut .append 2 [.call "is_finer" [.make "Net" [.con (.int 2), .tup [.tup [.con (.int 0), .con (.int 1)]]], .make "Net" [.con (.int 2), .tup []]]]), .ite (.not (.call "_law_is" [.var 2, .lst [.con (.bl true), .con (.bl false), .lst [.con (.int 0), .con (.int 1), .con (.int 2), .con (.int 3), .con (.int 6), .con (.int 7)], .con (.bl false), .con (.bl true)]])) [.ret (.con (.bl false))] [], .ite (.or (.prim (.notB true) [.call "commute" [.make "Net" [.con (.int 4), .tup [.tup [.con (.int 0), .con (.int 1)]]], .make "Net" [.con (.int 4), .tup [.tup [.con (.int 2), .con (.int 3)]]]]]) (.prim (.notB true) [.call "settles" [.make "Net" [.con (.int 2), .tup [.tup [.con (.int 0), .con (.int 1)], .tup [.con (.int 1), .con (.int 0)]]]]])) [.ret (.con (.bl false))] [], .ret (.prim .all [.comp (.call "_law_is_right" [.var 1]) (.nm 5) (.range 1) [.con (.int 6)] [] [5]])] }
def fnL : List (Str × Fn) := [("is_integer", c_is_integer), ("is_within", c_is_within), ("is_tuple", c_is_tuple), ("is_sized", c_is_sized), ("are_swaps", c_are_swaps), ("Net.__init__", c_Net__init_), ("Net.__eq__", c_Net__eq_), ("led", c_led), ("power_two", c_power_two), ("ladder", c_ladder), ("needless", c_needless), ("deed", c_deed), ("deed_of", c_deed_of), ("is_idle", c_is_idle), ("settles", c_settles), ("kept_rows", c_kept_rows), ("is_finer", c_is_finer), ("commute", c_commute), ("_law_hand", c__law_hand), ("_law_draw", c__law_draw), ("_law_some", c__law_some), ("_law_is", c__law_is), ("_law_swaps", c__law_swaps), ("_law_bits", c__law_bits), ("_law_run", c__law_run), ("_law_number", c__law_number), ("_law_drawn", c__law_drawn), ("_law_left", c__law_left), ("_law_is_right", c__law_is_right), ("law", c_law)]
def cisL : List (Str × Int) := [("MOST_WIRES", 10), ("MOST_SWAPS", 60)]
def iniL : List (Str × Str) := [("Net", "Net.__init__")]
def eqmL : List (Str × Str) := [("Net", "Net.__eq__")]
def tbl : Tbl := mkTbl fnL cisL iniL eqmL
def top (i : Nat) : Stmt := PySem.Challenge.pw_sortwires_k17_whole_what_nets_do.main.body.getD i (.Pass ⟨0, 0, 0, 0⟩)
def mkD (key : Str) (at_ : Str × Option Str) (nm qual : Str) (st : Stmt) (N : List Str) : DefI := ⟨key, ⟨at_, nm, qual, L2.defArgs st, L2.defBody st, L2.defScope st, [], []⟩, N⟩
def d_is_integer : DefI := mkD "is_integer" ("is_integer", none) "is_integer" "is_integer" (top 4) ["thing"]
def d_is_within : DefI := mkD "is_within" ("is_within", none) "is_within" "is_within" (top 5) ["thing", "least", "most"]
def d_is_tuple : DefI := mkD "is_tuple" ("is_tuple", none) "is_tuple" "is_tuple" (top 6) ["thing", "size"]
def d_is_sized : DefI := mkD "is_sized" ("is_sized", none) "is_sized" "is_sized" (top 7) ["thing", "least", "most"]
def d_are_swaps : DefI := mkD "are_swaps" ("are_swaps", none) "are_swaps" "are_swaps" (top 11) ["thing", "wires", "swap", "wire"]
def d_Net__init_ : DefI := mkD "Net.__init__" ("Net", some "__init__") "__init__" "Net.__init__" (L2.inClass (top 12) 0) ["self", "wires", "swaps"]
def d_Net__eq_ : DefI := mkD "Net.__eq__" ("Net", some "__eq__") "__eq__" "Net.__eq__" (L2.inClass (top 12) 1) ["self", "other"]
def d_led : DefI := mkD "led" ("led", none) "led" "led" (top 14) ["numbers", "swap", "wires", "found", "number", "one", "other", "first", "last", "is_first", "is_last"]
def d_power_two : DefI := mkD "power_two" ("power_two", none) "power_two" "power_two" (top 15) ["exponent", "found", "turn"]
def d_ladder : DefI := mkD "ladder" ("ladder", none) "ladder" "ladder" (top 16) ["net", "found", "swap"]
def d_needless : DefI := mkD "needless" ("needless", none) "needless" "needless" (top 17) ["net", "rows", "found", "at", "swap", "number"]
def d_deed : DefI := mkD "deed" ("deed", none) "deed" "deed" (top 19) ["wires", "swaps", "found", "swap", "number"]
def d_deed_of : DefI := mkD "deed_of" ("deed_of", none) "deed_of" "deed_of" (top 20) ["net"]
def d_is_idle : DefI := mkD "is_idle" ("is_idle", none) "is_idle" "is_idle" (top 21) ["net"]
def d_settles : DefI := mkD "settles" ("settles", none) "settles" "settles" (top 22) ["net", "told", "number"]
def d_kept_rows : DefI := mkD "kept_rows" ("kept_rows", none) "kept_rows" "kept_rows" (top 23) ["net", "told", "number"]
def d_is_finer : DefI := mkD "is_finer" ("is_finer", none) "is_finer" "is_finer" (top 24) ["one", "other", "some", "number"]
def d_commute : DefI := mkD "commute" ("commute", none) "commute" "commute" (top 25) ["one", "other", "first", "last", "at"]
def d__law_hand : DefI := mkD "_law_hand" ("_law_hand", none) "_law_hand" "_law_hand" (top 27) ["script", "cells", "cell"]
def d__law_draw : DefI := mkD "_law_draw" ("_law_draw", none) "_law_draw" "_law_draw" (top 28) ["hand", "many", "number", "cell", "digit"]
def d__law_some : DefI := mkD "_law_some" ("_law_some", none) "_law_some" "_law_some" (top 29) ["hand", "things"]
def d__law_is : DefI := mkD "_law_is" ("_law_is", none) "_law_is" "_law_is" (top 30) ["got", "due", "one", "other"]
def d__law_swaps : DefI := mkD "_law_swaps" ("_law_swaps", none) "_law_swaps" "_law_swaps" (top 31) ["hand", "wires", "most", "turn", "is_any", "found", "one", "other", "pair"]
def d__law_bits : DefI := mkD "_law_bits" ("_law_bits", none) "_law_bits" "_law_bits" (top 32) ["wires", "found", "turn", "longer", "row"]
def d__law_run : DefI := mkD "_law_run" ("_law_run", none) "_law_run" "_law_run" (top 33) ["swaps", "row", "found", "one", "other"]
def d__law_number : DefI := mkD "_law_number" ("_law_number", none) "_law_number" "_law_number" (top 34) ["row", "found", "bit"]
def d__law_drawn : DefI := mkD "_law_drawn" ("_law_drawn", none) "_law_drawn" "_law_drawn" (top 35) ["hand", "wires", "bubbles", "last", "some", "at"]
def d__law_left : DefI := mkD "_law_left" ("_law_left", none) "_law_left" "_law_left" (top 36) ["wires", "swaps", "row"]
def d__law_is_right : DefI := mkD "_law_is_right" ("_law_is_right", none) "_law_is_right" "_law_is_right" (top 37) ["hand", "wires", "rows", "twice", "kept", "last", "one", "other", "net", "more", "left", "row"]
def d_law : DefI := mkD "law" ("law", none) "law" "law" (top 38) ["script", "hand", "told", "one", "other", "turn"]
def defs : List DefI := [d_is_integer, d_is_within, d_is_tuple, d_is_sized, d_are_swaps, d_Net__init_, d_Net__eq_, d_led, d_power_two, d_ladder, d_needless, d_deed, d_deed_of, d_is_idle, d_settles, d_kept_rows, d_is_finer, d_commute, d__law_hand, d__law_draw, d__law_some, d__law_is, d__law_swaps, d__law_bits, d__law_run, d__law_number, d__law_drawn, d__law_left, d__law_is_right, d_law]
def G : Sig := { Γ := tbl, fns := ["is_integer", "is_within", "is_tuple", "is_sized", "are_swaps", "led", "power_two", "ladder", "needless", "deed", "deed_of", "is_idle", "settles", "kept_rows", "is_finer", "commute", "_law_hand", "_law_draw", "_law_some", "_law_is", "_law_swaps", "_law_bits", "_law_run", "_law_number", "_law_drawn", "_law_left", "_law_is_right", "law"], cls := ["Net"], fld := ["swaps", "wires"], bn := ["len", "range", "list", "tuple", "int", "abs", "max", "min", "sum", "sorted", "any", "all", "repr", "isinstance", "enumerate", "zip", "bool", "str", "dict", "set"] }
theorem b_is_integer : ParOk d_is_integer := fun kV doc pm an cdv ct us hl => match us, hl with | [_], _ => rfl
theorem b_is_within : ParOk d_is_within := fun kV doc pm an cdv ct us hl => match us, hl with | [_, _, _], _ => rfl
theorem b_is_tuple : ParOk d_is_tuple := fun kV doc pm an cdv ct us hl => match us, hl with | [_, _], _ => rfl
theorem b_is_sized : ParOk d_is_sized := fun kV doc pm an cdv ct us hl => match us, hl with | [_, _, _], _ => rfl
theorem b_are_swaps : ParOk d_are_swaps := fun kV doc pm an cdv ct us hl => match us, hl with | [_, _], _ => rfl
theorem b_Net__init_ : ParOk d_Net__init_ := fun kV doc pm an cdv ct us hl => match us, hl with | [_, _, _], _ => rfl
theorem b_Net__eq_ : ParOk d_Net__eq_ := fun kV doc pm an cdv ct us hl => match us, hl with | [_, _], _ => rfl
theorem b_led : ParOk d_led := fun kV doc pm an cdv ct us hl => match us, hl with | [_, _, _], _ => rfl
theorem b_power_two : ParOk d_power_two := fun kV doc pm an cdv ct us hl => match us, hl with | [_], _ => rfl
theorem b_ladder : ParOk d_ladder := fun kV doc pm an cdv ct us hl => match us, hl with | [_], _ => rfl
theorem b_needless : ParOk d_needless := fun kV doc pm an cdv ct us hl => match us, hl with | [_], _ => rfl
theorem b_deed : ParOk d_deed := fun kV doc pm an cdv ct us hl => match us, hl with | [_, _], _ => rfl
theorem b_deed_of : ParOk d_deed_of := fun kV doc pm an cdv ct us hl => match us, hl with | [_], _ => rfl
theorem b_is_idle : ParOk d_is_idle := fun kV doc pm an cdv ct us hl => match us, hl with | [_], _ => rfl
theorem b_settles : ParOk d_settles := fun kV doc pm an cdv ct us hl => match us, hl with | [_], _ => rfl
theorem b_kept_rows : ParOk d_kept_rows := fun kV doc pm an cdv ct us hl => match us, hl with | [_], _ => rfl
theorem b_is_finer : ParOk d_is_finer := fun kV doc pm an cdv ct us hl => match us, hl with | [_, _], _ => rfl
theorem b_commute : ParOk d_commute := fun kV doc pm an cdv ct us hl => match us, hl with | [_, _], _ => rfl
theorem b__law_hand : ParOk d__law_hand := fun kV doc pm an cdv ct us hl => match us, hl with | [_], _ => rfl
theorem b__law_draw : ParOk d__law_draw := fun kV doc pm an cdv ct us hl => match us, hl with | [_, _], _ => rfl
theorem b__law_some : ParOk d__law_some := fun kV doc pm an cdv ct us hl => match us, hl with | [_, _], _ => rfl
theorem b__law_is : ParOk d__law_is := fun kV doc pm an cdv ct us hl => match us, hl with | [_, _], _ => rfl
theorem b__law_swaps : ParOk d__law_swaps := fun kV doc pm an cdv ct us hl => match us, hl with | [_, _, _], _ => rfl
theorem b__law_bits : ParOk d__law_bits := fun kV doc pm an cdv ct us hl => match us, hl with | [_], _ => rfl
theorem b__law_run : ParOk d__law_run := fun kV doc pm an cdv ct us hl => match us, hl with | [_, _], _ => rfl
theorem b__law_number : ParOk d__law_number := fun kV doc pm an cdv ct us hl => match us, hl with | [_], _ => rfl
theorem b__law_drawn : ParOk d__law_drawn := fun kV doc pm an cdv ct us hl => match us, hl with | [_, _], _ => rfl
theorem b__law_left : ParOk d__law_left := fun kV doc pm an cdv ct us hl => match us, hl with | [_, _], _ => rfl
theorem b__law_is_right : ParOk d__law_is_right := fun kV doc pm an cdv ct us hl => match us, hl with | [_], _ => rfl
theorem b_law : ParOk d_law := fun kV doc pm an cdv ct us hl => match us, hl with | [_], _ => rfl
theorem bs_ : ∀ i ∈ defs, ParOk i := by
  intro i hi
  simp only [defs, List.mem_cons, List.not_mem_nil, or_false] at hi
  rcases hi with rfl | rfl | rfl | rfl | rfl | rfl | rfl | rfl | rfl | rfl | rfl | rfl | rfl | rfl | rfl | rfl | rfl | rfl | rfl | rfl | rfl | rfl | rfl | rfl | rfl | rfl | rfl | rfl | rfl | rfl
  · exact b_is_integer
  · exact b_is_within
  · exact b_is_tuple
  · exact b_is_sized
  · exact b_are_swaps
  · exact b_Net__init_
  · exact b_Net__eq_
  · exact b_led
  · exact b_power_two
  · exact b_ladder
  · exact b_needless
  · exact b_deed
  · exact b_deed_of
  · exact b_is_idle
  · exact b_settles
  · exact b_kept_rows
  · exact b_is_finer
  · exact b_commute
  · exact b__law_hand
  · exact b__law_draw
  · exact b__law_some
  · exact b__law_is
  · exact b__law_swaps
  · exact b__law_bits
  · exact b__law_run
  · exact b__law_number
  · exact b__law_drawn
  · exact b__law_left
  · exact b__law_is_right
  · exact b_law
theorem chk_ : (defs.all (defC G)) = true := by decide +kernel
theorem txt_ : textC G defs fnL iniL eqmL = true := by decide +kernel
theorem ok_ : TextOk G defs := textOk_of rfl (List.all_eq_true.mp chk_) bs_ txt_
abbrev R : PySem.W.OpenRow := PySem.W.OpenLaw.row PySem.Challenge.rw_sortwires_k17_whole_what_nets_do
def fa : List He.Fa := faOf G cisL (eqmL.map (·.1))
def fn : List He.DefD := defs.map (·.d)
abbrev hk : PySem.W.Hook := He.hookX 8 fa fn [] [] (exOf G)
def ob (s : PySem.W.SharedT) : He.AlX := He.obsX 8 fa fn [] [] (exOf G) (HandSHeadRun.getT s)
theorem ob_eq (s : PySem.W.SharedT) : ob s = hk.obs s.abs := He.obsX_eq (HandSHeadRun.getT_eq s)
def loose : List Str := [("__name__" : Str), ("WireError" : Str), ("BadNet" : Str), ("is_integer" : Str), ("is_within" : Str), ("is_tuple" : Str), ("is_sized" : Str), ("MOST_WIRES" : Str), ("MOST_SWAPS" : Str), ("are_swaps" : Str), ("Net" : Str), ("led" : Str), ("power_two" : Str), ("ladder" : Str), ("needless" : Str), ("deed" : Str), ("deed_of" : Str), ("is_idle" : Str), ("settles" : Str), ("kept_rows" : Str), ("is_finer" : Str), ("commute" : Str), ("_law_hand" : Str), ("_law_draw" : Str), ("_law_some" : Str), ("_law_is" : Str), ("_law_swaps" : Str), ("_law_bits" : Str), ("_law_run" : Str), ("_law_number" : Str), ("_law_drawn" : Str), ("_law_left" : Str), ("_law_is_right" : Str)]
theorem run (w : World) : HandSHeadRun.RunEq R (PySem.W.view R.prog [38]) hk ob 4000 loose w := by
  intro os
  kernel_rfl
end Lw

set_option maxRecDepth 100000
set_option maxHeartbeats 0
set_option linter.all false
namespace Lw
open PySem Rx
theorem k17 : K17l tbl (dB2 43 48271 2147483647 40692 2147483399) := { pow := rfl, led := rfl, deed := rfl, dof := rfl, idle := rfl, stl := rfl, kept := rfl, finer := rfl, com := rfl, chk := ⟨rfl, rfl, rfl, rfl⟩, net := ⟨rfl, rfl, rfl, rfl, rfl⟩, draw := drw2 rfl (by decide) (by decide) (by decide) (by decide) (by decide), smm := rfl, is := rfl, swaps := rfl, bits := rfl, lrun := rfl, num := rfl, drawn := rfl, left := rfl, ladder := rfl, needless := rfl, hand := rfl, right := rfl, law := rfl }
theorem plain (ns : List Int) (h : ns.length ≤ 63) : ∃ outs, callF tbl 50 "law" [.fz (.scr ns)] = .ok (.fz (.bl true), outs) := law17 k17 42 ns h
end Lw
open PySem PySem.W PySem.Calls PyProof.Rows
theorem PySem.Challenge.cw_sortwires_k17_whole_what_nets_do_holds : PySem.Challenge.rw_sortwires_k17_whole_what_nets_do.Holds := by
  w_on; o_law
  refine HandSHeadRun.head_any (r := OpenLaw.row PySem.Challenge.rw_sortwires_k17_whole_what_nets_do) (q := view (OpenLaw.row PySem.Challenge.rw_sortwires_k17_whole_what_nets_do).prog [38]) (H := Lw.hk) (ob := Lw.ob) (M := 4000) (loose := Lw.loose) (d := HandSHeadRun.topDef (OpenLaw.row PySem.Challenge.rw_sortwires_k17_whole_what_nets_do).prog 38) (kwd := []) Lw.ob_eq
    (by kernel_rfl) (fun s => by kernel_rfl) Lw.run (by kernel_rfl) (by kernel_rfl) (by kernel_rfl) (by rfl) (by first | assumption | decide +kernel) (by decide +kernel) ⟨rfl, rfl, rfl, rfl, rfl, by decide +kernel⟩ ?hw ?hc
  case hw => w_witness2
  case hc =>
    refine Rx.walkX (l := PySem.Challenge.rw_sortwires_k17_whole_what_nets_do) (n := 63) (m := 50) (x := "script") (G := Lw.G) (defs := Lw.defs) rfl (by decide) (by kernel_rfl) ⟨rfl, by decide, by decide⟩ Lw.ok_ Lw.d_law (by unfold Lw.defs; simp) (by decide +kernel) (by kernel_rfl) (by decide +kernel) (fun w mg h Y ns => ?_) Lw.plain
    obtain ⟨K, kin, s⟩ := Y
    exact ⟨K, kin, Rx.told_by rfl Lw.ok_ kin ns s⟩

