import PyProof.Rows.All
import Wide.All
import OpenK.AllK
import Wide.FinOn
import KE.KTryMore
import PyProof.ExcInit
import PyProof.ExcClass3
import PyProof.ExcBaseAll.Exception
import PyProof.InstStoreFacts
import PySem.Challenge.RW_on0046_01
set_option Elab.async false
set_option linter.all false
set_option autoImplicit false
set_option tactic.hygienic false
set_option maxRecDepth 100000
set_option genInjectivity false
set_option genSizeOf false
set_option backward.match.sparseCases false
open PySem in
noncomputable abbrev Mine.VP := Value → Shared → Prop
noncomputable abbrev Mine.SE := PySem.Env
noncomputable abbrev Mine.PE := PySem.Expr
theorem Mine.mmo {α β : Type} {l : List α} {a : α} {f : α → β} (h : a ∈ l) : f a ∈ l.map f := List.mem_map_of_mem h
theorem Mine.mmp {α β : Type} {b : β} {f : α → β} {l : List α} (h : b ∈ l.map f) : ∃ a, a ∈ l ∧ f a = b := List.mem_map.mp h
theorem Mine.nbe {n m : Nat} (h : n.beq m = true) : n = m := Nat.eq_of_beq_eq_true h
theorem Mine.nle {n m : Nat} (h : n.ble m = true) : n ≤ m := Nat.le_of_ble_eq_true h
theorem Mine.gps {h : PySem.Heap} {a : PySem.Addr} {o' : PySem.Obj} (o : PySem.Obj) (e : h.get? a = some o') : (h.push o).get? a = some o' := PySem.Heap.get?_push_of_some o e
theorem Mine.obe {α β : Type} {b : α} {x : Option β} {f : β → Option α} (h : x.bind f = some b) : ∃ a, x = some a ∧ f a = some b := Option.bind_eq_some_iff.mp h
section
open PySem
namespace Mine
theorem noS {α : Type} {x : α} {P : Prop} (h : (none : Option α) = some x) : P := nomatch h
theorem noB {P : Prop} (h : false = true) : P := nomatch h
theorem sI {α : Type} {a b : α} (h : some a = some b) : a = b := Option.some.inj h
inductive VK | loc | cel | glo
inductive Bop | add | sub | mul | fdiv | mod | pow
mutual
inductive Ex
 | cn | cb (b : Bool) | ci (i : Int) | cs (s : Nat) | cy (b : List Nat) | neg (e : Ex)
 | v (k : VK) (x : Nat)
 | tup (es : List Ex) | lst (m : Bool) (es : List Ex) | dct (m : Bool) (ks : List Nat) (es : List Ex)
 | bin (op : Bop) (a b : Ex) | cmp (op : CmpOp) (a b : Ex) | cmp2 (o p : CmpOp) (a b c : Ex)
 | and_ (es : List Ex) | or_ (es : List Ex) | not_ (a : Ex) | ite (c a b : Ex)
 | sub (o i : Ex) | slc (o : Ex) (l h : Option Ex) | att (o : Ex) (n : Nat)
 | call (f : Ex) (es : List Ex) | meth (o : Ex) (n : Nat) (es : List Ex) | tenm (e : Ex)
 | comp (elt : Ex) (ts : List Nat) (tt : Bool) (src : Src) (cond : Option Ex)
 | lam | dead
inductive Src
 | seq (e : Ex) | rng (e : Ex) | enm (e : Ex) | zip (a b : Ex)
end
inductive Tg
 | loc (x : Nat) | cel (x : Nat) | att (o : Ex) (n : Nat) | sub (o i : Ex) | tup (ts : List (VK × Nat))
inductive Sm
 | asg (t : Tg) (e : Ex) | ret (e : Ex) | ret0 | ife (c : Ex) (a b : List Sm) | whl (c : Ex) (b : List Sm)
 | for_ (ts : List Nat) (tt : Bool) (src : Src) (b : List Sm) | exp (e : Ex) | rse (c : Nat) (es : List Ex)
 | try_ (b : List Sm) (c : Nat) (n : Option Nat) (h : List Sm) | pass | dead
inductive B | len | int | max | min | tuple | list | isinst | str
inductive Ty | bool | bytes
inductive V
 | none | bool (b : Bool) | int (i : Int) | str (s : Nat) | txt (n : Nat) | bytes (b : List Nat)
 | tup (xs : List V) | lst (xs : List V) | dct (kvs : List (Nat × V)) | fob (c : Nat) (kvs : List (Nat × V))
 | fn (f : Nat) | cls (c : Nat) | blt (b : B) | typ (t : Ty) | lam
 | ref (j : Nat) | obj (c : Nat) (j : Nat)
 | tok (t : Bool) (i : Nat)
inductive SO | lst (xs : List V) | dct (kvs : List (Nat × V))
noncomputable abbrev Store := List SO
inductive Mode | keep | drop | freeze
structure Fn where
 params : List Nat
 dfl : List V := []
 cells : List Nat := []
 mode : Mode := .drop
 body : List Sm
structure Env where
 locs : List (Nat × V)
 cels : List (Nat × V)
inductive Res
 | ok (v : V) (σ : Store) | oks (vs : List V) (σ : Store) | nxt (en : Env) (σ : Store) | ret (v : V) (σ : Store) | exc (c : Nat) (σ : Store) | bad
inductive Task
 | e (en : Env) (x : Ex) (σ : Store)
 | es (en : Env) (xs : List Ex) (σ : Store)
 | t (en : Env) (x : Ex) (σ : Store)
 | src (en : Env) (x : Src) (σ : Store)
 | b (en : Env) (ss : List Sm) (σ : Store)
 | call (f : V) (as : List V) (σ : Store)
 | for_ (en : Env) (ts : List Nat) (tt : Bool) (items : List V) (body : List Sm) (σ : Store)
 | comp (en : Env) (elt : Ex) (ts : List Nat) (tt : Bool) (cond : Option Ex) (items : List V) (acc : List V) (σ : Store)
 | whl (en : Env) (c : Ex) (body : List Sm) (σ : Store)
noncomputable def decF : Nat → Nat → List Nat
 | 0, _ => []
 | f + 1, n => match n with
  | 0 => []
  | n + 1 => (n + 1) % 256 :: decF f ((n + 1) / 256)
noncomputable def dec (n : Nat) : List Nat := decF (n + 1) n
noncomputable def encL : List Nat → Nat
 | [] => 0
 | c :: r => c + 256 * encL r
noncomputable def slen (n : Nat) : Nat := (dec n).length
noncomputable def nref : Nat → Nat → V → Bool
 | 0, _, _ => false
 | f + 1, n, v => match v with
  | .tup xs | .lst xs => xs.all (nref f n)
  | .dct kvs | .fob _ kvs => kvs.all fun p => nref f n p.2
  | .ref j | .obj _ j => Nat.blt j n
  | _ => true
noncomputable def nrefO (n : Nat) : SO → Bool
 | .lst xs => xs.all (nref 12 n)
 | .dct kvs => kvs.all fun p => nref 12 n p.2
noncomputable def lookN (x : Nat) : List (Nat × V) → Option V
 | [] => none
 | (y, v) :: r => match Nat.beq x y with
  | true => some v
  | false => lookN x r
noncomputable def putN (x : Nat) (v : V) : List (Nat × V) → List (Nat × V)
 | [] => [(x, v)]
 | (y, u) :: r => match Nat.beq x y with
  | true => (y, v) :: r
  | false => (y, u) :: putN x v r
noncomputable def dctAt (σ : Store) (j : Nat) : Option (List (Nat × V)) := match σ[j]? with
 | some (.dct kvs) => some kvs
 | _ => none
noncomputable def lstAt (σ : Store) (j : Nat) : Option (List V) := match σ[j]? with
 | some (.lst xs) => some xs
 | _ => none
noncomputable def ifO {α : Type} (c : Bool) (a b : Option α) : Option α := match c with
 | true => a
 | false => b
noncomputable def orO {α β : Type} (o : Option α) (k : α → Option β) (d : Option β) : Option β := match o with
 | some x => k x
 | none => d
mutual
noncomputable def frz : Nat → Store → Nat → V → Option V
 | 0, _, _, _ => none
 | f + 1, σ, n, v => match v with
  | .tup xs => (frzL f σ n xs).map .tup
  | .lst xs => (frzL f σ n xs).map .lst
  | .dct kvs => (frzD f σ n kvs).map .dct
  | .fob c kvs => (frzD f σ n kvs).map (.fob c)
  | .ref j => ifO (Nat.blt j n) (some (.ref j)) (orO (lstAt σ j) (fun xs => (frzL f σ n xs).map .lst) ((dctAt σ j).bind fun kvs => (frzD f σ n kvs).map .dct))
  | .obj c j => ifO (Nat.blt j n) (some (.obj c j)) ((dctAt σ j).bind fun kvs => (frzD f σ n kvs).map (.fob c))
  | v => some v
noncomputable def frzL : Nat → Store → Nat → List V → Option (List V)
 | 0, _, _, _ => none
 | _ + 1, _, _, [] => some []
 | f + 1, σ, n, x :: r => (frz f σ n x).bind fun y => (frzL f σ n r).map (y :: ·)
noncomputable def frzD : Nat → Store → Nat → List (Nat × V) → Option (List (Nat × V))
 | 0, _, _, _ => none
 | _ + 1, _, _, [] => some []
 | f + 1, σ, n, p :: r => (frz f σ n p.2).bind fun y => (frzD f σ n r).map ((p.1, y) :: ·)
end
mutual
noncomputable def eqV : Nat → V → V → Option Bool
 | 0, _, _ => none
 | f + 1, a, b => match a, b with
  | .none, .none => some true
  | .bool x, .bool y => some (x == y)
  | .int x, .int y => some (x == y)
  | .str x, .str y => some (Nat.beq x y)
  | .bytes x, .bytes y => some (x == y)
  | .tup xs, .tup ys => eqL f xs ys
  | .str _, .tup _ => some false
  | .tup _, .str _ => some false
  | .tok t i, .tok t' j => match Nat.beq i j && (Nat.ble 12 f && t == t') with
   | true => some true
   | false => none
  | .str _, .tok true _ => some false
  | .tok true _, .str _ => some false
  | _, _ => none
noncomputable def eqL : Nat → List V → List V → Option Bool
 | 0, _, _ => none
 | _ + 1, [], [] => some true
 | _ + 1, [], _ :: _ => some false
 | _ + 1, _ :: _, [] => some false
 | f + 1, x :: xs, y :: ys => match eqV f x y, eqL f xs ys with
  | some a, some b => some (a && b)
  | _, _ => none
end
noncomputable def strE (k : Nat) : V → Option Bool
 | .str s => some (Nat.beq s k)
 | .tup _ => some false
 | .tok true _ => some false
 | _ => none
noncomputable def anyS (k : Nat) : List V → Option Bool
 | [] => some false
 | y :: r => match strE k y with
  | some a => (anyS k r).map (a || ·)
  | none => none
noncomputable def isLst (σ : Store) : V → Option (List V)
 | .lst xs => some xs
 | .ref j => lstAt σ j
 | _ => none
noncomputable def seqOf (σ : Store) : V → Option (List V)
 | .tup xs => some xs
 | v => isLst σ v
noncomputable def seqI : V → Option (List V)
 | .tup xs => some xs
 | .lst xs => some xs
 | _ => none
noncomputable def dctOf (σ : Store) : V → Option (List (Nat × V))
 | .dct kvs => some kvs
 | .ref j => dctAt σ j
 | _ => none
noncomputable def attOf (σ : Store) : V → Option (List (Nat × V))
 | .fob _ kvs => some kvs
 | .obj _ j => dctAt σ j
 | _ => none
noncomputable def oko (v : Option V) (σ : Store) : Res := match v with
 | some v => .ok v σ
 | none => .bad
noncomputable def place (i : Int) (n : Nat) : Option Nat := match i with
 | .ofNat k => match Nat.blt k n && Nat.blt k 1000000 with
  | true => some k
  | false => none
 | .negSucc k => match Nat.blt k n && Nat.blt k 1000000 with
  | true => some (n - (k + 1))
  | false => none
noncomputable def chr1 : Option Nat → Option V
 | some (c + 1) => some (.str (c + 1))
 | _ => none
noncomputable def bnd (i : Int) (n : Nat) : Nat := match i with
 | .ofNat k => min k n
 | .negSucc k => n - (k + 1)
noncomputable def okIf (c : Bool) (v : V) (σ : Store) : Res := match c with
 | true => .ok v σ
 | false => .bad
noncomputable def needO {α : Type} (o : Option α) (k : α → Res) : Res := match o with
 | some x => k x
 | none => .bad
noncomputable def elseO {α : Type} (o : Option α) (k : α → Res) (d : Res) : Res := match o with
 | some x => k x
 | none => d
noncomputable def ifB (c : Bool) (x y : Res) : Res := match c with
 | true => x
 | false => y
noncomputable def intV : V → Option Int
 | .int i => some i
 | _ => none
noncomputable def boolV : V → Option Bool
 | .bool b => some b
 | _ => none
noncomputable def strV : V → Option Nat
 | .str s => some s
 | _ => none
noncomputable def tupV : V → Option (List V)
 | .tup xs => some xs
 | _ => none
noncomputable def natI : Int → Option Nat
 | .ofNat n => some n
 | _ => none
noncomputable def tlen : V → Option Nat
 | .str x => some (slen x)
 | .txt m => some m
 | _ => none
noncomputable def str2 (a b : V) : Option (Nat × Nat) := (strV a).bind fun x => (strV b).map fun y => (x, y)
noncomputable def bin (op : Bop) (a b : V) (σ : Store) : Res := match op with
 | .add => elseO (intV a) (fun x => needO (intV b) fun y => .ok (.int (x + y)) σ)
   (elseO (tlen a) (fun m => needO (tlen b) fun k => elseO (str2 a b) (fun p => okIf (Nat.ble (slen p.1 + slen p.2) 10000) (.str (encL (dec p.1 ++ dec p.2))) σ) (okIf (Nat.ble (m + k) 10000) (.txt (m + k)) σ))
    (elseO (tupV a) (fun xs => needO (tupV b) fun ys => okIf (Nat.ble (xs.length + ys.length) 10000) (.tup (xs ++ ys)) σ)
     (needO (isLst σ a) fun xs => needO (isLst σ b) fun ys => okIf (Nat.ble (xs.length + ys.length) 10000) (.lst (xs ++ ys)) σ)))
 | .sub => needO (intV a) fun x => needO (intV b) fun y => .ok (.int (x - y)) σ
 | .mul => needO (intV b) fun y => elseO (intV a) (fun x => okIf (decide (y.natAbs < 9223372036854775808)) (.int (x * y)) σ)
   (needO (isLst σ a) fun xs => okIf (decide (0 ≤ y ∧ y ≤ 8 ∧ xs.length ≤ 1000)) (.lst (List.replicate y.toNat xs).flatten) σ)
 | .fdiv => needO (intV a) fun x => needO (intV b) fun y => okIf (decide (0 < y)) (.int (Int.fdiv x y)) σ
 | .mod => needO (intV a) fun x => needO (intV b) fun y => okIf (decide (0 < y)) (.int (Int.fmod x y)) σ
 | .pow => needO (intV a) fun x => needO (intV b) fun y => needO (natI x) fun x => needO (natI y) fun y => okIf (Nat.ble x 10 && Nat.ble y 600) (.int (x ^ y : Nat)) σ
noncomputable def nilE : List V → List V → Option Bool
 | [], [] => some true
 | [], _ :: _ => some false
 | _ :: _, [] => some false
 | _ :: _, _ :: _ => none
noncomputable def plainV : V → Bool
 | .bytes _ | .tok _ _ => false
 | _ => true
noncomputable def cmpE (a b : V) (σ : Store) : Option Bool := match isLst σ a with
 | some xs => (isLst σ b).bind fun ys => nilE xs ys
 | none => match plainV a && plainV b with
  | true => eqV 40 a b
  | false => none
noncomputable def inE (a b : V) (σ : Store) : Option Bool := (strV a).bind fun k => match dctOf σ b with
 | some kvs => some (lookN k kvs).isSome
 | none => (seqOf σ b).bind fun xs => anyS k xs
noncomputable def isN : V → Option Bool
 | .none => some true
 | .tok _ _ => none
 | _ => some false
noncomputable def int2 (a b : V) (k : Int → Int → Bool) : Option Bool := (intV a).bind fun x => (intV b).bind fun y => some (k x y)
noncomputable def noneV : V → Option Unit
 | .none => some ()
 | _ => none
noncomputable def cmp (op : CmpOp) (a b : V) (σ : Store) : Option Bool := match op with
 | .Eq => cmpE a b σ
 | .NotEq => (cmpE a b σ).map not
 | .Lt => int2 a b fun x y => decide (x < y)
 | .LtE => int2 a b fun x y => decide (x ≤ y)
 | .Gt => int2 a b fun x y => decide (y < x)
 | .GtE => int2 a b fun x y => decide (y ≤ x)
 | .Is => (noneV b).bind fun z_ => isN a
 | .IsNot => (noneV b).bind fun z_ => (isN a).map not
 | .In => inE a b σ
 | .NotIn => (inE a b σ).map not
noncomputable def sub (o i : V) (σ : Store) : Option V := match intV i with
 | some i => match strV o with
  | some s => (place i (slen s)).bind fun k => chr1 (dec s)[k]?
  | none => (seqOf σ o).bind fun xs => (place i xs.length).bind fun k => xs[k]?
 | none => (strV i).bind fun k => (dctOf σ o).bind fun kvs => lookN k kvs
noncomputable def lo_ (l : Option Int) (n : Nat) : Nat := match l with
 | some i => bnd i n
 | none => 0
noncomputable def hi_ (h : Option Int) (n : Nat) : Nat := match h with
 | some i => bnd i n
 | none => n
noncomputable def cutV (l h : Option Int) (xs : List V) : Option (List V) := match Nat.ble xs.length 1000000 with
 | true => some ((xs.drop (lo_ l xs.length)).take (hi_ h xs.length - lo_ l xs.length))
 | false => none
noncomputable def one1 : Option Int → Option Int → Bool
 | none, some i => decide (i = 1)
 | _, _ => false
noncomputable def bndV : V → Option (Option Int)
 | .int i => some (some i)
 | .none => some none
 | _ => none
noncomputable def slc (o : V) (l h : Option Int) (σ : Store) : Option V := match strV o with
 | some s => match one1 l h with
  | true => chr1 (some (s % 256))
  | false => none
 | none => match tupV o with
  | some xs => (cutV l h xs).map .tup
  | none => (isLst σ o).bind fun xs => (cutV l h xs).map .lst
noncomputable def mkM (c n : Nat) : Nat := encL (dec c ++ 46 :: dec n)
noncomputable def numerate (k : Nat) : List V → List V
 | [] => []
 | x :: r => .tup [.int k, x] :: numerate (k + 1) r
noncomputable def zipV : List V → List V → List V
 | x :: xs, y :: ys => .tup [x, y] :: zipV xs ys
 | _, _ => []
noncomputable def rangeV (k : Nat) : Nat → List V
 | 0 => []
 | n + 1 => .int k :: rangeV (k + 1) n
noncomputable def sole : List V → Option V
 | [v] => some v
 | _ => none
noncomputable def pair : List V → Option (V × V)
 | [a, b] => some (a, b)
 | _ => none
noncomputable def isiX : V → Option Nat
 | .int _ => some 0
 | .bytes _ => some 1
 | _ => none
noncomputable def isiT : V → Option Nat
 | .blt .int => some 0
 | .typ .bool => some 1
 | .typ .bytes => some 2
 | _ => none
noncomputable def callB (b : B) (as : List V) (σ : Store) : Res := match b with
 | .len => needO (sole as) fun x => needO (seqOf σ x) fun xs => okIf (Nat.ble xs.length 10000) (.int xs.length) σ
 | .int => needO (sole as) fun x => elseO (intV x) (fun i => .ok (.int i) σ) (needO (boolV x) fun b => .ok (.int (if b then 1 else 0)) σ)
 | .max => needO (pair as) fun p => needO (intV p.1) fun x => needO (intV p.2) fun y => .ok (.int (if x < y then y else x)) σ
 | .min => needO (pair as) fun p => needO (intV p.1) fun x => needO (intV p.2) fun y => .ok (.int (if y < x then y else x)) σ
 | .tuple => needO (sole as) fun x => needO (isLst σ x) fun xs => okIf (Nat.ble xs.length 10000) (.tup xs) σ
 | .list => needO (sole as) fun x => needO (tupV x) fun xs => okIf (Nat.ble xs.length 10000) (.lst xs) σ
 | .isinst => needO (pair as) fun p => needO (isiX p.1) fun i => needO (isiT p.2) fun j => .ok (.bool (Nat.beq (2 * i) j)) σ
 | .str => needO (sole as) fun x => needO (intV x) fun i => needO (natI i) fun k => okIf (Nat.ble k 9) (.str (48 + k)) σ
noncomputable def bindP : List Nat → List V → List V → Option (List (Nat × V))
 | [], [], _ => some []
 | [], _ :: _, _ => none
 | p :: ps, a :: as, d => (bindP ps as d).map ((p, a) :: ·)
 | p :: ps, [], d => match d.drop (d.length - (ps.length + 1)) with
  | v :: _ => match Nat.ble (ps.length + 1) d.length with
   | true => (bindP ps [] d).map ((p, v) :: ·)
   | false => none
  | [] => none
noncomputable def inL (x : Nat) : List Nat → Bool
 | [] => false
 | y :: r => Nat.beq x y || inL x r
noncomputable def mkEnv (cells : List Nat) (bs : List (Nat × V)) : Env :=
 ⟨bs.filter fun p => !inL p.1 cells, bs.filter fun p => inL p.1 cells⟩
noncomputable def endFn (mode : Mode) (n : Nat) (v : V) (σ : Store) : Res := match mode with
 | .keep => .ok v σ
 | .drop => okIf (nref 12 n v && (σ.take n).all (nrefO n)) v (σ.take n)
 | .freeze => needO (frz 40 σ n v) fun v => okIf ((σ.take n).all (nrefO n)) v (σ.take n)
noncomputable def Res.bind (r : Res) (k : V → Store → Res) : Res := match r with
 | .ok v σ => k v σ
 | .exc c σ => .exc c σ
 | _ => .bad
noncomputable def Res.binds (r : Res) (k : List V → Store → Res) : Res := match r with
 | .oks v σ => k v σ
 | .exc c σ => .exc c σ
 | _ => .bad
structure Glob where
 fns : List (Nat × Fn)
 tfn : List Nat
 cls : List Nat
 vals : List (Nat × V)
 hook : Nat → List V → Store → Option (Nat × Res) := fun z_ z_ z_ => none
noncomputable def glo (G : Glob) (x : Nat) : Option V := match inL x G.tfn with
 | true => some (.fn x)
 | false => match inL x G.cls with
  | true => some (.cls x)
  | false => lookN x G.vals
noncomputable def look (G : Glob) (en : Env) (k : VK) (x : Nat) : Option V := match k with
 | .loc => lookN x en.locs
 | .cel => lookN x en.cels
 | .glo => glo G x
noncomputable def setV (en : Env) (k : VK) (x : Nat) (v : V) : Env := match k with
 | .cel => { en with cels := (x, v) :: en.cels }
 | _ => { en with locs := (x, v) :: en.locs }
noncomputable def setAll (en : Env) : List (VK × Nat) → List V → Option Env
 | [], [] => some en
 | (k, x) :: r, v :: vs => setAll (setV en k x v) r vs
 | _, _ => none
noncomputable def bind2 (locs : List (Nat × V)) : List Nat → List V → Option (List (Nat × V))
 | [x, y], [a, b] => some ((y, b) :: (x, a) :: locs)
 | [x, y, z], [a, b, c] => some ((z, c) :: (y, b) :: (x, a) :: locs)
 | _, _ => none
noncomputable def bindT (locs : List (Nat × V)) (ts : List Nat) (tt : Bool) (v : V) : Option (List (Nat × V)) := match tt with
 | false => match ts with
  | [x] => some ((x, v) :: locs)
  | _ => none
 | true => (tupV v).bind fun vs => bind2 locs ts vs
noncomputable def fnOf (G : Glob) (f : Nat) : List (Nat × Fn) → Option Fn
 | [] => none
 | (y, g) :: r => match Nat.beq f y with
  | true => some g
  | false => fnOf G f r
noncomputable def upD (σ : Store) (j : Nat) (k : Nat) (v : V) (kvs : List (Nat × V)) : Option Store := match Nat.ble kvs.length 500 with
 | true => some (σ.set j (.dct (putN k v kvs)))
 | false => none
noncomputable def upL (σ : Store) (j : Nat) (i : Nat) (v : V) (xs : List V) : Option Store := match place (.ofNat i) xs.length with
 | some k => some (σ.set j (.lst (xs.set k v)))
 | none => none
noncomputable def refV : V → Option Nat
 | .ref j => some j
 | _ => none
noncomputable def objV : V → Option Nat
 | .obj _ j => some j
 | _ => none
noncomputable def clsOf : V → Option Nat
 | .fob c _ => some c
 | .obj c _ => some c
 | _ => none
noncomputable def upS (σ : Store) (j : Nat) (y v : V) : Option Store := match strV y with
 | some k => (dctAt σ j).bind fun kvs => upD σ j k v kvs
 | none => (intV y).bind fun i => (natI i).bind fun i => (lstAt σ j).bind fun xs => upL σ j i v xs
noncomputable def clsM (G : Glob) (σ : Store) (n : Nat) (x : V) : Option Nat := (clsOf x).bind fun c => (attOf σ x).bind fun kvs => match lookN n kvs, fnOf G (mkM c n) G.fns with
 | none, some _ => some (mkM c n)
 | _, _ => none
noncomputable def mkLst (m : Bool) (vs : List V) (σ : Store) : Res := match m with
 | true => .ok (.ref σ.length) (σ ++ [.lst vs])
 | false => .ok (.lst vs) σ
noncomputable def mkDct (m : Bool) (kvs : List (Nat × V)) (σ : Store) : Res := match m with
 | true => .ok (.ref σ.length) (σ ++ [.dct kvs])
 | false => .ok (.dct kvs) σ
noncomputable def optE (r : Task → Res) (en : Env) (x : Option Ex) (σ : Store) : Res := match x with
 | none => .ok .none σ
 | some l => r (.e en l σ)
noncomputable def optT (r : Task → Res) (en : Env) (x : Option Ex) (σ : Store) : Res := match x with
 | none => .ok (.bool true) σ
 | some l => r (.t en l σ)
noncomputable def one8 : List Nat → Option Nat
 | [c] => some c
 | _ => none
noncomputable def nilX : List Ex → Bool
 | [] => true
 | _ => false
noncomputable def methS (n s : Nat) (es : List Ex) (σ : Store) : Res := needO (one8 (dec s)) fun c => okIf (nilX es && (Nat.beq n 32199680942502761 && Nat.ble c 127)) (.bool (Nat.ble 65 c && Nat.ble c 90)) σ
noncomputable def methL (n j : Nat) (v : V) (xs : List V) (σ : Store) : Res := match Nat.beq n 110425311047777 with
 | true => okIf (Nat.ble xs.length 10000) .none (σ.set j (.lst (xs ++ [v])))
 | false => needO (isLst σ v) fun ys => okIf (Nat.ble (xs.length + ys.length) 10000) .none (σ.set j (.lst (xs ++ ys)))
noncomputable def hndl (n : Option Nat) (h : List Sm) : Option Nat := match n, h with
 | none, [.ret (.cs s)] => some s
 | _, _ => none
noncomputable def third : List V → Option V
 | _ :: _ :: x :: _ => some x
 | _ => none
noncomputable def mid3 : List V → Option V
 | [_, t, _] => some t
 | _ => none
noncomputable def lamA (vs : List V) : Option V := (mid3 vs).bind fun t => (tupV t).bind third
noncomputable def step (G : Glob) (r : Task → Res) : Task → Res
 | .e en x σ => match x with
  | .cn => .ok .none σ
  | .cb b => .ok (.bool b) σ
  | .ci i => .ok (.int i) σ
  | .cs s => .ok (.str s) σ
  | .cy b => .ok (.bytes b) σ
  | .neg e => (r (.e en e σ)).bind fun v σ => needO (intV v) fun i => .ok (.int (-i)) σ
  | .v k x => oko (look G en k x) σ
  | .tup es => (r (.es en es σ)).binds fun vs σ => .ok (.tup vs) σ
  | .lst m es => (r (.es en es σ)).binds fun vs σ => mkLst m vs σ
  | .dct m ks es => match es with
   | [] => mkDct m [] σ
   | e :: es => (r (.es en (e :: es) σ)).binds fun vs σ => mkDct m (ks.zip vs) σ
  | .bin op a b => (r (.e en a σ)).bind fun x σ => (r (.e en b σ)).bind fun y σ => bin op x y σ
  | .cmp op a b => (r (.e en a σ)).bind fun x σ => (r (.e en b σ)).bind fun y σ => oko ((cmp op x y σ).map .bool) σ
  | .cmp2 o p a b c => (r (.e en a σ)).bind fun x σ => (r (.e en b σ)).bind fun y σ => needO (cmp o x y σ) fun d => ifB d ((r (.e en c σ)).bind fun z σ => oko ((cmp p y z σ).map .bool) σ) (.ok (.bool false) σ)
  | .and_ es => match es with
   | [] => .bad
   | [e] => r (.e en e σ)
   | e :: es => (r (.e en e σ)).bind fun v σ => needO (boolV v) fun c => ifB c (r (.e en (.and_ es) σ)) (.ok (.bool false) σ)
  | .or_ es => match es with
   | [] => .bad
   | [e] => r (.e en e σ)
   | e :: es => (r (.e en e σ)).bind fun v σ => needO (boolV v) fun c => ifB c (.ok (.bool true) σ) (r (.e en (.or_ es) σ))
  | .not_ a => (r (.e en a σ)).bind fun v σ => needO (boolV v) fun c => .ok (.bool (!c)) σ
  | .ite c a b => (r (.t en c σ)).bind fun v σ => needO (boolV v) fun c => ifB c (r (.e en a σ)) (r (.e en b σ))
  | .sub o i => (r (.e en o σ)).bind fun x σ => (r (.e en i σ)).bind fun y σ => oko (sub x y σ) σ
  | .slc o l h => (r (.e en o σ)).bind fun x σ =>
   (optE r en l σ).bind fun lv σ =>
   (optE r en h σ).bind fun hv σ => needO (bndV lv) fun i => needO (bndV hv) fun j => oko (slc x i j σ) σ
  | .att o n => (r (.e en o σ)).bind fun x σ => needO (attOf σ x) fun kvs => oko (lookN n kvs) σ
  | .call f es => (r (.e en f σ)).bind fun fv σ => (r (.es en es σ)).binds fun vs σ => r (.call fv vs σ)
  | .meth o n es => (r (.e en o σ)).bind fun x σ => elseO (clsM G σ n x) (fun f => (r (.es en es σ)).binds fun vs σ => r (.call (.fn f) (x :: vs) σ))
   (elseO (strV x) (fun s => methS n s es σ) (needO (refV x) fun j => needO (lstAt σ j) fun z_ => ifB (Nat.beq n 110425311047777 || Nat.beq n 110425311311973)
    ((r (.es en es σ)).binds fun vs σ => needO (lstAt σ j) fun xs => needO (sole vs) fun v => methL n j v xs σ) .bad))
  | .tenm e => (r (.e en e σ)).bind fun x σ => needO (seqI x) fun xs => okIf (Nat.ble xs.length 10000) (.tup (numerate 0 xs)) σ
  | .comp elt ts tt src cond => (r (.src en src σ)).binds fun items σ => ifB (Nat.ble items.length 10000) (r (.comp en elt ts tt cond items [] σ)) .bad
  | .lam => .ok .lam σ
  | .dead => .bad
 | .es en xs σ => match xs with
  | [] => .oks [] σ
  | x :: xs => (r (.e en x σ)).bind fun v σ => (r (.es en xs σ)).binds fun vs σ => .oks (v :: vs) σ
 | .t en x σ => match x with
  | .not_ a => (r (.t en a σ)).bind fun v σ => needO (boolV v) fun c => .ok (.bool (!c)) σ
  | .and_ es => match es with
   | [] => .ok (.bool true) σ
   | e :: es => (r (.t en e σ)).bind fun v σ => needO (boolV v) fun c => ifB c (r (.t en (.and_ es) σ)) (.ok (.bool false) σ)
  | .or_ es => match es with
   | [] => .ok (.bool false) σ
   | e :: es => (r (.t en e σ)).bind fun v σ => needO (boolV v) fun c => ifB c (.ok (.bool true) σ) (r (.t en (.or_ es) σ))
  | .ite .. => .bad
  | .cmp2 .. => .bad
  | x => (r (.e en x σ)).bind fun v σ => needO (boolV v) fun c => .ok (.bool c) σ
 | .src en x σ => match x with
  | .seq e => (r (.e en e σ)).bind fun v σ => needO (seqI v) fun xs => .oks xs σ
  | .rng e => (r (.e en e σ)).bind fun v σ => needO (intV v) fun i => needO (natI i) fun n => ifB (Nat.ble n 1000) (.oks (rangeV 0 n) σ) .bad
  | .enm e => (r (.e en e σ)).bind fun v σ => needO (seqI v) fun xs => .oks (numerate 0 xs) σ
  | .zip a b => (r (.e en a σ)).bind fun v σ => (r (.e en b σ)).bind fun u σ => needO (seqI v) fun xs => needO (seqI u) fun ys => .oks (zipV xs ys) σ
 | .b en ss σ => match ss with
  | [] => .nxt en σ
  | s :: ss =>
   let go (q : Res) : Res := match q with
    | .nxt en σ => r (.b en ss σ)
    | .ret v σ => .ret v σ
    | .exc c σ => .exc c σ
    | _ => .bad
   match s with
   | .asg t e => match t with
    | .loc x => (r (.e en e σ)).bind fun v σ => r (.b (setV en .loc x v) ss σ)
    | .cel x => (r (.e en e σ)).bind fun v σ => r (.b (setV en .cel x v) ss σ)
    | .att o n => (r (.e en e σ)).bind fun v σ => (r (.e en o σ)).bind fun x σ => needO (objV x) fun j => needO (dctAt σ j) fun kvs => needO (upD σ j n v kvs) fun σ => r (.b en ss σ)
    | .sub o i => (r (.e en e σ)).bind fun v σ => (r (.e en o σ)).bind fun x σ => (r (.e en i σ)).bind fun y σ => needO (refV x) fun j => needO (upS σ j y v) fun σ => r (.b en ss σ)
    | .tup ts => (r (.e en e σ)).bind fun v σ => needO (seqOf σ v) fun vs => needO (setAll en ts vs) fun en => r (.b en ss σ)
   | .ret e => (r (.e en e σ)).bind fun v σ => .ret v σ
   | .ret0 => .ret .none σ
   | .ife c a b => (r (.t en c σ)).bind fun v σ => needO (boolV v) fun c => ifB c (go (r (.b en a σ))) (go (r (.b en b σ)))
   | .whl c b => go (r (.whl en c b σ))
   | .for_ ts tt src b => (r (.src en src σ)).binds fun items σ => go (r (.for_ en ts tt items b σ))
   | .exp e => (r (.e en e σ)).bind fun z_ σ => r (.b en ss σ)
   | .rse c es => (r (.es en es σ)).binds fun z_ σ => .exc c σ
   | .try_ b c n h => match r (.b en b σ) with
    | .nxt en σ => r (.b en ss σ)
    | .ret v σ => .ret v σ
    | .exc c' σ' => needO (hndl n h) fun t => ifB (Nat.beq c c') (.ret (.str t) σ') .bad
    | _ => .bad
   | .pass => r (.b en ss σ)
   | .dead => .bad
 | .call f as σ => match f with
  | .fn f => needO (fnOf G f G.fns) fun g => needO (bindP g.params as g.dfl) fun bs => match r (.b (mkEnv g.cells bs) g.body σ) with
   | .ret v σ' => endFn g.mode σ.length v σ'
   | .nxt _ σ' => endFn g.mode σ.length .none σ'
   | .exc c σ' => ifB ((σ'.take σ.length).all (nrefO σ.length)) (.exc c (σ'.take σ.length)) .bad
   | _ => .bad
  | .cls c => (r (.call (.fn (mkM c 6872339552563453791)) (.obj c σ.length :: as) (σ ++ [.dct []]))).bind fun v σ' => needO (noneV v) fun z_ => .ok (.obj c σ.length) σ'
  | .blt b => callB b as σ
  | .lam => oko (lamA as) σ
  | _ => .bad
 | .for_ en ts tt items body σ => match items with
  | [] => .nxt en σ
  | v :: items => needO (bindT en.locs ts tt v) fun l => match r (.b { en with locs := l } body σ) with
   | .nxt en σ => r (.for_ en ts tt items body σ)
   | .ret v σ => .ret v σ
   | _ => .bad
 | .comp en elt ts tt cond items acc σ => match items with
  | [] => .ok (.lst acc) σ
  | v :: items => needO (bindT [] ts tt v) fun l =>
    let en' : Env := { en with locs := l }
    (optT r en' cond σ).bind fun b σ => needO (boolV b) fun c => ifB c ((r (.e en' elt σ)).bind fun y σ => r (.comp en elt ts tt cond items (acc ++ [y]) σ)) (r (.comp en elt ts tt cond items acc σ))
 | .whl en c body σ => match r (.t en c σ) with
  | .ok v σ => needO (boolV v) fun d => ifB d (match r (.b en body σ) with
    | .nxt en σ => r (.whl en c body σ)
    | .ret v σ => .ret v σ
    | _ => .bad) (.nxt en σ)
  | _ => .bad
noncomputable def hooked (G : Glob) (n : Nat) : Task → Option Res
 | .call (.fn f) as σ => match G.hook f as σ with
  | some (k, q) => match Nat.ble k n with
   | true => some q
   | false => none
  | none => none
 | _ => none
noncomputable def run (G : Glob) : Nat → Task → Res
 | 0, _ => .bad
 | n + 1, t => match hooked G n t with
  | some q => q
  | none => step G (run G n) t
end Mine
end
section
open PySem PySem.W PyProof.Rows
namespace Mine.Hp
noncomputable abbrev pw : Program := PySem.Challenge.pw_on0046_01
noncomputable def st (i : Nat) : Stmt := (pw.main.body[i]?).getD (.Pass default)
noncomputable def ms (i j : Nat) : Stmt := match st i with
 | .ClassDef _ _ _ b .. => (b[j]?).getD (.Pass default)
 | x => x
noncomputable abbrev fl : String := "/claim/cut.py"
noncomputable abbrev s (x : String) (k : Nat) : Value := .str (Str.ofString x) k
noncomputable abbrev i (x : Int) (k : Nat) : Value := .int x k
noncomputable abbrev z : Value := .int 0 0
noncomputable abbrev j (x : Int) : Value := .int x 0
noncomputable abbrev r (a : Nat) : Value := .ref a
noncomputable abbrev t (x : String) : Value := .type x
noncomputable abbrev u (x : String) : Value := .builtin x
noncomputable abbrev N : Value := .none
noncomputable abbrev T : Value := .bool true
noncomputable abbrev F : Value := .bool false
noncomputable abbrev e (P : Params) (x : String) (k : Nat) (v : Value) : DictEntry := { hash := PyData.keyHash P (Str.ofString x), key := .str (Str.ofString x) k, val := v }
noncomputable abbrev tu (l : List Value) : Obj := { cls := .type "tuple", data := .seq l.toArray }
noncomputable abbrev cz (l : List Value) : Obj := { cls := .none, data := .fields l.toArray }
noncomputable abbrev fs (x : String) (l : List Value) : Obj := { cls := .type x, data := .fields l.toArray }
noncomputable abbrev co (l : List Value) : Obj := { cls := .type "code", data := .fields l.toArray }
noncomputable abbrev di (l : List DictEntry) (n : Nat) : Obj := { cls := .type "dict", data := .dict l.toArray n }
noncomputable abbrev fr (l : List (Option Value)) : Obj := { cls := .type "frame", slots := l.toArray }
noncomputable def fdz (q : String) : Stmt → FuncData
 | .FunctionDef n a b _ _ _ sc _ _ _ => { name := n, qualname := Str.ofString q, params := a, body := .stmts b, scope := sc, globals := 0, closure := [], defaults := .none, kwdefaults := .none }
 | _ => default
noncomputable def fdo (q : String) (dv pm cd : Value) : Stmt → FuncData
 | .FunctionDef n a b _ _ _ sc _ _ _ => { name := n, qualname := Str.ofString q, params := a, body := .stmts b, scope := sc, globals := 3, closure := [], defaults := dv, kwdefaults := .none, pyModule := pm, code := cd }
 | _ => default
noncomputable abbrev fz (q : String) (x : Stmt) : Obj := { cls := .none, data := .func (fdz q x) }
noncomputable abbrev fo (q : String) (x : Stmt) (dv pm : Value) (cd : Nat) : Obj := { cls := .type "function", data := .func (fdo q dv pm (.ref cd) x) }
noncomputable def zE : List Value := [j 1, z, r 20, j 12, z, r 32, j 14, z, r 37, j 22, z, r 44, j 25, z, r 51, j 27, z, r 58, j 33, z, r 63, j 56, z, r 70, j 58, z, r 77, j 60, z, r 84, j 62, z, r 91, j 64, z, r 98, j 66, z, r 105, j 68, z, r 112, j 70, z, r 119, j 76, z, r 126, j 84, z, r 134, j 98, z, r 141, j 104, z, r 162, j 106, z, r 174, j 108, z, r 186, j 111, z, r 198, j 116, z, r 219, j 118, z, r 226, j 120, z, r 231, j 134, z, r 238, j 142, z, r 245, j 159, z, r 273, j 167, z, r 280, j 183, z, r 287, j 185, z, r 294, j 190, z, r 301, j 198, z, r 308, j 206, z, r 315, j 209, z, r 322, j 212, z, r 329, j 216, z, r 336, j 227, z, r 344, j 229, z, r 349, j 231, z, r 356, j 242, z, r 363, j 256, z, r 370, j 265, z, r 378, j 267, z, r 385, j 271, z, r 392, j 276, z, r 399, j 290, z, r 406, j 301, z, r 413, j 306, z, r 418, j 310, z, r 425, j 320, z, r 432, j 326, z, r 439, j 335, z, r 446, j 340, z, r 453, j 342, z, r 461, j 352, z, r 468, j 362, z, r 475, j 401, z, r 549, j 479, z, r 662, j 486, z, r 683, j 494, z, r 690, j 526, z, r 726, j 531, z, r 733, j 538, z, r 740, j 542, z, r 749, j 546, z, r 756, j 552, z, r 761, j 560, z, r 768, j 567, z, r 775, j 572, z, r 780, j 590, z, r 787, j 592, z, r 794, j 600, z, r 801, j 617, z, r 808]
noncomputable def mE (P : Params) : List DictEntry := [e P "__name__" 165 (s "law_on0046_01" 1279), e P "__doc__" 166 N, e P "__package__" 167 N, e P "__loader__" 168 (u "__main__.__loader__#opaque"), e P "__spec__" 169 N, e P "__annotations__" 170 (r 6), e P "__builtins__" 171 (r 4), e P "__file__" 173 (s fl 172), e P "__cached__" 174 N, e P "_wall" 193 (r 21), e P "TEXT" 197 (r 22), e P "TRUTH" 199 (r 23), e P "WHOLE" 202 (r 24), e P "RUNE" 205 (r 25), e P "NIL" 207 (r 26), e P "UNTYPED_DEFAULTS" 216 (r 27), e P "NILABLE" 223 (r 28), e P "joined_texts" 229 (r 33), e P "signature_text" 235 (r 38), e P "field_text" 245 (r 45), e P "braced_text" 253 (r 52), e P "chan_text" 262 (r 59), e P "type_text" 268 (r 64), e P "underlying_of" 276 (r 71), e P "is_named" 283 (r 78), e P "is_untyped" 290 (r 85), e P "default_type" 297 (r 92), e P "is_interface" 305 (r 99), e P "is_truth" 313 (r 106), e P "has_nil" 321 (r 113), e P "element_of" 328 (r 120), e P "NOTHING" 332 (r 122), e P "packed" 338 (r 127), e P "PLACES" 344 (r 128), e P "is_place" 353 (r 135), e P "ChanError" 387 (r 153), e P "NameFault" 403 (r 166), e P "TypeFault" 419 (r 178), e P "FlowFault" 435 (r 190), e P "Reached" 468 (r 209), e P "without_pointer" 475 (r 220), e P "own_methods" 483 (r 227), e P "members_at" 489 (r 232), e P "embedded_in" 502 (r 239), e P "Levels" 544 (r 263), e P "start_type" 554 (r 274), e P "find_member" 567 (r 281), e P "is_exported" 576 (r 288), e P "is_hidden" 586 (r 295), e P "owner_of" 599 (r 302), e P "member_of" 611 (r 309), e P "led_through" 621 (r 316), e P "field_at" 631 (r 323), e P "gone_along" 643 (r 330), e P "receiver_of" 654 (r 337), e P "LIBRARY" 672 (r 338), e P "result_type" 679 (r 345), e P "plain_arguments" 685 (r 350), e P "check_arguments" 700 (r 357), e P "check_method_call" 716 (r 364), e P "check_value_call" 729 (r 371), e P "BITS" 762 (r 372), e P "MOST_BITS" 764 (i 512 763), e P "is_unsigned" 771 (r 379), e P "int_range" 778 (r 386), e P "is_in_range" 788 (r 393), e P "representable" 797 (r 400), e P "names_of_methods" 813 (r 407), e P "member_or_none" 822 (r 414), e P "is_in_set" 828 (r 419), e P "method_set" 841 (r 426), e P "lack_of" 852 (r 433), e P "implements" 864 (r 440), e P "is_like_chan" 877 (r 447), e P "meets_face" 886 (r 454), e P "is_assignable" 896 (r 462), e P "is_const_assignable" 907 (r 469), e P "Scope" 1003 (r 538), e P "UNTYPED_TRUTH" 1008 (r 543), e P "Checker" 1169 (r 649), e P "PLAIN" 1173 (r 656), e P "NamedRow" 1208 (r 673), e P "known_rows" 1220 (r 684), e P "World" 1278 (r 716), e P "_law_pool" 1291 (r 727), e P "_law_take" 1300 (r 734), e P "_law_one" 1308 (r 741), e P "_law_int" 1311 (r 742), e P "_law_P" 1314 (r 743), e P "_law_funcs" 1322 (r 750), e P "_law_checker" 1330 (r 757), e P "_law_told" 1336 (r 762), e P "_law_value" 1345 (r 769), e P "_law_as" 1354 (r 776), e P "_law_arguments" 1360 (r 781), e P "_law_result" 1367 (r 788), e P "_law_function_right" 1382 (r 795), e P "_law_method_right" 1399 (r 802), e P "law" 1414 (r 809)]
noncomputable def c0 (P : Params) : List Obj := [
 boot_o_0 P,
 boot_o_1 P,
 {cls := N, data := Data.dict #[e P "type.__subclasses__.Exception.0" 384 (j 153), e P "type.__subclasses__.Exception.n" 385 (j 1)] 2 },
 di (mE P) 99,
 boot_o_4 P,
 boot_o_5 P,
 boot_o_6 P,
 boot_o_7 P,
 boot_o_8 P,
 boot_o_9 P,
 boot_o_10 P,
 tu [],
 cz zE,
 co [s "<module>" 182, s "<module>" 183, s fl 184, j 1, z, z, z, z, r 11, F, j 181, r 12, N, N, N, N, j 185, j 1, s fl 186],
 fr [some (r 13), some (r 3), some (r 3), none, some (s "__main__" 164), none, some (r 0)],
 tu [],
 cz [],
 tu [s "k" 190],
 tu [],
 fz "_wall" (st 0),
 co [s "_wall" 187, s "_wall" 188, s fl 189, j 1, j 1, z, z, j 3, r 15, T, j 181, r 16, N, r 17, r 18, r 19, j 191, j 1, s fl 192],
 fo "_wall" (st 0) N (s "__main__" 164) 20,
 tu [s "string" 196],
 tu [s "bool" 198],
 tu [s "int" 200, s "int" 201],
 tu [s "int" 203, s "int32" 204],
 tu [s "nil" 206],
 di [e P "bool" 208 (r 23), e P "int" 209 (r 24), e P "rune" 210 (r 25), e P "string" 211 (r 22)] 4,
 tu [s "ptr" 217, s "func" 218, s "slice" 219, s "map" 220, s "chan" 221, s "interface" 222],
 tu [],
 cz [],
 fz "joined_texts" (st 9),
 co [s "joined_texts" 224, s "joined_texts" 225, s fl 226, j 12, j 1, z, z, j 3, r 29, T, j 181, r 30, N, N, N, r 31, j 227, j 12, s fl 228],
 fo "joined_texts" (st 9) N (s "chancore.types" 194) 32,
 tu [],
 cz [],
 fz "signature_text" (st 10),
 co [s "signature_text" 230, s "signature_text" 231, s fl 232, j 14, j 1, z, z, j 3, r 34, T, j 181, r 35, N, N, N, r 36, j 233, j 14, s fl 234],
 fo "signature_text" (st 10) N (s "chancore.types" 194) 37,
 tu [],
 cz [],
 tu [s "row" 239, s "name" 240, s "T" 241, s "is_embedded" 242],
 tu [],
 fz "field_text" (st 11),
 co [s "field_text" 236, s "field_text" 237, s fl 238, j 22, j 1, z, z, j 3, r 39, T, j 181, r 40, N, r 41, r 42, r 43, j 243, j 22, s fl 244],
 fo "field_text" (st 11) N (s "chancore.types" 194) 44,
 tu [],
 cz [],
 tu [s "word" 249, s "rows" 250],
 tu [],
 fz "braced_text" (st 12),
 co [s "braced_text" 246, s "braced_text" 247, s fl 248, j 25, j 2, z, z, j 3, r 46, T, j 181, r 47, N, r 48, r 49, r 50, j 251, j 25, s fl 252],
 fo "braced_text" (st 12) N (s "chancore.types" 194) 51,
 tu []]
noncomputable def c1 (P : Params) : List Obj := [
 cz [],
 tu [s "T" 257, s "ahead" 258, s "inner" 259],
 tu [],
 fz "chan_text" (st 13),
 co [s "chan_text" 254, s "chan_text" 255, s fl 256, j 27, j 1, z, z, j 3, r 53, T, j 181, r 54, N, r 55, r 56, r 57, j 260, j 27, s fl 261],
 fo "chan_text" (st 13) N (s "chancore.types" 194) 58,
 tu [],
 cz [],
 fz "type_text" (st 14),
 co [s "type_text" 263, s "type_text" 264, s fl 265, j 33, j 1, z, z, j 3, r 60, T, j 181, r 61, N, N, N, r 62, j 266, j 33, s fl 267],
 fo "type_text" (st 14) N (s "chancore.types" 194) 63,
 tu [],
 cz [],
 tu [s "world" 272, s "T" 273],
 tu [],
 fz "underlying_of" (st 15),
 co [s "underlying_of" 269, s "underlying_of" 270, s fl 271, j 56, j 2, z, z, j 3, r 65, T, j 181, r 66, N, r 67, r 68, r 69, j 274, j 56, s fl 275],
 fo "underlying_of" (st 15) N (s "chancore.types" 194) 70,
 tu [],
 cz [],
 tu [s "T" 280],
 tu [],
 fz "is_named" (st 16),
 co [s "is_named" 277, s "is_named" 278, s fl 279, j 58, j 1, z, z, j 3, r 72, T, j 181, r 73, N, r 74, r 75, r 76, j 281, j 58, s fl 282],
 fo "is_named" (st 16) N (s "chancore.types" 194) 77,
 tu [],
 cz [],
 tu [s "T" 287],
 tu [],
 fz "is_untyped" (st 17),
 co [s "is_untyped" 284, s "is_untyped" 285, s fl 286, j 60, j 1, z, z, j 3, r 79, T, j 181, r 80, N, r 81, r 82, r 83, j 288, j 60, s fl 289],
 fo "is_untyped" (st 17) N (s "chancore.types" 194) 84,
 tu [],
 cz [],
 tu [s "T" 294],
 tu [],
 fz "default_type" (st 18),
 co [s "default_type" 291, s "default_type" 292, s fl 293, j 62, j 1, z, z, j 3, r 86, T, j 181, r 87, N, r 88, r 89, r 90, j 295, j 62, s fl 296],
 fo "default_type" (st 18) N (s "chancore.types" 194) 91,
 tu [],
 cz [],
 tu [s "world" 301, s "T" 302],
 tu [],
 fz "is_interface" (st 19),
 co [s "is_interface" 298, s "is_interface" 299, s fl 300, j 64, j 2, z, z, j 3, r 93, T, j 181, r 94, N, r 95, r 96, r 97, j 303, j 64, s fl 304],
 fo "is_interface" (st 19) N (s "chancore.types" 194) 98,
 tu [],
 cz [],
 tu [s "world" 309, s "T" 310],
 tu [],
 fz "is_truth" (st 20),
 co [s "is_truth" 306, s "is_truth" 307, s fl 308, j 66, j 2, z, z, j 3, r 100, T, j 181, r 101, N, r 102, r 103, r 104, j 311, j 66, s fl 312],
 fo "is_truth" (st 20) N (s "chancore.types" 194) 105,
 tu []]
noncomputable def c2 (P : Params) : List Obj := [
 cz [],
 tu [s "world" 317, s "T" 318],
 tu [],
 fz "has_nil" (st 21),
 co [s "has_nil" 314, s "has_nil" 315, s fl 316, j 68, j 2, z, z, j 3, r 107, T, j 181, r 108, N, r 109, r 110, r 111, j 319, j 68, s fl 320],
 fo "has_nil" (st 21) N (s "chancore.types" 194) 112,
 tu [],
 cz [],
 tu [s "T" 325],
 tu [],
 fz "element_of" (st 22),
 co [s "element_of" 322, s "element_of" 323, s fl 324, j 70, j 1, z, z, j 3, r 114, T, j 181, r 115, N, r 116, r 117, r 118, j 326, j 70, s fl 327],
 fo "element_of" (st 22) N (s "chancore.types" 194) 119,
 tu [],
 tu [s "tuple" 331, r 121],
 tu [],
 cz [],
 fz "packed" (st 25),
 co [s "packed" 333, s "packed" 334, s fl 335, j 76, j 4, z, z, j 3, r 123, T, j 181, r 124, N, N, N, r 125, j 336, j 76, s fl 337],
 fo "packed" (st 25) N (s "chancore.check_builtins" 329) 126,
 tu [s "local" 341, s "global" 342, s "deref" 343],
 tu [],
 cz [],
 tu [s "checker" 348, s "made" 349, s "inner" 350],
 tu [],
 fz "is_place" (st 28),
 co [s "is_place" 345, s "is_place" 346, s fl 347, j 84, j 2, z, z, j 3, r 129, T, j 181, r 130, N, r 131, r 132, r 133, j 351, j 84, s fl 352],
 fo "is_place" (st 28) N (s "chancore.check_places" 339) 134,
 tu [t "Exception"],
 fs "builtin_function_or_method" [u "type.__prepare__", t "type"],
 di [e P "__module__" 363 (s "chancore.errors" 354), e P "__qualname__" 365 (s "ChanError" 364), e P "__firstlineno__" 367 (i 98 366), e P "__init__" 377 (r 150), e P "__static_attributes__" 380 (r 151)] 5,
 tu [],
 cz [j 100, j 4, r 149],
 co [s "ChanError" 358, s "ChanError" 359, s fl 360, j 98, z, z, z, z, r 139, F, j 181, r 140, N, N, N, N, j 361, j 98, s fl 362],
 fr [some (r 141), some (r 3), some (r 138), none, some (s "chancore.errors" 354), none, some (r 0)],
 tu [i 0 368],
 tu [],
 cz [],
 tu [s "self" 372, s "message" 373, s "spot" 374],
 tu [],
 fz "ChanError.__init__" (ms 30 0),
 co [s "__init__" 369, s "ChanError.__init__" 370, s fl 371, j 100, j 3, z, z, j 3, r 144, T, j 181, r 145, N, r 146, r 147, r 148, j 375, j 100, s fl 376],
 fo "ChanError.__init__" (ms 30 0) (r 143) (s "chancore.errors" 354) 149,
 tu [s "message" 378, s "spot" 379],
 di [e P "__module__" 363 (s "chancore.errors" 354), e P "__firstlineno__" 367 (i 98 366), e P "__init__" 377 (r 150), e P "__static_attributes__" 380 (r 151), e P "__weakref__" 382 (r 154), e P "__doc__" 383 N] 3,
 {cls := (t "type"), data := Data.cls { name := Str.ofString "ChanError", bases := [t "Exception"], mro := [r 153, t "Exception", t "BaseException", t "object"], ns := 152, qualname := Str.ofString "ChanError", subclasses := [r 166, r 178, r 190] }, slots := #[some (r 136), none, some (s "ChanError" 356), some (s "ChanError" 364), some (u "Exception.__new__"), some (T)] },
 fs "getset_descriptor" [s "__weakref__" 381, r 153, u "ExceptionGroup.__weakref__", N],
 fs "super" [r 153, r 153, r 153],
 fs "builtin_function_or_method" [u "object.__init_subclass__", r 153],
 tu [r 153],
 fs "builtin_function_or_method" [u "type.__prepare__", t "type"],
 di [e P "__module__" 395 (s "chancore.errors" 354), e P "__qualname__" 397 (s "NameFault" 396), e P "__firstlineno__" 399 (i 104 398), e P "__static_attributes__" 400 (r 164)] 4,
 tu [],
 cz []]
noncomputable def c3 (P : Params) : List Obj := [
 co [s "NameFault" 390, s "NameFault" 391, s fl 392, j 104, z, z, z, z, r 160, F, j 181, r 161, N, N, N, N, j 393, j 104, s fl 394],
 fr [some (r 162), some (r 3), some (r 159), none, some (s "chancore.errors" 354), none, some (r 0)],
 tu [],
 di [e P "__module__" 395 (s "chancore.errors" 354), e P "__firstlineno__" 399 (i 104 398), e P "__static_attributes__" 400 (r 164), e P "__doc__" 401 N] 2,
 {cls := (t "type"), data := Data.cls { name := Str.ofString "NameFault", bases := [r 153], mro := [r 166, r 153, t "Exception", t "BaseException", t "object"], ns := 165, qualname := Str.ofString "NameFault" }, slots := #[some (r 157), none, some (s "NameFault" 388), some (s "NameFault" 396), some (u "Exception.__new__"), some (T)] },
 fs "super" [r 166, r 166, r 166],
 fs "builtin_function_or_method" [u "object.__init_subclass__", r 166],
 tu [r 153],
 fs "builtin_function_or_method" [u "type.__prepare__", t "type"],
 di [e P "__module__" 411 (s "chancore.errors" 354), e P "__qualname__" 413 (s "TypeFault" 412), e P "__firstlineno__" 415 (i 106 414), e P "__static_attributes__" 416 (r 176)] 4,
 tu [],
 cz [],
 co [s "TypeFault" 406, s "TypeFault" 407, s fl 408, j 106, z, z, z, z, r 172, F, j 181, r 173, N, N, N, N, j 409, j 106, s fl 410],
 fr [some (r 174), some (r 3), some (r 171), none, some (s "chancore.errors" 354), none, some (r 0)],
 tu [],
 di [e P "__module__" 411 (s "chancore.errors" 354), e P "__firstlineno__" 415 (i 106 414), e P "__static_attributes__" 416 (r 176), e P "__doc__" 417 N] 2,
 {cls := (t "type"), data := Data.cls { name := Str.ofString "TypeFault", bases := [r 153], mro := [r 178, r 153, t "Exception", t "BaseException", t "object"], ns := 177, qualname := Str.ofString "TypeFault" }, slots := #[some (r 169), none, some (s "TypeFault" 404), some (s "TypeFault" 412), some (u "Exception.__new__"), some (T)] },
 fs "super" [r 178, r 178, r 178],
 fs "builtin_function_or_method" [u "object.__init_subclass__", r 178],
 tu [r 153],
 fs "builtin_function_or_method" [u "type.__prepare__", t "type"],
 di [e P "__module__" 427 (s "chancore.errors" 354), e P "__qualname__" 429 (s "FlowFault" 428), e P "__firstlineno__" 431 (i 108 430), e P "__static_attributes__" 432 (r 188)] 4,
 tu [],
 cz [],
 co [s "FlowFault" 422, s "FlowFault" 423, s fl 424, j 108, z, z, z, z, r 184, F, j 181, r 185, N, N, N, N, j 425, j 108, s fl 426],
 fr [some (r 186), some (r 3), some (r 183), none, some (s "chancore.errors" 354), none, some (r 0)],
 tu [],
 di [e P "__module__" 427 (s "chancore.errors" 354), e P "__firstlineno__" 431 (i 108 430), e P "__static_attributes__" 432 (r 188), e P "__doc__" 433 N] 2,
 {cls := (t "type"), data := Data.cls { name := Str.ofString "FlowFault", bases := [r 153], mro := [r 190, r 153, t "Exception", t "BaseException", t "object"], ns := 189, qualname := Str.ofString "FlowFault" }, slots := #[some (r 181), none, some (s "FlowFault" 420), some (s "FlowFault" 428), some (u "Exception.__new__"), some (T)] },
 fs "super" [r 190, r 190, r 190],
 fs "builtin_function_or_method" [u "object.__init_subclass__", r 190],
 tu [],
 fs "builtin_function_or_method" [u "type.__prepare__", t "type"],
 di [e P "__module__" 445 (s "chancore.lookup" 436), e P "__qualname__" 447 (s "Reached" 446), e P "__firstlineno__" 449 (i 111 448), e P "__init__" 458 (r 206), e P "__static_attributes__" 461 (r 207)] 5,
 tu [],
 cz [j 113, j 4, r 205],
 co [s "Reached" 440, s "Reached" 441, s fl 442, j 111, z, z, z, z, r 196, F, j 181, r 197, N, N, N, N, j 443, j 111, s fl 444],
 fr [some (r 198), some (r 3), some (r 195), none, some (s "chancore.lookup" 436), none, some (r 0)],
 tu [],
 cz [],
 tu [s "self" 453, s "told" 454, s "steps" 455],
 tu [],
 fz "Reached.__init__" (ms 35 0),
 co [s "__init__" 450, s "Reached.__init__" 451, s fl 452, j 113, j 3, z, z, j 3, r 200, T, j 181, r 201, N, r 202, r 203, r 204, j 456, j 113, s fl 457],
 fo "Reached.__init__" (ms 35 0) N (s "chancore.lookup" 436) 205,
 tu [s "steps" 459, s "told" 460],
 di [e P "__module__" 445 (s "chancore.lookup" 436), e P "__firstlineno__" 449 (i 111 448), e P "__init__" 458 (r 206), e P "__static_attributes__" 461 (r 207), e P "__dict__" 463 (r 210), e P "__weakref__" 465 (r 211), e P "__doc__" 466 N] 4,
 {cls := (t "type"), data := Data.cls { name := Str.ofString "Reached", bases := [t "object"], mro := [r 209, t "object"], ns := 208, qualname := Str.ofString "Reached" }, slots := #[none, none, some (s "Reached" 438), some (s "Reached" 446), some (u "object.__new__"), some (T)] },
 fs "getset_descriptor" [s "__dict__" 462, r 209, u "function.__dict__", u "function.__dict__#set"],
 fs "getset_descriptor" [s "__weakref__" 464, r 209, u "ExceptionGroup.__weakref__", N],
 fs "super" [r 209, r 209, r 209],
 fs "builtin_function_or_method" [u "object.__init_subclass__", r 209],
 tu [],
 cz []]
noncomputable def c4 (P : Params) : List Obj := [
 tu [s "told" 472],
 tu [],
 fz "without_pointer" (st 36),
 co [s "without_pointer" 469, s "without_pointer" 470, s fl 471, j 116, j 1, z, z, j 3, r 214, T, j 181, r 215, N, r 216, r 217, r 218, j 473, j 116, s fl 474],
 fo "without_pointer" (st 36) N (s "chancore.lookup" 436) 219,
 tu [],
 cz [],
 tu [s "world" 479, s "told" 480],
 tu [],
 fz "own_methods" (st 37),
 co [s "own_methods" 476, s "own_methods" 477, s fl 478, j 118, j 2, z, z, j 3, r 221, T, j 181, r 222, N, r 223, r 224, r 225, j 481, j 118, s fl 482],
 fo "own_methods" (st 37) N (s "chancore.lookup" 436) 226,
 tu [],
 cz [],
 fz "members_at" (st 38),
 co [s "members_at" 484, s "members_at" 485, s fl 486, j 120, j 3, z, z, j 3, r 228, T, j 181, r 229, N, N, N, r 230, j 487, j 120, s fl 488],
 fo "members_at" (st 38) N (s "chancore.lookup" 436) 231,
 tu [],
 cz [],
 tu [s "world" 493, s "reached" 494, s "base" 495, s "found" 496, s "k" 497, s "row" 498, s "is_pointer" 499],
 tu [],
 fz "embedded_in" (st 39),
 co [s "embedded_in" 490, s "embedded_in" 491, s fl 492, j 134, j 2, z, z, j 3, r 233, T, j 181, r 234, N, r 235, r 236, r 237, j 500, j 134, s fl 501],
 fo "embedded_in" (st 39) N (s "chancore.lookup" 436) 238,
 tu [],
 fs "builtin_function_or_method" [u "type.__prepare__", t "type"],
 di [e P "__module__" 510 (s "chancore.lookup" 436), e P "__qualname__" 512 (s "Levels" 511), e P "__firstlineno__" 514 (i 142 513), e P "__init__" 523 (r 253), e P "go_on" 533 (r 260), e P "__static_attributes__" 537 (r 261)] 6,
 tu [],
 cz [j 144, j 4, r 252, j 149, j 4, r 259],
 co [s "Levels" 505, s "Levels" 506, s fl 507, j 142, z, z, z, z, r 243, F, j 181, r 244, N, N, N, N, j 508, j 142, s fl 509],
 fr [some (r 245), some (r 3), some (r 242), none, some (s "chancore.lookup" 436), none, some (r 0)],
 tu [],
 cz [],
 tu [s "self" 518, s "world" 519, s "told" 520],
 tu [],
 fz "Levels.__init__" (ms 40 0),
 co [s "__init__" 515, s "Levels.__init__" 516, s fl 517, j 144, j 3, z, z, j 3, r 247, T, j 181, r 248, N, r 249, r 250, r 251, j 521, j 144, s fl 522],
 fo "Levels.__init__" (ms 40 0) N (s "chancore.lookup" 436) 252,
 tu [],
 cz [],
 tu [s "self" 527, s "reached" 528, s "later" 529, s "inner" 530],
 tu [],
 fz "Levels.go_on" (ms 40 1),
 co [s "go_on" 524, s "Levels.go_on" 525, s fl 526, j 149, j 1, z, z, j 3, r 254, T, j 181, r 255, N, r 256, r 257, r 258, j 531, j 149, s fl 532],
 fo "Levels.go_on" (ms 40 1) N (s "chancore.lookup" 436) 259,
 tu [s "here" 534, s "seen" 535, s "world" 536],
 di [e P "__module__" 510 (s "chancore.lookup" 436), e P "__firstlineno__" 514 (i 142 513), e P "__init__" 523 (r 253), e P "go_on" 533 (r 260), e P "__static_attributes__" 537 (r 261), e P "__dict__" 539 (r 264), e P "__weakref__" 541 (r 265), e P "__doc__" 542 N] 4,
 {cls := (t "type"), data := Data.cls { name := Str.ofString "Levels", bases := [t "object"], mro := [r 263, t "object"], ns := 262, qualname := Str.ofString "Levels" }, slots := #[none, none, some (s "Levels" 503), some (s "Levels" 511), some (u "object.__new__"), some (T)] },
 fs "getset_descriptor" [s "__dict__" 538, r 263, u "function.__dict__", u "function.__dict__#set"],
 fs "getset_descriptor" [s "__weakref__" 540, r 263, u "ExceptionGroup.__weakref__", N],
 fs "super" [r 263, r 263, r 263],
 fs "builtin_function_or_method" [u "object.__init_subclass__", r 263],
 tu [],
 cz []]
noncomputable def c5 (P : Params) : List Obj := [
 tu [s "world" 548, s "told" 549, s "inner" 550, s "base" 551],
 tu [],
 fz "start_type" (st 41),
 co [s "start_type" 545, s "start_type" 546, s fl 547, j 159, j 2, z, z, j 3, r 268, T, j 181, r 269, N, r 270, r 271, r 272, j 552, j 159, s fl 553],
 fo "start_type" (st 41) N (s "chancore.lookup" 436) 273,
 tu [],
 cz [],
 tu [s "world" 558, s "told" 559, s "name" 560, s "begun" 561, s "levels" 562, s "found" 563, s "reached" 564],
 tu [],
 fz "find_member" (st 42),
 co [s "find_member" 555, s "find_member" 556, s fl 557, j 167, j 3, z, z, j 3, r 275, T, j 181, r 276, N, r 277, r 278, r 279, j 565, j 167, s fl 566],
 fo "find_member" (st 42) N (s "chancore.lookup" 436) 280,
 tu [],
 cz [],
 tu [s "name" 573],
 tu [],
 fz "is_exported" (st 44),
 co [s "is_exported" 570, s "is_exported" 571, s fl 572, j 183, j 1, z, z, j 3, r 282, T, j 181, r 283, N, r 284, r 285, r 286, j 574, j 183, s fl 575],
 fo "is_exported" (st 44) N (s "chancore.check_selectors" 568) 287,
 tu [],
 cz [],
 tu [s "checker" 580, s "told" 581, s "name" 582, s "inner" 583],
 tu [],
 fz "is_hidden" (st 45),
 co [s "is_hidden" 577, s "is_hidden" 578, s fl 579, j 185, j 3, z, z, j 3, r 289, T, j 181, r 290, N, r 291, r 292, r 293, j 584, j 185, s fl 585],
 fo "is_hidden" (st 45) N (s "chancore.check_selectors" 568) 294,
 tu [],
 cz [],
 tu [s "world" 590, s "told" 591, s "member" 592, s "here" 593, s "k" 594, s "is_pointer" 595, s "row" 596],
 tu [],
 fz "owner_of" (st 46),
 co [s "owner_of" 587, s "owner_of" 588, s fl 589, j 190, j 3, z, z, j 3, r 296, T, j 181, r 297, N, r 298, r 299, r 300, j 597, j 190, s fl 598],
 fo "owner_of" (st 46) N (s "chancore.check_selectors" 568) 301,
 tu [],
 cz [],
 tu [s "checker" 603, s "told" 604, s "name" 605, s "spot" 606, s "found" 607, s "fault" 608],
 tu [],
 fz "member_of" (st 47),
 co [s "member_of" 600, s "member_of" 601, s fl 602, j 198, j 4, z, z, j 3, r 303, T, j 181, r 304, N, r 305, r 306, r 307, j 609, j 198, s fl 610],
 fo "member_of" (st 47) N (s "chancore.check_selectors" 568) 308,
 tu [],
 cz [],
 tu [s "checker" 615, s "made" 616, s "spot" 617, s "inner" 618],
 tu [],
 fz "led_through" (st 48),
 co [s "led_through" 612, s "led_through" 613, s fl 614, j 206, j 3, z, z, j 3, r 310, T, j 181, r 311, N, r 312, r 313, r 314, j 619, j 206, s fl 620],
 fo "led_through" (st 48) N (s "chancore.check_selectors" 568) 315,
 tu [],
 cz [],
 tu [s "checker" 625, s "made" 626, s "k" 627, s "spot" 628],
 tu [],
 fz "field_at" (st 49),
 co [s "field_at" 622, s "field_at" 623, s fl 624, j 209, j 4, z, z, j 3, r 317, T, j 181, r 318, N, r 319, r 320, r 321, j 629, j 209, s fl 630],
 fo "field_at" (st 49) N (s "chancore.check_selectors" 568) 322]
noncomputable def c6 (P : Params) : List Obj := [
 tu [],
 cz [],
 tu [s "checker" 635, s "made" 636, s "steps" 637, s "spot" 638, s "k" 639, s "is_pointer" 640],
 tu [],
 fz "gone_along" (st 50),
 co [s "gone_along" 632, s "gone_along" 633, s fl 634, j 212, j 4, z, z, j 3, r 324, T, j 181, r 325, N, r 326, r 327, r 328, j 641, j 212, s fl 642],
 fo "gone_along" (st 50) N (s "chancore.check_selectors" 568) 329,
 tu [],
 cz [],
 tu [s "checker" 647, s "made" 648, s "is_pointer" 649, s "spot" 650, s "told" 651],
 tu [],
 fz "receiver_of" (st 51),
 co [s "receiver_of" 644, s "receiver_of" 645, s fl 646, j 216, j 4, z, z, j 3, r 331, T, j 181, r 332, N, r 333, r 334, r 335, j 652, j 216, s fl 653],
 fo "receiver_of" (st 51) N (s "chancore.check_selectors" 568) 336,
 di [e P "sync.Mutex.Lock" 657 (s "lock" 658), e P "sync.Mutex.Unlock" 659 (s "unlock" 660), e P "sync.WaitGroup.Add" 661 (s "add" 662), e P "sync.WaitGroup.Done" 663 (s "done" 664), e P "sync.WaitGroup.Wait" 665 (s "wait" 666)] 5,
 tu [],
 cz [],
 tu [s "func" 676],
 tu [],
 fz "result_type" (st 54),
 co [s "result_type" 673, s "result_type" 674, s fl 675, j 227, j 1, z, z, j 3, r 339, T, j 181, r 340, N, r 341, r 342, r 343, j 677, j 227, s fl 678],
 fo "result_type" (st 54) N (s "chancore.check_calls" 655) 344,
 tu [],
 cz [],
 fz "plain_arguments" (st 55),
 co [s "plain_arguments" 680, s "plain_arguments" 681, s fl 682, j 229, j 3, z, z, j 3, r 346, T, j 181, r 347, N, N, N, r 348, j 683, j 229, s fl 684],
 fo "plain_arguments" (st 55) N (s "chancore.check_calls" 655) 349,
 tu [],
 cz [],
 tu [s "checker" 689, s "es" 690, s "func" 691, s "is_spread" 692, s "spot" 693, s "types" 694, s "is_variadic" 695, s "least" 696, s "ahead" 697],
 tu [],
 fz "check_arguments" (st 56),
 co [s "check_arguments" 686, s "check_arguments" 687, s fl 688, j 231, j 5, z, z, j 3, r 351, T, j 181, r 352, N, r 353, r 354, r 355, j 698, j 231, s fl 699],
 fo "check_arguments" (st 56) N (s "chancore.check_calls" 655) 356,
 tu [],
 cz [],
 tu [s "checker" 704, s "f" 705, s "es" 706, s "is_spread" 707, s "spot" 708, s "made" 709, s "member" 710, s "func" 711, s "others" 712, s "receiver" 713],
 tu [],
 fz "check_method_call" (st 57),
 co [s "check_method_call" 701, s "check_method_call" 702, s fl 703, j 242, j 5, z, z, j 3, r 358, T, j 181, r 359, N, r 360, r 361, r 362, j 714, j 242, s fl 715],
 fo "check_method_call" (st 57) N (s "chancore.check_calls" 655) 363,
 tu [],
 cz [],
 tu [s "checker" 720, s "made" 721, s "es" 722, s "is_spread" 723, s "spot" 724, s "func" 725, s "called" 726],
 tu [],
 fz "check_value_call" (st 58),
 co [s "check_value_call" 717, s "check_value_call" 718, s fl 719, j 256, j 5, z, z, j 3, r 365, T, j 181, r 366, N, r 367, r 368, r 369, j 727, j 256, s fl 728],
 fo "check_value_call" (st 58) N (s "chancore.check_calls" 655) 370,
 di [e P "int" 732 (i 64 733), e P "int8" 734 (i 8 735), e P "int16" 736 (i 16 737), e P "int32" 738 (i 32 739), e P "int64" 740 (i 64 741), e P "uint" 742 (i 64 743), e P "uint8" 744 (i 8 745), e P "uint16" 746 (i 16 747), e P "uint32" 748 (i 32 749), e P "uint64" 750 (i 64 751)] 10,
 tu [],
 cz [],
 tu [s "kind" 768],
 tu [],
 fz "is_unsigned" (st 62)]
noncomputable def c7 (P : Params) : List Obj := [
 co [s "is_unsigned" 765, s "is_unsigned" 766, s fl 767, j 265, j 1, z, z, j 3, r 373, T, j 181, r 374, N, r 375, r 376, r 377, j 769, j 265, s fl 770],
 fo "is_unsigned" (st 62) N (s "chancore.consts" 730) 378,
 tu [],
 cz [],
 tu [s "kind" 775],
 tu [],
 fz "int_range" (st 63),
 co [s "int_range" 772, s "int_range" 773, s fl 774, j 267, j 1, z, z, j 3, r 380, T, j 181, r 381, N, r 382, r 383, r 384, j 776, j 267, s fl 777],
 fo "int_range" (st 63) N (s "chancore.consts" 730) 385,
 tu [],
 cz [],
 tu [s "number" 782, s "kind" 783, s "low" 784, s "high" 785],
 tu [],
 fz "is_in_range" (st 64),
 co [s "is_in_range" 779, s "is_in_range" 780, s fl 781, j 271, j 2, z, z, j 3, r 387, T, j 181, r 388, N, r 389, r 390, r 391, j 786, j 271, s fl 787],
 fo "is_in_range" (st 64) N (s "chancore.consts" 730) 392,
 tu [],
 cz [],
 tu [s "value" 792, s "told" 793, s "word" 794],
 tu [],
 fz "representable" (st 65),
 co [s "representable" 789, s "representable" 790, s fl 791, j 276, j 2, z, z, j 3, r 394, T, j 181, r 395, N, r 396, r 397, r 398, j 795, j 276, s fl 796],
 fo "representable" (st 65) N (s "chancore.consts" 730) 399,
 tu [],
 cz [],
 tu [s "world" 803, s "told" 804, s "levels" 805, s "found" 806, s "reached" 807, s "base" 808, s "name" 809, s "func" 810],
 tu [],
 fz "names_of_methods" (st 67),
 co [s "names_of_methods" 800, s "names_of_methods" 801, s fl 802, j 290, j 2, z, z, j 3, r 401, T, j 181, r 402, N, r 403, r 404, r 405, j 811, j 290, s fl 812],
 fo "names_of_methods" (st 67) N (s "chancore.method_sets" 798) 406,
 tu [],
 cz [],
 tu [s "world" 817, s "told" 818, s "name" 819],
 tu [],
 fz "member_or_none" (st 68),
 co [s "member_or_none" 814, s "member_or_none" 815, s fl 816, j 301, j 3, z, z, j 3, r 408, T, j 181, r 409, N, r 410, r 411, r 412, j 820, j 301, s fl 821],
 fo "member_or_none" (st 68) N (s "chancore.method_sets" 798) 413,
 tu [],
 cz [],
 fz "is_in_set" (st 69),
 co [s "is_in_set" 823, s "is_in_set" 824, s fl 825, j 306, j 2, z, z, j 3, r 415, T, j 181, r 416, N, N, N, r 417, j 826, j 306, s fl 827],
 fo "is_in_set" (st 69) N (s "chancore.method_sets" 798) 418,
 tu [],
 cz [],
 tu [s "world" 832, s "told" 833, s "begun" 834, s "found" 835, s "name" 836, s "member" 837, s "key" 838],
 tu [],
 fz "method_set" (st 70),
 co [s "method_set" 829, s "method_set" 830, s fl 831, j 310, j 2, z, z, j 3, r 420, T, j 181, r 421, N, r 422, r 423, r 424, j 839, j 310, s fl 840],
 fo "method_set" (st 70) N (s "chancore.method_sets" 798) 425,
 tu [],
 cz [],
 tu [s "world" 845, s "told" 846, s "name" 847, s "func" 848, s "others" 849],
 tu [],
 fz "lack_of" (st 71)]
noncomputable def c8 (P : Params) : List Obj := [
 co [s "lack_of" 842, s "lack_of" 843, s fl 844, j 320, j 4, z, z, j 3, r 427, T, j 181, r 428, N, r 429, r 430, r 431, j 850, j 320, s fl 851],
 fo "lack_of" (st 71) N (s "chancore.method_sets" 798) 432,
 tu [],
 cz [],
 tu [s "world" 856, s "told" 857, s "wanted" 858, s "methods" 859, s "name" 860, s "func" 861],
 tu [],
 fz "implements" (st 72),
 co [s "implements" 853, s "implements" 854, s fl 855, j 326, j 3, z, z, j 3, r 434, T, j 181, r 435, N, r 436, r 437, r 438, j 862, j 326, s fl 863],
 fo "implements" (st 72) N (s "chancore.method_sets" 798) 439,
 tu [],
 cz [],
 tu [s "world" 870, s "one" 871, s "other" 872, s "here" 873, s "there" 874],
 tu [],
 fz "is_like_chan" (st 74),
 co [s "is_like_chan" 867, s "is_like_chan" 868, s fl 869, j 335, j 3, z, z, j 3, r 441, T, j 181, r 442, N, r 443, r 444, r 445, j 875, j 335, s fl 876],
 fo "is_like_chan" (st 74) N (s "chancore.assign" 865) 446,
 tu [],
 cz [],
 tu [s "world" 881, s "one" 882, s "other" 883],
 tu [],
 fz "meets_face" (st 75),
 co [s "meets_face" 878, s "meets_face" 879, s fl 880, j 340, j 3, z, z, j 3, r 448, T, j 181, r 449, N, r 450, r 451, r 452, j 884, j 340, s fl 885],
 fo "meets_face" (st 75) N (s "chancore.assign" 865) 453,
 tu [F],
 tu [],
 cz [],
 tu [s "world" 890, s "one" 891, s "other" 892, s "is_nil" 893],
 tu [],
 fz "is_assignable" (st 76),
 co [s "is_assignable" 887, s "is_assignable" 888, s fl 889, j 342, j 4, z, z, j 3, r 456, T, j 181, r 457, N, r 458, r 459, r 460, j 894, j 342, s fl 895],
 fo "is_assignable" (st 76) (r 455) (s "chancore.assign" 865) 461,
 tu [],
 cz [],
 tu [s "world" 900, s "value" 901, s "one" 902, s "other" 903, s "inner" 904],
 tu [],
 fz "is_const_assignable" (st 77),
 co [s "is_const_assignable" 897, s "is_const_assignable" 898, s fl 899, j 352, j 4, z, z, j 3, r 463, T, j 181, r 464, N, r 465, r 466, r 467, j 905, j 352, s fl 906],
 fo "is_const_assignable" (st 77) N (s "chancore.assign" 865) 468,
 tu [],
 fs "builtin_function_or_method" [u "type.__prepare__", t "type"],
 di [e P "__module__" 917 (s "chancore.scopes" 908), e P "__qualname__" 919 (s "Scope" 918), e P "__firstlineno__" 921 (i 362 920), e P "__init__" 930 (r 484), e P "declare" 941 (r 492), e P "is_here" 949 (r 499), e P "row" 958 (r 506), e P "find" 967 (r 514), e P "use" 975 (r 521), e P "unused" 985 (r 528), e P "depth" 992 (r 535), e P "__static_attributes__" 996 (r 536)] 12,
 tu [],
 cz [j 364, j 4, r 483, j 369, j 4, r 491, j 372, j 4, r 498, j 375, j 4, r 505, j 383, j 4, r 513, j 386, j 4, r 520, j 389, j 4, r 527, j 397, j 4, r 534],
 co [s "Scope" 912, s "Scope" 913, s fl 914, j 362, z, z, z, z, r 473, F, j 181, r 474, N, N, N, N, j 915, j 362, s fl 916],
 fr [some (r 475), some (r 3), some (r 472), none, some (s "chancore.scopes" 908), none, some (r 0)],
 tu [N],
 tu [],
 cz [],
 tu [s "self" 925, s "outer" 926, s "owner" 927],
 tu [],
 fz "Scope.__init__" (ms 79 0),
 co [s "__init__" 922, s "Scope.__init__" 923, s fl 924, j 364, j 3, z, z, j 3, r 478, T, j 181, r 479, N, r 480, r 481, r 482, j 928, j 364, s fl 929],
 fo "Scope.__init__" (ms 79 0) (r 477) (s "chancore.scopes" 908) 483,
 tu [F]]
noncomputable def c9 (P : Params) : List Obj := [
 tu [],
 cz [],
 tu [s "self" 934, s "name" 935, s "entry" 936, s "spot" 937, s "is_checked" 938],
 tu [],
 fz "Scope.declare" (ms 79 1),
 co [s "declare" 931, s "Scope.declare" 932, s fl 933, j 369, j 5, z, z, j 3, r 486, T, j 181, r 487, N, r 488, r 489, r 490, j 939, j 369, s fl 940],
 fo "Scope.declare" (ms 79 1) (r 485) (s "chancore.scopes" 908) 491,
 tu [],
 cz [],
 tu [s "self" 945, s "name" 946],
 tu [],
 fz "Scope.is_here" (ms 79 2),
 co [s "is_here" 942, s "Scope.is_here" 943, s fl 944, j 372, j 2, z, z, j 3, r 493, T, j 181, r 494, N, r 495, r 496, r 497, j 947, j 372, s fl 948],
 fo "Scope.is_here" (ms 79 2) N (s "chancore.scopes" 908) 498,
 tu [],
 cz [],
 tu [s "self" 953, s "name" 954, s "here" 955],
 tu [],
 fz "Scope.row" (ms 79 3),
 co [s "row" 950, s "Scope.row" 951, s fl 952, j 375, j 2, z, z, j 3, r 500, T, j 181, r 501, N, r 502, r 503, r 504, j 956, j 375, s fl 957],
 fo "Scope.row" (ms 79 3) N (s "chancore.scopes" 908) 505,
 tu [N],
 tu [],
 cz [],
 tu [s "self" 962, s "name" 963, s "spot" 964],
 tu [],
 fz "Scope.find" (ms 79 4),
 co [s "find" 959, s "Scope.find" 960, s fl 961, j 383, j 3, z, z, j 3, r 508, T, j 181, r 509, N, r 510, r 511, r 512, j 965, j 383, s fl 966],
 fo "Scope.find" (ms 79 4) (r 507) (s "chancore.scopes" 908) 513,
 tu [],
 cz [],
 tu [s "self" 971, s "name" 972],
 tu [],
 fz "Scope.use" (ms 79 5),
 co [s "use" 968, s "Scope.use" 969, s fl 970, j 386, j 2, z, z, j 3, r 515, T, j 181, r 516, N, r 517, r 518, r 519, j 973, j 386, s fl 974],
 fo "Scope.use" (ms 79 5) N (s "chancore.scopes" 908) 520,
 tu [],
 cz [],
 tu [s "self" 979, s "found" 980, s "name" 981, s "row" 982],
 tu [],
 fz "Scope.unused" (ms 79 6),
 co [s "unused" 976, s "Scope.unused" 977, s fl 978, j 389, j 1, z, z, j 3, r 522, T, j 181, r 523, N, r 524, r 525, r 526, j 983, j 389, s fl 984],
 fo "Scope.unused" (ms 79 6) N (s "chancore.scopes" 908) 527,
 tu [],
 cz [],
 tu [s "self" 989],
 tu [],
 fz "Scope.depth" (ms 79 7),
 co [s "depth" 986, s "Scope.depth" 987, s fl 988, j 397, j 1, z, z, j 3, r 529, T, j 181, r 530, N, r 531, r 532, r 533, j 990, j 397, s fl 991],
 fo "Scope.depth" (ms 79 7) N (s "chancore.scopes" 908) 534,
 tu [s "outer" 993, s "owner" 994, s "rows" 995],
 di [e P "__module__" 917 (s "chancore.scopes" 908), e P "__firstlineno__" 921 (i 362 920), e P "__init__" 930 (r 484), e P "declare" 941 (r 492), e P "is_here" 949 (r 499), e P "row" 958 (r 506), e P "find" 967 (r 514), e P "use" 975 (r 521), e P "unused" 985 (r 528), e P "depth" 992 (r 535), e P "__static_attributes__" 996 (r 536), e P "__dict__" 998 (r 539), e P "__weakref__" 1000 (r 540), e P "__doc__" 1001 N] 4,
 {cls := (t "type"), data := Data.cls { name := Str.ofString "Scope", bases := [t "object"], mro := [r 538, t "object"], ns := 537, qualname := Str.ofString "Scope" }, slots := #[none, none, some (s "Scope" 910), some (s "Scope" 918), some (u "object.__new__"), some (T)] },
 fs "getset_descriptor" [s "__dict__" 997, r 538, u "function.__dict__", u "function.__dict__#set"]]
noncomputable def c10 (P : Params) : List Obj := [
 fs "getset_descriptor" [s "__weakref__" 999, r 538, u "ExceptionGroup.__weakref__", N],
 fs "super" [r 538, r 538, r 538],
 fs "builtin_function_or_method" [u "object.__init_subclass__", r 538],
 tu [s "untyped" 1006, s "bool" 1007],
 tu [],
 fs "builtin_function_or_method" [u "type.__prepare__", t "type"],
 di [e P "__module__" 1016 (s "chancore.check_state" 1004), e P "__qualname__" 1018 (s "Checker" 1017), e P "__firstlineno__" 1020 (i 401 1019), e P "__init__" 1034 (r 558), e P "expr" 1043 (r 566), e P "value" 1053 (r 574), e P "typex" 1061 (r 581), e P "coerce" 1073 (r 588), e P "takes_type" 1082 (r 595), e P "open" 1089 (r 602), e P "close" 1098 (r 609), e P "hidden" 1107 (r 617), e P "declare" 1118 (r 625), e P "own_local" 1127 (r 632), e P "begin" 1138 (r 639), e P "finished" 1146 (r 646), e P "__static_attributes__" 1162 (r 647)] 17,
 tu [],
 cz [j 403, j 4, r 557, j 420, j 4, r 565, j 423, j 4, r 573, j 431, j 4, r 580, j 434, j 4, r 587, j 449, j 4, r 594, j 454, j 4, r 601, j 457, j 4, r 608, j 462, j 4, r 616, j 466, j 4, r 624, j 469, j 4, r 631, j 472, j 4, r 638, j 475, j 4, r 645],
 co [s "Checker" 1011, s "Checker" 1012, s fl 1013, j 401, z, z, z, z, r 547, F, j 181, r 548, N, N, N, N, j 1014, j 401, s fl 1015],
 fr [some (r 549), some (r 3), some (r 546), none, some (s "chancore.check_state" 1004), none, some (r 0)],
 tu [N],
 tu [],
 cz [],
 tu [s "self" 1024, s "world" 1025, s "package" 1026, s "scope" 1027, s "key" 1028, s "readers" 1029, s "run_body" 1030, s "outer" 1031],
 tu [],
 fz "Checker.__init__" (ms 82 0),
 co [s "__init__" 1021, s "Checker.__init__" 1022, s fl 1023, j 403, j 8, z, z, j 3, r 552, T, j 181, r 553, N, r 554, r 555, r 556, j 1032, j 403, s fl 1033],
 fo "Checker.__init__" (ms 82 0) (r 551) (s "chancore.check_state" 1004) 557,
 tu [N],
 tu [],
 cz [],
 tu [s "self" 1038, s "node" 1039, s "wanted" 1040],
 tu [],
 fz "Checker.expr" (ms 82 1),
 co [s "expr" 1035, s "Checker.expr" 1036, s fl 1037, j 420, j 3, z, z, j 3, r 560, T, j 181, r 561, N, r 562, r 563, r 564, j 1041, j 420, s fl 1042],
 fo "Checker.expr" (ms 82 1) (r 559) (s "chancore.check_state" 1004) 565,
 tu [N],
 tu [],
 cz [],
 tu [s "self" 1047, s "node" 1048, s "wanted" 1049, s "made" 1050],
 tu [],
 fz "Checker.value" (ms 82 2),
 co [s "value" 1044, s "Checker.value" 1045, s fl 1046, j 423, j 3, z, z, j 3, r 568, T, j 181, r 569, N, r 570, r 571, r 572, j 1051, j 423, s fl 1052],
 fo "Checker.value" (ms 82 2) (r 567) (s "chancore.check_state" 1004) 573,
 tu [],
 cz [],
 tu [s "self" 1057, s "written" 1058],
 tu [],
 fz "Checker.typex" (ms 82 3),
 co [s "typex" 1054, s "Checker.typex" 1055, s fl 1056, j 431, j 2, z, z, j 3, r 575, T, j 181, r 576, N, r 577, r 578, r 579, j 1059, j 431, s fl 1060],
 fo "Checker.typex" (ms 82 3) N (s "chancore.check_state" 1004) 580,
 tu [],
 cz [],
 tu [s "self" 1065, s "made" 1066, s "T" 1067, s "spot" 1068, s "one" 1069, s "is_face" 1070],
 tu [],
 fz "Checker.coerce" (ms 82 4),
 co [s "coerce" 1062, s "Checker.coerce" 1063, s fl 1064, j 434, j 4, z, z, j 3, r 582, T, j 181, r 583, N, r 584, r 585, r 586, j 1071, j 434, s fl 1072],
 fo "Checker.coerce" (ms 82 4) N (s "chancore.check_state" 1004) 587,
 tu [],
 cz [],
 tu [s "self" 1077, s "made" 1078, s "T" 1079],
 tu [],
 fz "Checker.takes_type" (ms 82 5)]
noncomputable def c11 (P : Params) : List Obj := [
 co [s "takes_type" 1074, s "Checker.takes_type" 1075, s fl 1076, j 449, j 3, z, z, j 3, r 589, T, j 181, r 590, N, r 591, r 592, r 593, j 1080, j 449, s fl 1081],
 fo "Checker.takes_type" (ms 82 5) N (s "chancore.check_state" 1004) 594,
 tu [],
 cz [],
 tu [s "self" 1086],
 tu [],
 fz "Checker.open" (ms 82 6),
 co [s "open" 1083, s "Checker.open" 1084, s fl 1085, j 454, j 1, z, z, j 3, r 596, T, j 181, r 597, N, r 598, r 599, r 600, j 1087, j 454, s fl 1088],
 fo "Checker.open" (ms 82 6) N (s "chancore.check_state" 1004) 601,
 tu [],
 cz [],
 tu [s "self" 1093, s "name" 1094, s "spot" 1095],
 tu [],
 fz "Checker.close" (ms 82 7),
 co [s "close" 1090, s "Checker.close" 1091, s fl 1092, j 457, j 1, z, z, j 3, r 603, T, j 181, r 604, N, r 605, r 606, r 607, j 1096, j 457, s fl 1097],
 fo "Checker.close" (ms 82 7) N (s "chancore.check_state" 1004) 608,
 tu [N],
 tu [],
 cz [],
 tu [s "self" 1102, s "T" 1103, s "name" 1104],
 tu [],
 fz "Checker.hidden" (ms 82 8),
 co [s "hidden" 1099, s "Checker.hidden" 1100, s fl 1101, j 462, j 3, z, z, j 3, r 611, T, j 181, r 612, N, r 613, r 614, r 615, j 1105, j 462, s fl 1106],
 fo "Checker.hidden" (ms 82 8) (r 610) (s "chancore.check_state" 1004) 616,
 tu [T],
 tu [],
 cz [],
 tu [s "self" 1111, s "name" 1112, s "T" 1113, s "spot" 1114, s "is_checked" 1115],
 tu [],
 fz "Checker.declare" (ms 82 9),
 co [s "declare" 1108, s "Checker.declare" 1109, s fl 1110, j 466, j 5, z, z, j 3, r 619, T, j 181, r 620, N, r 621, r 622, r 623, j 1116, j 466, s fl 1117],
 fo "Checker.declare" (ms 82 9) (r 618) (s "chancore.check_state" 1004) 624,
 tu [],
 cz [],
 tu [s "self" 1122, s "owner" 1123, s "number" 1124],
 tu [],
 fz "Checker.own_local" (ms 82 10),
 co [s "own_local" 1119, s "Checker.own_local" 1120, s fl 1121, j 469, j 3, z, z, j 3, r 626, T, j 181, r 627, N, r 628, r 629, r 630, j 1125, j 469, s fl 1126],
 fo "Checker.own_local" (ms 82 10) N (s "chancore.check_state" 1004) 631,
 tu [],
 cz [],
 tu [s "self" 1131, s "T" 1132, s "param_names" 1133, s "result_names" 1134, s "spot" 1135],
 tu [],
 fz "Checker.begin" (ms 82 11),
 co [s "begin" 1128, s "Checker.begin" 1129, s fl 1130, j 472, j 5, z, z, j 3, r 633, T, j 181, r 634, N, r 635, r 636, r 637, j 1136, j 472, s fl 1137],
 fo "Checker.begin" (ms 82 11) N (s "chancore.check_state" 1004) 638,
 tu [],
 cz [],
 tu [s "self" 1142, s "body" 1143],
 tu [],
 fz "Checker.finished" (ms 82 12),
 co [s "finished" 1139, s "Checker.finished" 1140, s fl 1141, j 475, j 2, z, z, j 3, r 640, T, j 181, r 641, N, r 642, r 643, r 644, j 1144, j 475, s fl 1145],
 fo "Checker.finished" (ms 82 12) N (s "chancore.check_state" 1004) 645,
 tu [s "captured" 1147, s "has_result_names" 1148, s "key" 1149, s "literals" 1150, s "locals" 1151, s "loops" 1152, s "outer" 1153, s "package" 1154, s "params" 1155, s "readers" 1156, s "result_locals" 1157, s "results" 1158, s "run_body" 1159, s "scope" 1160, s "world" 1161]]
noncomputable def c12 (P : Params) : List Obj := [
 di [e P "__module__" 1016 (s "chancore.check_state" 1004), e P "__firstlineno__" 1020 (i 401 1019), e P "__init__" 1034 (r 558), e P "expr" 1043 (r 566), e P "value" 1053 (r 574), e P "typex" 1061 (r 581), e P "coerce" 1073 (r 588), e P "takes_type" 1082 (r 595), e P "open" 1089 (r 602), e P "close" 1098 (r 609), e P "hidden" 1107 (r 617), e P "declare" 1118 (r 625), e P "own_local" 1127 (r 632), e P "begin" 1138 (r 639), e P "finished" 1146 (r 646), e P "__static_attributes__" 1162 (r 647), e P "__dict__" 1164 (r 650), e P "__weakref__" 1166 (r 651), e P "__doc__" 1167 N] 4,
 {cls := (t "type"), data := Data.cls { name := Str.ofString "Checker", bases := [t "object"], mro := [r 649, t "object"], ns := 648, qualname := Str.ofString "Checker" }, slots := #[none, none, some (s "Checker" 1009), some (s "Checker" 1017), some (u "object.__new__"), some (T)] },
 fs "getset_descriptor" [s "__dict__" 1163, r 649, u "function.__dict__", u "function.__dict__#set"],
 fs "getset_descriptor" [s "__weakref__" 1165, r 649, u "ExceptionGroup.__weakref__", N],
 fs "super" [r 649, r 649, r 649],
 fs "builtin_function_or_method" [u "object.__init_subclass__", r 649],
 tu [],
 tu [],
 tu [s "func" 1172, r 654, r 655, F],
 tu [],
 fs "builtin_function_or_method" [u "type.__prepare__", t "type"],
 di [e P "__module__" 1181 (s "chancore.world" 1170), e P "__qualname__" 1183 (s "NamedRow" 1182), e P "__firstlineno__" 1185 (i 479 1184), e P "__init__" 1196 (r 670), e P "__static_attributes__" 1201 (r 671)] 5,
 tu [],
 cz [j 481, j 4, r 669],
 co [s "NamedRow" 1176, s "NamedRow" 1177, s fl 1178, j 479, z, z, z, z, r 660, F, j 181, r 661, N, N, N, N, j 1179, j 479, s fl 1180],
 fr [some (r 662), some (r 3), some (r 659), none, some (s "chancore.world" 1170), none, some (r 0)],
 tu [],
 cz [],
 tu [s "self" 1189, s "path" 1190, s "package" 1191, s "underlying" 1192, s "methods" 1193],
 tu [],
 fz "NamedRow.__init__" (ms 85 0),
 co [s "__init__" 1186, s "NamedRow.__init__" 1187, s fl 1188, j 481, j 5, z, z, j 3, r 664, T, j 181, r 665, N, r 666, r 667, r 668, j 1194, j 481, s fl 1195],
 fo "NamedRow.__init__" (ms 85 0) N (s "chancore.world" 1170) 669,
 tu [s "methods" 1197, s "package" 1198, s "path" 1199, s "underlying" 1200],
 di [e P "__module__" 1181 (s "chancore.world" 1170), e P "__firstlineno__" 1185 (i 479 1184), e P "__init__" 1196 (r 670), e P "__static_attributes__" 1201 (r 671), e P "__dict__" 1203 (r 674), e P "__weakref__" 1205 (r 675), e P "__doc__" 1206 N] 4,
 {cls := (t "type"), data := Data.cls { name := Str.ofString "NamedRow", bases := [t "object"], mro := [r 673, t "object"], ns := 672, qualname := Str.ofString "NamedRow" }, slots := #[none, none, some (s "NamedRow" 1174), some (s "NamedRow" 1182), some (u "object.__new__"), some (T)] },
 fs "getset_descriptor" [s "__dict__" 1202, r 673, u "function.__dict__", u "function.__dict__#set"],
 fs "getset_descriptor" [s "__weakref__" 1204, r 673, u "ExceptionGroup.__weakref__", N],
 fs "super" [r 673, r 673, r 673],
 fs "builtin_function_or_method" [u "object.__init_subclass__", r 673],
 tu [],
 cz [],
 tu [s "text" 1212, s "adding" 1213, s "held" 1214, s "told" 1215, s "locks" 1216, s "waits" 1217],
 tu [],
 fz "known_rows" (st 86),
 co [s "known_rows" 1209, s "known_rows" 1210, s fl 1211, j 486, z, z, z, j 3, r 678, T, j 181, r 679, N, r 680, r 681, r 682, j 1218, j 486, s fl 1219],
 fo "known_rows" (st 86) N (s "chancore.world" 1170) 683,
 tu [],
 fs "builtin_function_or_method" [u "type.__prepare__", t "type"],
 di [e P "__module__" 1228 (s "chancore.world" 1170), e P "__qualname__" 1230 (s "World" 1229), e P "__firstlineno__" 1232 (i 494 1231), e P "__init__" 1240 (r 699), e P "base_of" 1249 (r 706), e P "settled" 1257 (r 713), e P "__static_attributes__" 1271 (r 714)] 7,
 tu [],
 cz [j 496, j 4, r 698, j 511, j 4, r 705, j 523, j 4, r 712],
 co [s "World" 1223, s "World" 1224, s fl 1225, j 494, z, z, z, z, r 688, F, j 181, r 689, N, N, N, N, j 1226, j 494, s fl 1227],
 fr [some (r 690), some (r 3), some (r 687), none, some (s "chancore.world" 1170), none, some (r 0)],
 tu [N],
 tu [],
 cz [],
 tu [s "self" 1236, s "packages" 1237],
 tu [],
 fz "World.__init__" (ms 87 0),
 co [s "__init__" 1233, s "World.__init__" 1234, s fl 1235, j 496, j 2, z, z, j 3, r 693, T, j 181, r 694, N, r 695, r 696, r 697, j 1238, j 496, s fl 1239],
 fo "World.__init__" (ms 87 0) (r 692) (s "chancore.world" 1170) 698,
 tu [],
 cz []]
noncomputable def c13 (P : Params) : List Obj := [
 tu [s "self" 1244, s "told" 1245, s "row" 1246],
 tu [],
 fz "World.base_of" (ms 87 1),
 co [s "base_of" 1241, s "World.base_of" 1242, s fl 1243, j 511, j 2, z, z, j 3, r 700, T, j 181, r 701, N, r 702, r 703, r 704, j 1247, j 511, s fl 1248],
 fo "World.base_of" (ms 87 1) N (s "chancore.world" 1170) 705,
 tu [],
 cz [],
 tu [s "self" 1253, s "entry" 1254],
 tu [],
 fz "World.settled" (ms 87 2),
 co [s "settled" 1250, s "World.settled" 1251, s fl 1252, j 523, j 2, z, z, j 3, r 707, T, j 181, r 708, N, r 709, r 710, r 711, j 1255, j 523, s fl 1256],
 fo "World.settled" (ms 87 2) N (s "chancore.world" 1170) 712,
 tu [s "bodies" 1258, s "consts" 1259, s "files" 1260, s "funcs" 1261, s "globals" 1262, s "is_whole" 1263, s "late_keys" 1264, s "named" 1265, s "order" 1266, s "packages" 1267, s "scopes" 1268, s "settle" 1269, s "starts" 1270],
 di [e P "__module__" 1228 (s "chancore.world" 1170), e P "__firstlineno__" 1232 (i 494 1231), e P "__init__" 1240 (r 699), e P "base_of" 1249 (r 706), e P "settled" 1257 (r 713), e P "__static_attributes__" 1271 (r 714), e P "__dict__" 1273 (r 717), e P "__weakref__" 1275 (r 718), e P "__doc__" 1276 N] 4,
 {cls := (t "type"), data := Data.cls { name := Str.ofString "World", bases := [t "object"], mro := [r 716, t "object"], ns := 715, qualname := Str.ofString "World" }, slots := #[none, none, some (s "World" 1221), some (s "World" 1229), some (u "object.__new__"), some (T)] },
 fs "getset_descriptor" [s "__dict__" 1272, r 716, u "function.__dict__", u "function.__dict__#set"],
 fs "getset_descriptor" [s "__weakref__" 1274, r 716, u "ExceptionGroup.__weakref__", N],
 fs "super" [r 716, r 716, r 716],
 fs "builtin_function_or_method" [u "object.__init_subclass__", r 716],
 tu [],
 cz [],
 tu [s "script" 1284, s "k" 1285, s "cell" 1286, s "big" 1287, s "mixed" 1288],
 tu [],
 fz "_law_pool" (st 89),
 co [s "_law_pool" 1281, s "_law_pool" 1282, s fl 1283, j 526, j 2, z, z, j 3, r 721, T, j 181, r 722, N, r 723, r 724, r 725, j 1289, j 526, s fl 1290],
 fo "_law_pool" (st 89) N (s "law_on0046_01" 1279) 726,
 tu [],
 cz [],
 tu [s "source" 1295, s "top" 1296, s "drawn" 1297],
 tu [],
 fz "_law_take" (st 90),
 co [s "_law_take" 1292, s "_law_take" 1293, s fl 1294, j 531, j 2, z, z, j 3, r 728, T, j 181, r 729, N, r 730, r 731, r 732, j 1298, j 531, s fl 1299],
 fo "_law_take" (st 90) N (s "law_on0046_01" 1279) 733,
 tu [],
 cz [],
 tu [s "source" 1304, s "things" 1305],
 tu [],
 fz "_law_one" (st 91),
 co [s "_law_one" 1301, s "_law_one" 1302, s fl 1303, j 538, j 2, z, z, j 3, r 735, T, j 181, r 736, N, r 737, r 738, r 739, j 1306, j 538, s fl 1307],
 fo "_law_one" (st 91) N (s "law_on0046_01" 1279) 740,
 tu [s "int" 1309, s "int" 1310],
 tu [s "named" 1312, s "m.P" 1313],
 tu [],
 cz [],
 tu [s "more" 1318, s "plain" 1319],
 tu [],
 fz "_law_funcs" (st 94),
 co [s "_law_funcs" 1315, s "_law_funcs" 1316, s fl 1317, j 542, z, z, z, j 3, r 744, T, j 181, r 745, N, r 746, r 747, r 748, j 1320, j 542, s fl 1321],
 fo "_law_funcs" (st 94) N (s "law_on0046_01" 1279) 749,
 tu [],
 cz [],
 tu [s "world" 1326, s "methods" 1327],
 tu [],
 fz "_law_checker" (st 95)]
noncomputable def c14 (P : Params) : List Obj := [
 co [s "_law_checker" 1323, s "_law_checker" 1324, s fl 1325, j 546, z, z, z, j 3, r 751, T, j 181, r 752, N, r 753, r 754, r 755, j 1328, j 546, s fl 1329],
 fo "_law_checker" (st 95) N (s "law_on0046_01" 1279) 756,
 tu [],
 cz [],
 fz "_law_told" (st 96),
 co [s "_law_told" 1331, s "_law_told" 1332, s fl 1333, j 552, j 4, z, z, j 3, r 758, T, j 181, r 759, N, N, N, r 760, j 1334, j 552, s fl 1335],
 fo "_law_told" (st 96) N (s "law_on0046_01" 1279) 761,
 tu [],
 cz [],
 tu [s "source" 1340, s "T" 1341, s "some" 1342],
 tu [],
 fz "_law_value" (st 97),
 co [s "_law_value" 1337, s "_law_value" 1338, s fl 1339, j 560, j 2, z, z, j 3, r 763, T, j 181, r 764, N, r 765, r 766, r 767, j 1343, j 560, s fl 1344],
 fo "_law_value" (st 97) N (s "law_on0046_01" 1279) 768,
 tu [],
 cz [],
 tu [s "e" 1349, s "T" 1350, s "is_plain" 1351],
 tu [],
 fz "_law_as" (st 98),
 co [s "_law_as" 1346, s "_law_as" 1347, s fl 1348, j 567, j 2, z, z, j 3, r 770, T, j 181, r 771, N, r 772, r 773, r 774, j 1352, j 567, s fl 1353],
 fo "_law_as" (st 98) N (s "law_on0046_01" 1279) 775,
 tu [],
 cz [],
 fz "_law_arguments" (st 99),
 co [s "_law_arguments" 1355, s "_law_arguments" 1356, s fl 1357, j 572, j 2, z, z, j 3, r 777, T, j 181, r 778, N, N, N, r 779, j 1358, j 572, s fl 1359],
 fo "_law_arguments" (st 99) N (s "law_on0046_01" 1279) 780,
 tu [],
 cz [],
 tu [s "func" 1364],
 tu [],
 fz "_law_result" (st 100),
 co [s "_law_result" 1361, s "_law_result" 1362, s fl 1363, j 590, j 1, z, z, j 3, r 782, T, j 181, r 783, N, r 784, r 785, r 786, j 1365, j 590, s fl 1366],
 fo "_law_result" (st 100) N (s "law_on0046_01" 1279) 787,
 tu [],
 cz [],
 tu [s "source" 1371, s "name" 1372, s "func" 1373, s "made" 1374, s "es" 1375, s "is_spread" 1376, s "some" 1377, s "called" 1378, s "due" 1379],
 tu [],
 fz "_law_function_right" (st 101),
 co [s "_law_function_right" 1368, s "_law_function_right" 1369, s fl 1370, j 592, j 1, z, z, j 3, r 789, T, j 181, r 790, N, r 791, r 792, r 793, j 1380, j 592, s fl 1381],
 fo "_law_function_right" (st 101) N (s "law_on0046_01" 1279) 794,
 tu [],
 cz [],
 tu [s "source" 1386, s "name" 1387, s "func" 1388, s "way" 1389, s "given" 1390, s "made" 1391, s "es" 1392, s "is_spread" 1393, s "some" 1394, s "due" 1395, s "led" 1396],
 tu [],
 fz "_law_method_right" (st 102),
 co [s "_law_method_right" 1383, s "_law_method_right" 1384, s fl 1385, j 600, j 1, z, z, j 3, r 796, T, j 181, r 797, N, r 798, r 799, r 800, j 1397, j 600, s fl 1398],
 fo "_law_method_right" (st 102) N (s "law_on0046_01" 1279) 801,
 tu [],
 cz [],
 tu [s "script" 1403, s "k" 1404, s "source" 1405, s "turn" 1406, s "lock" 1407, s "due" 1408, s "one" 1409, s "word" 1410, s "told" 1411],
 tu [],
 fz "law" (st 103),
 co [s "law" 1400, s "law" 1401, s fl 1402, j 617, j 1, z, z, j 3, r 803, T, j 181, r 804, N, r 805, r 806, r 807, j 1412, j 617, s fl 1413],
 fo "law" (st 103) N (s "law_on0046_01" 1279) 808]
noncomputable def objs (P : Params) : List Obj := c0 P ++ (c1 P ++ (c2 P ++ (c3 P ++ (c4 P ++ (c5 P ++ (c6 P ++ (c7 P ++ (c8 P ++ (c9 P ++ (c10 P ++ (c11 P ++ (c12 P ++ (c13 P ++ (c14 P))))))))))))))
noncomputable def sp : List Obj → List Obj × List Obj
 | [] => ([], [])
 | x :: l => ((x :: (sp l).2), (sp l).1)
noncomputable def btOf : Nat → List Obj → BT
 | 0, _ => .nil
 | _ + 1, [] => .nil
 | f + 1, v :: l => .node v (btOf f (sp l).1) (btOf f (sp l).2)
noncomputable def objs0 (P : Params) : List Obj := [boot_o_0 P, boot_o_1 P, boot_o_2 P, boot_o_3 P, boot_o_4 P, boot_o_5 P, boot_o_6 P, boot_o_7 P, boot_o_8 P, boot_o_9 P, boot_o_10 P,
 tu [], cz [],
 co [s "<module>" 182, s "<module>" 183, s fl 184, j 1, z, z, z, z, r 11, F, j 181, r 12, N, N, N, N, j 185, j 1, s fl 186],
 fr [some (r 13), some (r 3), some (r 3), none, some (s "__main__" 164), none, some (r 0)]]
noncomputable def objM (P : Params) (k n c : Nat) (x : String) (m : Nat) : List Obj := (((objs P).take n).set 3 (di (e P "__name__" 165 (s x m) :: ((mE P).take k).tail) k)).set 12 (cz (zE.take c))
noncomputable def H0 (P : Params) : Heap := { objs := { toList := objs0 P } }
noncomputable def H1 (P : Params) : Heap := { objs := { toList := objs P } }
noncomputable def env0 : SE := { scope := pw.main.scope, locals := mainNs, globals := mainNs, cells := [], code := .ref 13, frame := some 14 }
noncomputable abbrev body : List Stmt := behindTheImports pw
noncomputable abbrev cd : Code := .body body env0
noncomputable abbrev p0 : Pos := { line := 0, col := 0, endLine := 0, endCol := 0 }
noncomputable abbrev p1 : Pos := { line := 617, col := 0, endLine := 629, endCol := 86 }
noncomputable abbrev stk : List Frame := [topFrame p0]
theorem pre_ (w : World) : (fun os : OsState => Fast.tw15667345088766844465 Fast.tw14364793385576792824 pw w 11 (some (.ref 6)) 12 { heap := boot_heap w.params, drawn := boot_drawn, toks := boot_toks, os := os } (topStub pw)) =
  fun os => some ({ heap := H0 w.params, toks := 187, os := os }, { cur := Fast.tw11892475500146522536 Fast.tw14364793385576792824 cd, code := cd, pos := p0, stack := stk }) := by
 kernel_rfl
theorem block_ (w : World) : (fun os : OsState => Fast.tw14374325043358763698 Fast.tw14364793385576792824 pw w 11 (some (.ref 6)) 1 1 { heap := H0 w.params, toks := 187, os := os } (blockOf body env0 cd p0 stk)) =
  fun os => some (Flow.next, { tree := btOf 5 (objs0 w.params), n := 15, life := {}, gens := #[], drawn := {}, toks := 187, os := os : SharedT}.abs, cd, p0) := by
 kernel_rfl
noncomputable abbrev stM (P : Params) (k n c : Nat) (x : String) (m tk : Nat) (os : OsState) : SharedT := { tree := btOf 11 (objM P k n c x m), n := n, life := {}, gens := #[], drawn := {}, toks := tk, os := os }
noncomputable abbrev SegAt (w : World) (f : Nat) (l : List Stmt) (p q : Pos) (a b : OsState → SharedT) : Prop := (fun os : OsState => Fast.tw10110043849684766642 Fast.tw14364793385576792824 pw w 11 (some (.ref 6)) 1 f (a os) (piecesOf l env0 cd p stk)) = fun os => some (Flow.next, b os, cd, q)
noncomputable abbrev pa : Pos := { line := 134, col := 0, endLine := 141, endCol := 16 }
noncomputable abbrev pb : Pos := { line := 335, col := 0, endLine := 339, endCol := 51 }
noncomputable abbrev pc : Pos := { line := 526, col := 0, endLine := 530, endCol := 46 }
noncomputable abbrev s0 (P : Params) (os : OsState) : SharedT := { tree := btOf 5 (objs0 P), n := 15, life := {}, gens := #[], drawn := {}, toks := 187, os := os }
noncomputable abbrev sa (P : Params) : OsState → SharedT := stM P 44 240 78 "chancore.lookup" 436 503
noncomputable abbrev sb (P : Params) : OsState → SharedT := stM P 74 448 159 "chancore.assign" 865 878
noncomputable abbrev sc (P : Params) : OsState → SharedT := stM P 85 728 186 "law_on0046_01" 1279 1292
noncomputable abbrev s1 (P : Params) (os : OsState) : SharedT := { tree := btOf 11 (objs P), n := 810, life := {}, gens := #[], drawn := {}, toks := 1415, os := os }
noncomputable abbrev Sega (w : World) : Prop := SegAt w 1940 (body.take 40) p0 pa (s0 w.params) (sa w.params)
theorem segaF (w : World) : Sega (w.withFollow "special-get-raises" false) := by
 unfold Sega SegAt
 kernel_rfl
theorem segaT (w : World) : Sega (w.withFollow "special-get-raises" true) := by
 unfold Sega SegAt
 kernel_rfl
theorem sega_ (w : World) : Sega w := byRow2 "special-get-raises" segaF segaT w
noncomputable abbrev Segb (w : World) : Prop := SegAt w 1410 ((body.drop 40).take 35) pa pb (sa w.params) (sb w.params)
theorem segbF (w : World) : Segb (w.withFollow "special-get-raises" false) := by
 unfold Segb SegAt
 kernel_rfl
theorem segbT (w : World) : Segb (w.withFollow "special-get-raises" true) := by
 unfold Segb SegAt
 kernel_rfl
theorem segb_ (w : World) : Segb w := byRow2 "special-get-raises" segbF segbT w
noncomputable abbrev Segc (w : World) : Prop := SegAt w 1875 (((body.drop 40).drop 35).take 15) pb pc (sb w.params) (sc w.params)
theorem segcF (w : World) : Segc (w.withFollow "special-get-raises" false) := by
 unfold Segc SegAt
 kernel_rfl
theorem segcT (w : World) : Segc (w.withFollow "special-get-raises" true) := by
 unfold Segc SegAt
 kernel_rfl
theorem segc_ (w : World) : Segc w := byRow2 "special-get-raises" segcF segcT w
noncomputable abbrev Segd (w : World) : Prop := SegAt w 410 (((body.drop 40).drop 35).drop 15) pc p1 (sc w.params) (s1 w.params)
theorem segdF (w : World) : Segd (w.withFollow "special-get-raises" false) := by
 unfold Segd SegAt
 kernel_rfl
theorem segdT (w : World) : Segd (w.withFollow "special-get-raises" true) := by
 unfold Segd SegAt
 kernel_rfl
theorem segd_ (w : World) : Segd w := byRow2 "special-get-raises" segdF segdT w
theorem cut4 {α : Type} (l : List α) : l = l.take 40 ++ ((l.drop 40).take 35 ++ (((l.drop 40).drop 35).take 15 ++ (((l.drop 40).drop 35).drop 15 ++ []))) := by
 rw [List.append_nil, List.take_append_drop, List.take_append_drop, List.take_append_drop]
theorem fin_ (w : World) : (fun os : OsState => Fast.tw14082659384304107361 Fast.tw14364793385576792824 pw w 11 (some (.ref 6)) 2 { tree := btOf 11 (objs w.params), n := 810, life := {}, gens := #[], drawn := {}, toks := 1415, os := os : SharedT}.abs
   {cur := doneF Flow.next, code := cd, pos := p1, stack := stk }) = fun os => some { heap := H1 w.params, toks := 1415, os := os } := by
 kernel_rfl
theorem run_ (w : World) (os : OsState) : topRun treeTable pw w 11 (some (.ref 6)) (12 + (1 + (1940 + (1410 + (1875 + (410 + 2)))))) { heap := boot_heap w.params, drawn := boot_drawn, toks := boot_toks, os := os } (topStub pw) = some { heap := H1 w.params, toks := 1415, os := os } := by
 refine go_top (by rw [Fast.te15667345088766844465, Fast.te14364793385576792824]; exact congrFun (pre_ w) os) ?_
 rw [← Fast.te11892475500146522536, ← Fast.te14364793385576792824]
 refine piece_block (q := p0) (b := body) (by rw [Fast.te14374325043358763698, Fast.te14364793385576792824]; exact congrFun (block_ w) os) ?_
 rw [show restOf body env0 cd p0 [topFrame p0] = restOf (body.take 40 ++ ((body.drop 40).take 35 ++ (((body.drop 40).drop 35).take 15 ++ (((body.drop 40).drop 35).drop 15 ++ [])))) env0 cd p0 [topFrame p0] from congrArg (fun l => restOf l env0 cd p0 [topFrame p0]) (cut4 body)]
 refine piece_app (segRun_of (by rw [Fast.te10110043849684766642, Fast.te14364793385576792824]; exact congrFun (sega_ w) os)) ?_
 refine piece_app (segRun_of (by rw [Fast.te10110043849684766642, Fast.te14364793385576792824]; exact congrFun (segb_ w) os)) ?_
 refine piece_app (segRun_of (by rw [Fast.te10110043849684766642, Fast.te14364793385576792824]; exact congrFun (segc_ w) os)) ?_
 refine piece_app (segRun_of (by rw [Fast.te10110043849684766642, Fast.te14364793385576792824]; exact congrFun (segd_ w) os)) ?_
 rw [Fast.te14082659384304107361, Fast.te14364793385576792824]
 exact congrFun (fin_ w) os
end Mine.Hp
end
section
open PySem PySem.W PyProof.Rows
set_option maxHeartbeats 4000000
namespace Mine.Hp
noncomputable abbrev rw_ : OpenLaw := PySem.Challenge.rw_on0046_01
theorem said : rw_.wellSaid = true := by
 delta OpenLaw.wellSaid
 repeat' (with_reducible refine look_both ?_ ?_)
 all_goals (try (delta OpenRow.wellSaid))
 all_goals (repeat' (with_reducible refine look_both ?_ ?_))
 all_goals (try (delta OpenRow.partSaid))
 all_goals (repeat' (with_reducible refine look_both ?_ ?_))
 all_goals (try (delta looksOpen))
 all_goals (repeat' (with_reducible refine look_both ?_ ?_))
 all_goals (as_aux_lemma =>
  try rw [PySem.W.R.allR_eq]
  try rw [PySem.W.Fast.te10501279942588096481]
  try rw [PySem.W.Fast.te8179353310426384613]
  try rw [PySem.W.Fast.te8326940854005059898]
  try rw [PySem.W.Fast.te9558739934217749035]
  try rw [PySem.W.Fast.te16286561074155671207]
  try rw [PySem.W.Fast.sDec_eq]
  try rw [PySem.W.Fast.named_eq]
  try rw [PySem.W.Fast.te6984425678791042302]
  try rw [PySem.W.Fast.te17095254045102204799]
  try rw [PySem.W.Fast.te12879404354523853263]
  try rw [PySem.W.Fast.te482687673346738481]
  try rw [PySem.W.Fast.te17119622794617984870]
  try rw [PySem.W.Fast.te3471404346716756564]
  try rw [PySem.W.Fast.te10792542408131684335]
  try rw [PySem.W.Fast.te7723801398212525404]
  try rw [PySem.W.Fast.te3471404346716756564]
  try rw [PySem.W.Fast.sDec_eq]
  try rw [PySem.W.Fast.te18344453789297297638]
  try rw [PySem.W.Fast.te12749700546528644094]
  try rw [PySem.W.R.allR_eq]
  try rw [PySem.W.Fast.te9706382859710513879]
  try rw [PySem.W.Fast.te3471404346716756564]
  try rw [PySem.W.Fast.sDec_eq]
  try rw [PySem.W.Fast.te18344453789297297638]
  try rw [PySem.W.S.strDecS_eq]
  try rw [PySem.W.Fast.te2357444279172408678]
  try rw [PySem.W.R.mapR_eq]
  try rw [PySem.W.Fast.te4857012375875476094]
  try rw [PySem.W.Fast.named_eq]
  try rw [PySem.W.Fast.te13582783067957832011]
  try rw [PySem.W.Fast.te5318747976498570220]
  try rw [PySem.W.R.anyR_eq]
  try rw [PySem.W.Fast.te4274047373036748609]
  try rw [PySem.W.Fast.te11788848310118352699]
  try rw [PySem.W.Fast.te9807087744658564304]
  try rw [PySem.W.Fast.te12862048085361865435]
  try rw [PySem.W.Fast.te8377067652309620493]
  try rw [PySem.W.R.allR_eq]
  try rw [PySem.W.Fast.te18344453789297297638]
  try rw [PySem.W.Fast.te3471404346716756564]
  try rw [PySem.W.Fast.sDec_eq]
  try rw [PySem.W.Fast.te14412699480532031325]
  try rw [PySem.W.Fast.te8326940854005059898]
  try rw [PySem.W.Fast.te5923862056798008813]
  try rw [PySem.W.Fast.te17691160309236699985]
  try rw [PySem.W.R.filterR_eq]
  try rw [PySem.W.Fast.te13343964577679436407]
  try rw [PySem.W.Fast.te17119622794617984870]
  try rw [PySem.W.Fast.te17868728402115742887]
  kernel_rfl)
end Mine.Hp
end
section
open PySem PySem.W PyProof.Rows
namespace Mine.Hp
noncomputable def lawSt : Stmt := st 103
noncomputable def view : Program := { pw with main := { pw.main with body := [lawSt] } }
noncomputable def view0 : Program := { pw with main := { pw.main with body := [] } }
noncomputable def loose : List Str := [Str.ofString "_wall", Str.ofString "TEXT", Str.ofString "TRUTH", Str.ofString "WHOLE", Str.ofString "RUNE", Str.ofString "NIL", Str.ofString "UNTYPED_DEFAULTS", Str.ofString "NILABLE", Str.ofString "joined_texts", Str.ofString "signature_text", Str.ofString "field_text", Str.ofString "braced_text", Str.ofString "chan_text", Str.ofString "type_text", Str.ofString "underlying_of", Str.ofString "is_named", Str.ofString "is_untyped", Str.ofString "default_type", Str.ofString "is_interface", Str.ofString "is_truth", Str.ofString "has_nil", Str.ofString "element_of", Str.ofString "NOTHING", Str.ofString "packed", Str.ofString "PLACES", Str.ofString "is_place", Str.ofString "ChanError", Str.ofString "NameFault", Str.ofString "TypeFault", Str.ofString "FlowFault", Str.ofString "Reached", Str.ofString "without_pointer", Str.ofString "own_methods", Str.ofString "members_at", Str.ofString "embedded_in", Str.ofString "Levels", Str.ofString "start_type", Str.ofString "find_member", Str.ofString "is_exported", Str.ofString "is_hidden", Str.ofString "owner_of", Str.ofString "member_of", Str.ofString "led_through", Str.ofString "field_at", Str.ofString "gone_along", Str.ofString "receiver_of", Str.ofString "LIBRARY", Str.ofString "result_type", Str.ofString "plain_arguments", Str.ofString "check_arguments", Str.ofString "check_method_call", Str.ofString "check_value_call", Str.ofString "BITS", Str.ofString "MOST_BITS", Str.ofString "is_unsigned", Str.ofString "int_range", Str.ofString "is_in_range", Str.ofString "representable", Str.ofString "names_of_methods", Str.ofString "member_or_none", Str.ofString "is_in_set", Str.ofString "method_set", Str.ofString "lack_of", Str.ofString "implements", Str.ofString "is_like_chan", Str.ofString "meets_face", Str.ofString "is_assignable", Str.ofString "is_const_assignable", Str.ofString "Scope", Str.ofString "UNTYPED_TRUTH", Str.ofString "Checker", Str.ofString "PLAIN", Str.ofString "NamedRow", Str.ofString "known_rows", Str.ofString "World", Str.ofString "_law_pool", Str.ofString "_law_take", Str.ofString "_law_one", Str.ofString "_law_int", Str.ofString "_law_P", Str.ofString "_law_funcs", Str.ofString "_law_checker", Str.ofString "_law_told", Str.ofString "_law_value", Str.ofString "_law_as", Str.ofString "_law_arguments", Str.ofString "_law_result", Str.ofString "_law_function_right", Str.ofString "_law_method_right"]
noncomputable def loose0 : List Str := Str.ofString "law" :: loose
theorem size_ (w : World) : ((boot_heap w.params).isNs mainGlobals && (#[] : Array GenState).size == 0, (boot_heap w.params).objs.size, (boot_heap w.params).nsMap mainGlobals (Str.ofString "__annotations__")) = (true, 11, some (.ref 6)) := by
 kernel_rfl
noncomputable def hB (P : Params) : Heap := hideAll (H1 P) [752]
noncomputable def hook : Hook where
 α := Heap
 obs s := s.heap
 val w := H1 w.params
 says w h := (H1 w.params).StaysIn h
 of := fun w s x => by
  have x : s.heap = H1 w.params := x
  rw [x]
  exact fun z_ z_ e => e
 keeps := fun w h h' x k a o e => k a o (x a o e)
theorem lk1 (w : World) : (fun os : OsState => staticsOk (importedModules pw.main.body) (boot_heap w.params) (H1 w.params) && namesBound pw (H1 w.params) && gensDone { heap := H1 w.params, toks := 1415, os := os } && laidKept (boot_heap w.params) (H1 w.params)) = fun z_ => true := by
 kernel_rfl
theorem lk2 (w : World) : (fun os : OsState => seen ((recsOf view).map (·.name)) (ownsOf view) [] { ({ heap := H1 w.params, toks := 1415, os := os } : Shared) with gens := #[] }) = fun z_ => expectedOf view := by
 kernel_rfl
theorem lk3 (w : World) : (fun os : OsState => ({ heap := H1 w.params, toks := 1415, os := os } : Shared).heap.bltView) = fun z_ => bltViewBooted := by
 kernel_rfl
theorem lk4a (w : World) : (fun os : OsState => ({ heap := H1 w.params, toks := 1415, os := os } : Shared).heap.keysOk (looseW view loose) ((recsOf view).map (·.name)) ((litsOf view).map (·.1)) ((clssOf view (looseW view loose)).map (·.name))) = fun z_ => true := by
 kernel_rfl
theorem lk4b (w : World) : (fun os : OsState => ({ heap := H1 w.params, toks := 1415, os := os } : Shared).heap.accountedOkI (importedModules pw.main.body)) = fun z_ => true := by
 kernel_rfl
theorem lk4c (w : World) : (fun os : OsState => ({ heap := H1 w.params, toks := 1415, os := os } : Shared).heap.isNs mainGlobals) = fun z_ => true := by
 kernel_rfl
theorem lk4e (w : World) : (fun os : OsState => ({ heap := H1 w.params, toks := 1415, os := os } : Shared).heap.isNs builtinsNs) = fun z_ => true := by
 kernel_rfl
theorem lk4d (w : World) : (fun os : OsState => tablesOk view ({ heap := H1 w.params, toks := 1415, os := os } : Shared).heap) = fun z_ => true := by
 kernel_rfl
theorem lk5 (w : World) : (fun os : OsState => tabsOk view { heap := H1 w.params, toks := 1415, os := os }) = fun z_ => true := by
 kernel_rfl
theorem lk6 (w : World) : (fun os : OsState => pinSeenD view (drecsOf view) { heap := H1 w.params, toks := 1415, os := os }) = fun z_ => pinGoodD (drecsOf view) := by
 kernel_rfl
theorem lk7 (w : World) : (fun os : OsState => plainSeenE view (looseW view loose) { heap := H1 w.params, toks := 1415, os := os }) = fun z_ => plainGoodE view (looseW view loose) := by
 kernel_rfl
theorem lk8 (w : World) : (fun os : OsState => plainSeenD view loose { heap := H1 w.params, toks := 1415, os := os }) = fun z_ => plainGoodD view loose := by
 kernel_rfl
theorem lk9 (w : World) : (fun os : OsState => wideSeen view { heap := H1 w.params, toks := 1415, os := os }) = fun z_ => wideGood view := by
 kernel_rfl
theorem lk10 (w : World) : (fun os : OsState => clsSeenW view loose { heap := H1 w.params, toks := 1415, os := os }) = fun z_ => clsGoodW view loose := by
 kernel_rfl
theorem zlk2 (w : World) : (fun os : OsState => seen ((recsOf view0).map (·.name)) (ownsOf view0) [] { ({ heap := hB w.params, toks := 1415, os := os } : Shared) with gens := #[] }) = fun z_ => expectedOf view0 := by
 kernel_rfl
theorem zlk3 (w : World) : (fun os : OsState => ({ heap := hB w.params, toks := 1415, os := os } : Shared).heap.bltView) = fun z_ => bltViewBooted := by
 kernel_rfl
theorem zlk4a (w : World) : (fun os : OsState => ({ heap := hB w.params, toks := 1415, os := os } : Shared).heap.keysOk (looseW view0 loose0) ((recsOf view0).map (·.name)) ((litsOf view0).map (·.1)) ((clssOf view0 (looseW view0 loose0)).map (·.name))) = fun z_ => true := by
 kernel_rfl
theorem zlk4e (w : World) : (fun os : OsState => ({ heap := hB w.params, toks := 1415, os := os } : Shared).heap.isNs builtinsNs) = fun z_ => true := by
 kernel_rfl
theorem zlk5 (w : World) : (fun os : OsState => tabsOk view0 { heap := hB w.params, toks := 1415, os := os }) = fun z_ => true := by
 kernel_rfl
theorem left : LeftO pw view loose (fun z_ => true) hook.obs hook.val 6000 true :=
 LeftO.of_pieces (H₀ := boot_heap) (H₁ := H1) (boot_open (by kernel_rfl) (by decide) (fun s => rfl)) size_ run_ (by decide) fun w => by
  funext os
  have e1 := congrFun (lk1 w) os
  have e2 := congrFun (lk2 w) os
  have e3 := congrFun (lk3 w) os
  have e4 := congrFun (lk4a w) os
  have e5 := congrFun (lk4b w) os
  have e6 := congrFun (lk4c w) os
  have e7 := congrFun (lk4e w) os
  have e8 := congrFun (lk4d w) os
  have e9 := congrFun (lk5 w) os
  have e10 := congrFun (lk6 w) os
  have e11 := congrFun (lk7 w) os
  have e12 := congrFun (lk8 w) os
  have e13 := congrFun (lk9 w) os
  have e14 := congrFun (lk10 w) os
  refine congr (congrArg Prod.mk e1) (congr (congrArg Prod.mk ?_) rfl)
  refine congr (congrArg Prod.mk e2) (congr (congrArg Prod.mk e3) (congr (congrArg Prod.mk ?_) (congr (congrArg Prod.mk e9) (congr (congrArg Prod.mk e10) (congr (congrArg Prod.mk e11) (congr (congrArg Prod.mk e12) (congr (congrArg Prod.mk e13) e14)))))))
  dsimp only at e4 e5 e6 e7 e8
  rw [e4, e5, e6, e7, e8]
  rfl
noncomputable def lawRec : DefRec := match lawSt with
 | .FunctionDef n a b _ _ _ sc _ _ p => ⟨n, a, b, sc, p⟩
 | _ => ⟨Str.ofString "", { posonlyargs := [], args := [], vararg := none, kwonlyargs := [], kw_defaults := [], kwarg := none, defaults := [] }, [], default, default⟩
theorem holds_of (call : WalkO view loose (fun z_ z_ => True) hook.says rw_.row.toRowW lawRec [] fun f vs => PySem.call f vs) : rw_.Holds :=
 holds_law said fun said => holds_open (N := 6000) left hook.of hook.keeps (fun z_ z_ => trivial) (fun z_ z_ z_ z_ z_ => trivial) (by kernel_rfl) (by kernel_rfl) (by kernel_rfl) (fun z_ z_ => recFacts_nil (by rfl)) (by rfl) said (by decide +kernel) ⟨rfl, rfl, rfl, rfl, rfl, by decide +kernel⟩ ⟨[.list []], by decide +kernel, by decide +kernel⟩ call
end Mine.Hp
end
section
open PySem PySem.W PyProof.Rows PySem.Calls PySem.SeqAt
open PySem (wpAny_loadPart)
namespace Mine
noncomputable def SqAt (k : Bool) (h : Heap) (a : Addr) (xs : Array Value) : Prop := match k with
 | true => h.IsList a xs
 | false => h.IsTuple a xs
noncomputable def ItAt (k : Bool) (h : Heap) (it a : Addr) (i : Nat) : Prop := match k with
 | true => h.IsListIter it a i
 | false => h.IsTupleIter it a i
noncomputable def itObj (k : Bool) (a : Addr) : Obj := match k with
 | true => { cls := .type "list_iterator", data := .fields #[.ref a, .int 0 0] }
 | false => { cls := .type "tuple_iterator", data := .fields #[.ref a, .int 0 0] }
theorem SqAt.at {k : Bool} {h h' : Heap} {a : Addr} {xs : Array Value} (x : SqAt k h a xs) (e : ∀ o, h.get? a = some o → h'.get? a = some o) : SqAt k h' a xs := by
 cases k <;> (obtain ⟨o, ho, r⟩ := x; exact ⟨o, e _ ho, r⟩)
theorem ItAt.at {k : Bool} {h h' : Heap} {it a : Addr} {i : Nat} (x : ItAt k h it a i) (e : ∀ o, h.get? it = some o → h'.get? it = some o) : ItAt k h' it a i := by
 cases k <;> (obtain ⟨o, ho, r⟩ := x; exact ⟨o, e _ ho, r⟩)
theorem ItAt.ext {k : Bool} {h h' : Heap} {it a e : Addr} {i : Nat} (x : ItAt k h it a i) (q : Heap.ExtBut e h h') (n : it ≠ e) : ItAt k h' it a i := x.at fun o y => q _ o n y
theorem SqAt.ext {k : Bool} {h h' : Heap} {a e : Addr} {xs : Array Value} (x : SqAt k h a xs) (q : Heap.ExtBut e h h') (n : a ≠ e) : SqAt k h' a xs := x.at fun o y => q _ o n y
theorem ItAt.live {k : Bool} {h : Heap} {it a : Addr} {i : Nat} (x : ItAt k h it a i) : ∃ o, h.get? it = some o := by
 cases k <;> (obtain ⟨o, ho, _⟩ := x; exact ⟨o, ho⟩)
theorem SqAt.live {k : Bool} {h : Heap} {a : Addr} {xs : Array Value} (x : SqAt k h a xs) : ∃ o, h.get? a = some o := by
 cases k <;> (obtain ⟨o, ho, _⟩ := x; exact ⟨o, ho⟩)
theorem itObj_at {k : Bool} {h : Heap} {a : Addr} : ItAt k (h.push (itObj k a)) h.objs.size a 0 := by
 cases k <;> exact ⟨_, Heap.get?_push_size _ rfl, rfl, rfl⟩
section
variable {prog : Program} {w : World} {A : Around} {E : VP} {s : Shared}
theorem nextOf_tuple_item {it a : Addr} {i : Nat} {xs : Array Value} {x : Value} {Q : VP} (hit : s.heap.IsTupleIter it a i) (hl : s.heap.IsTuple a xs) (hx : xs[i]? = some x)
  (hQ : ∀ h', h'.IsTupleIter it a (i + 1) → Heap.SameBut it s.heap h' → Q x { s with heap := h' }) : wpAny (model prog w) A (Builtin.SmallTypes.nextOf (.ref it)) Q E s := by
 obtain ⟨o, ho, hc, hd⟩ := id hit
 obtain ⟨ol, hol, _, nl, hdl⟩ := hl
 unfold Builtin.SmallTypes.nextOf
 refine wpAny_bind (wpAny_callSpecial?_slot (name := Str.ofString "__next__") hit.typeIs F.slot_tuple_iterator_next (wpAny_call_entry F.slot_tuple_iterator_next hit.typeIs F.entry_tuple_iterator_next ?_ (F.args_tuple_iterator_next_1 _)))
 show wpAny _ _ (field (.ref it) 0 >>= _) _ _ s
 refine wpAny_bind (wpAny_field ho hd (x := .ref a) rfl ?_)
 show wpAny _ _ (if (Value.ref a == Value.none) = true then _ else _) _ _ s
 rw [if_neg (show ¬ ((Value.ref a == Value.none) = true) from Bool.false_ne_true)]
 show wpAny _ _ (field (.ref it) 1 >>= _) _ _ s
 refine wpAny_bind (wpAny_field ho hd (x := .int i 0) rfl ?_)
 show wpAny _ _ (seqItems? (.ref a) >>= _) _ _ s
 refine wpAny_bind (wpAny_seqItems hol hdl ?_)
 simp only [Int.toNat_natCast, hx]
 refine wpAny_bind (wpAny_setField ho hd (by simp) (wpAny_pure ⟨x, rfl, wpAny_pure (hQ _ ?_ (Heap.SameBut.update ..))⟩))
 exact ⟨_, Heap.get?_update_self _ ho (Obj.isFreed_of_fields (Obj.data_mapFields hd _)), (Obj.cls_mapFields ..).trans hc, by rw [Obj.data_mapFields hd]; simp [rawInt]⟩
theorem nextOf_tuple_end {it a : Addr} {i : Nat} {xs : Array Value} {Q : VP} (hh : A.handled = none) (hit : s.heap.IsTupleIter it a i) (hl : s.heap.IsTuple a xs) (hx : xs[i]? = none)
  (hE : ∀ h' e, Heap.ExtBut it s.heap h' → (∃ o, h'.get? e = some o ∧ o.cls = .type "StopIteration") → E (.ref e) { s with heap := h' }) : wpAny (model prog w) A (Builtin.SmallTypes.nextOf (.ref it)) Q E s := by
 obtain ⟨o, ho, hc, hd⟩ := id hit
 obtain ⟨ol, hol, _, nl, hdl⟩ := hl
 unfold Builtin.SmallTypes.nextOf
 refine wpAny_bind (wpAny_callSpecial?_slot (name := Str.ofString "__next__") hit.typeIs F.slot_tuple_iterator_next (wpAny_call_entry F.slot_tuple_iterator_next hit.typeIs F.entry_tuple_iterator_next ?_ (F.args_tuple_iterator_next_1 _)))
 show wpAny _ _ (field (.ref it) 0 >>= _) _ _ s
 refine wpAny_bind (wpAny_field ho hd (x := .ref a) rfl ?_)
 show wpAny _ _ (if (Value.ref a == Value.none) = true then _ else _) _ _ s
 rw [if_neg (show ¬ ((Value.ref a == Value.none) = true) from Bool.false_ne_true)]
 show wpAny _ _ (field (.ref it) 1 >>= _) _ _ s
 refine wpAny_bind (wpAny_field ho hd (x := .int i 0) rfl ?_)
 show wpAny _ _ (seqItems? (.ref a) >>= _) _ _ s
 refine wpAny_bind (wpAny_seqItems hol hdl ?_)
 simp only [Int.toNat_natCast, hx]
 refine wpAny_bind (wpAny_rule (wpAny_bind (wpAny_setField ho hd (by simp) ?_)))
 show wpAny _ _ (newExc (.type "StopIteration") [] >>= _) _ _ _
 refine wpAny_bind ?_
 simp only [newExc, newTuple]
 refine wpAny_bind (wpAny_newObj_type ?_ (by size_fits))
 refine wpAny_bind (m := firstArgMember _ _) (wpAny_of_eq (a := Value.none) (by first | rfl | (simp only [firstArgMember]; rfl)) ?_)
 refine wpAny_newObj_type ?_ (by size_fits)
 simp only [raiseNew]
 refine wpAny_bind (wpAny_handled ?_)
 first | rw [show A.in1.handled = none from hh] | rw [hh]
 refine wpAny_bind (wpAny_pure (wpAny_throw ?_))
 exact hE _ _ (((Heap.SameBut.update ..).extBut.push _).push _) ⟨_, Heap.get?_push_size _ rfl, rfl⟩
theorem nextOf_item {k : Bool} {it a : Addr} {i : Nat} {xs : Array Value} {x : Value} {Q : VP} (hit : ItAt k s.heap it a i) (hl : SqAt k s.heap a xs) (hx : xs[i]? = some x)
  (hQ : ∀ h', ItAt k h' it a (i + 1) → Heap.SameBut it s.heap h' → Q x { s with heap := h' }) : wpAny (model prog w) A (Builtin.SmallTypes.nextOf (.ref it)) Q E s := by
 cases k with
 | true => exact wpAny_nextOf_list_item hit hl hx hQ
 | false => exact nextOf_tuple_item hit hl hx hQ
theorem nextOf_end {k : Bool} {it a : Addr} {i : Nat} {xs : Array Value} {Q : VP} (hh : A.handled = none) (hit : ItAt k s.heap it a i) (hl : SqAt k s.heap a xs) (hx : xs[i]? = none)
  (hE : ∀ h' e, Heap.ExtBut it s.heap h' → (∃ o, h'.get? e = some o ∧ o.cls = .type "StopIteration") → E (.ref e) { s with heap := h' }) : wpAny (model prog w) A (Builtin.SmallTypes.nextOf (.ref it)) Q E s := by
 cases k with
 | true => exact wpAny_nextOf_list_end hh hit hl hx hE
 | false => exact nextOf_tuple_end hh hit hl hx hE
theorem pyIter_sq {k : Bool} {a : Addr} {xs : Array Value} {Q : VP} (hl : SqAt k s.heap a xs) (hQ : Q (.ref s.heap.objs.size) { s with heap := s.heap.push (itObj k a) }) : wpAny (model prog w) A (pyIter (.ref a)) Q E s := by
 cases k with
 | true => exact wpAny_pyIter_list hl hQ
 | false => exact wpAny_pyIter_tuple hl hQ
theorem walks_sq {k : Bool} (hh : A.handled = none) (I ax : Addr) (hne : ax ≠ I) (items : Array Value) :
  Walks prog w A I [I, ax] [I] items.size (fun i v => items[i]? = some v) (fun i h => ItAt k h I ax i ∧ SqAt k h ax items) := by
 cases k with
 | true => exact Walks.list hh I ax hne items
 | false => exact Walks.tuple hh I ax hne items
theorem draws_sq {k : Bool} (hh : A.handled = none) (it l : Addr) (hne : l ≠ it) (items : Array Value) :
  Draws prog w A it [it, l] items.size (fun i v => items[i]? = some v) (fun i h => ItAt k h it l i ∧ SqAt k h l items) where
 live := fun z_ z_ st => st.1.live
 frame := fun z_ z_ z_ st hk => ⟨st.1.at fun o e => hk it (by simp) o e, st.2.at fun o e => hk l (by simp) o e⟩
 item := fun i s Q E hi st hQ => by
  refine nextOf_item st.1 st.2 (x := items[i]) (by simp [hi]) fun h' hit' hs' => ?_
  exact hQ _ h' s.toks (by simp [hi]) ⟨hit', st.2.ext hs'.extBut hne⟩ hs'
 done := fun s Q E st hE => nextOf_end hh st.1 st.2 (by simp) fun h' e a b => hE h' e a b
end
section
variable {prog : Program} {w : World} {A : Around} {E : VP} {s : Shared}
theorem zipItem {k1 k2 : Bool} {z TI TO i1 i2 l1 l2 : Addr} {j1 j2 : Nat} {xs ys : Array Value} {x y a b : Value} {Q : VP} (D : ZipApart z TI TO i1 i2 l1 l2)
  (hz : IsZip s.heap z TI TO .none) (hTI : IsPair s.heap TI (.ref i1) (.ref i2)) (hTO : IsPair s.heap TO a b)
  (h1 : ItAt k1 s.heap i1 l1 j1) (h2 : ItAt k2 s.heap i2 l2 j2) (hl1 : SqAt k1 s.heap l1 xs) (hl2 : SqAt k2 s.heap l2 ys) (hx : xs[j1]? = some x) (hy : ys[j2]? = some y)
  (hQ : ∀ h', IsZip h' z TI TO (rawInt s.heap.objs.size) → IsPair h' TO x y → ItAt k1 h' i1 l1 (j1 + 1) → ItAt k2 h' i2 l2 (j2 + 1) → IsPair h' s.heap.objs.size x y → h'.objs.size = s.heap.objs.size + 1 →
   (∀ c o, c ≠ z → c ≠ TO → c ≠ i1 → c ≠ i2 → s.heap.get? c = some o → h'.get? c = some o) → Q (.ref s.heap.objs.size) { s with heap := h' }) :
  wpAny (model prog w) A (Builtin.«zip.__next__» ⟨[.ref z], []⟩) (fun fin s' => ∃ v, fin = .done (.ret v) ∧ Q v s') E s := by
 show wpAny _ _ (field (.ref z) 2 >>= _) _ _ _
 refine wpAny_bind (wpAny_field hz rfl (x := .bool false) rfl ?_)
 show wpAny _ _ (field (.ref z) 3 >>= _) _ _ _
 refine wpAny_bind (wpAny_field hz rfl (x := .ref TI) rfl ?_)
 refine wpAny_bind (wpAny_seqItems hTI rfl ?_)
 show wpAny _ _ (Builtin.SmallTypes.ownedTupleIsFree (.ref z) >>= _) _ _ _
 refine wpAny_bind ?_
 unfold Builtin.SmallTypes.ownedTupleIsFree
 refine wpAny_bind (wpAny_field hz rfl (x := .none) rfl (wpAny_pure ?_))
 simp only [if_true]
 refine wpAny_bind (wpAny_rule ?_)
 refine wpAny_bind (wpAny_field hz rfl (x := .ref TO) rfl ?_)
 refine wpAny_bind (wpAny_setField_rec hz (by simp) fun g1 hz1 s1 => ?_)
 replace hz1 : IsZip g1 z TI TO .ellipsis := hz1
 refine wpAny_bind ?_
 simp only [List.zipIdx_cons, List.zipIdx_nil, List.forIn_cons, List.forIn_nil]
 refine wpAny_bind (wpAny_bind (wpAny_onRaise ?_))
 show wpAny _ _ (Builtin.SmallTypes.nextOf (.ref i1) >>= _) _ _ _
 refine wpAny_bind (nextOf_item (h1.ext s1.extBut D.i1z) (hl1.ext s1.extBut D.l1z) hx fun g2 h1' s2 => wpAny_pure ?_)
 have hTO2 : IsPair g2 TO a b := s2.extBut _ _ D.TOi1 (s1.extBut _ _ D.TOz hTO)
 refine wpAny_bind (wpAny_seqItems hTO2 rfl ?_)
 refine wpAny_bind (wpAny_updateSeq_pair hTO2 fun g3 hTO3 s3 => ?_)
 replace hTO3 : IsPair g3 TO x b := hTO3
 refine wpAny_bind (wpAny_letGo (wpAny_pure ?_))
 refine wpAny_bind (wpAny_bind (wpAny_onRaise ?_))
 show wpAny _ _ (Builtin.SmallTypes.nextOf (.ref i2) >>= _) _ _ _
 refine wpAny_bind (nextOf_item (((h2.ext s1.extBut D.i2z).ext s2.extBut D.i12.symm).ext s3.extBut D.TOi2.symm) (((hl2.ext s1.extBut D.l2z).ext s2.extBut D.l2i1).ext s3.extBut D.l2TO) hy fun g4 h2' s4 => wpAny_pure ?_)
 have hTO4 : IsPair g4 TO x b := s4.extBut _ _ D.TOi2 hTO3
 refine wpAny_bind (wpAny_seqItems hTO4 rfl ?_)
 refine wpAny_bind (wpAny_updateSeq_pair hTO4 fun g5 hTO5 s5 => ?_)
 replace hTO5 : IsPair g5 TO x y := hTO5
 refine wpAny_bind (wpAny_letGo (wpAny_pure (wpAny_pure ?_)))
 refine wpAny_bind (wpAny_seqItems hTO5 rfl ?_)
 refine wpAny_bind (wpAny_newTuple ?_)
 have hsz : g5.objs.size = s.heap.objs.size := by rw [s5.1, s4.1, s3.1, s2.1, s1.1]
 have hz5 : IsZip g5 z TI TO .ellipsis := s5.extBut _ _ D.TOz.symm (s4.extBut _ _ D.i2z.symm (s3.extBut _ _ D.TOz.symm (s2.extBut _ _ D.i1z.symm hz1)))
 have hk5 : ∀ c o, c ≠ z → c ≠ TO → c ≠ i1 → c ≠ i2 → s.heap.get? c = some o → g5.get? c = some o := fun c o c1 c2 c3 c4 e =>
  s5.extBut _ _ c2 (s4.extBut _ _ c4 (s3.extBut _ _ c2 (s2.extBut _ _ c3 (s1.extBut _ _ c1 e))))
 have hzlt : z < g5.objs.size := Heap.lt_size hz5
 show wpAny _ _ (Builtin.SmallTypes.ownedTupleHandOut (.ref z) (.ref g5.objs.size) >>= _) _ _ _
 refine wpAny_bind ?_
 unfold Builtin.SmallTypes.ownedTupleHandOut
 have hz6 : IsZip (g5.push { cls := .type "tuple", data := .seq #[x, y] }) z TI TO .ellipsis := gps _ hz5
 refine wpAny_bind (wpAny_setField_rec hz6 (by simp) fun g7 hz7 s7 => ?_)
 replace hz7 : IsZip g7 z TI TO (rawInt g5.objs.size) := hz7
 refine wpAny_setField_rec hz7 (by simp) fun g8 hz8 s8 => ?_
 replace hz8 : IsZip g8 z TI TO (rawInt g5.objs.size) := hz8
 have up : ∀ c o, c ≠ z → g5.get? c = some o → g8.get? c = some o := fun c o c1 e => s8.extBut _ _ c1 (s7.extBut _ _ c1 (gps _ e))
 have hT8 : IsPair g8 g5.objs.size x y := s8.extBut _ _ (Nat.ne_of_gt hzlt) (s7.extBut _ _ (Nat.ne_of_gt hzlt) (Heap.get?_push_size _ rfl))
 have hn8 : g8.objs.size = g5.objs.size + 1 := by rw [s8.1, s7.1, Heap.size_push]
 rw [hsz] at hz8 hT8 hn8
 refine wpAny_pure ⟨_, rfl, ?_⟩
 show Q (.ref g5.objs.size) _
 rw [hsz]
 exact hQ g8 hz8 (up _ _ D.TOz hTO5) ((((h1'.ext s3.extBut D.TOi1.symm).ext s4.extBut D.i12).ext s5.extBut D.TOi1.symm).at fun o e => up _ o D.i1z e) ((h2'.ext s5.extBut D.TOi2.symm).at fun o e => up _ o D.i2z e) hT8 hn8
  fun c o c1 c2 c3 c4 e => up c o c1 (hk5 c o c1 c2 c3 c4 e)
theorem zipEnd {k1 k2 : Bool} {z TI TO i1 i2 l1 l2 : Addr} {j1 j2 : Nat} {xs ys : Array Value} {a b : Value} {Q : Fin → Shared → Prop} (hh : A.handled = none) (D : ZipApart z TI TO i1 i2 l1 l2)
  (hz : IsZip s.heap z TI TO .none) (hTI : IsPair s.heap TI (.ref i1) (.ref i2)) (hTO : IsPair s.heap TO a b)
  (h1 : ItAt k1 s.heap i1 l1 j1) (h2 : ItAt k2 s.heap i2 l2 j2) (hl1 : SqAt k1 s.heap l1 xs) (hl2 : SqAt k2 s.heap l2 ys) (hend : xs[j1]? = none ∨ ys[j2]? = none)
  (hE : ∀ h' e, (∀ c o, c ≠ z → c ≠ TO → c ≠ i1 → c ≠ i2 → s.heap.get? c = some o → h'.get? c = some o) → (∃ o, h'.get? e = some o ∧ o.cls = .type "StopIteration") → E (.ref e) { s with heap := h' }) :
  wpAny (model prog w) A (Builtin.«zip.__next__» ⟨[.ref z], []⟩) Q E s := by
 show wpAny _ _ (field (.ref z) 2 >>= _) _ _ _
 refine wpAny_bind (wpAny_field hz rfl (x := .bool false) rfl ?_)
 show wpAny _ _ (field (.ref z) 3 >>= _) _ _ _
 refine wpAny_bind (wpAny_field hz rfl (x := .ref TI) rfl ?_)
 refine wpAny_bind (wpAny_seqItems hTI rfl ?_)
 show wpAny _ _ (Builtin.SmallTypes.ownedTupleIsFree (.ref z) >>= _) _ _ _
 refine wpAny_bind ?_
 unfold Builtin.SmallTypes.ownedTupleIsFree
 refine wpAny_bind (wpAny_field hz rfl (x := .none) rfl (wpAny_pure ?_))
 simp only [if_true]
 refine wpAny_bind (wpAny_rule ?_)
 refine wpAny_bind (wpAny_field hz rfl (x := .ref TO) rfl ?_)
 refine wpAny_bind (wpAny_setField_rec hz (by simp) fun g1 hz1 s1 => ?_)
 replace hz1 : IsZip g1 z TI TO .ellipsis := hz1
 refine wpAny_bind ?_
 simp only [List.zipIdx_cons, List.zipIdx_nil, List.forIn_cons, List.forIn_nil]
 refine wpAny_bind (wpAny_bind (wpAny_onRaise ?_))
 show wpAny _ _ (Builtin.SmallTypes.nextOf (.ref i1) >>= _) _ _ _
 cases hx : xs[j1]? with
 | none =>
  refine wpAny_bind (nextOf_end hh (h1.ext s1.extBut D.i1z) (hl1.ext s1.extBut D.l1z) hx fun g2 e s2 he => ?_)
  obtain ⟨oe, hoe, hce⟩ := he
  have hz2 : IsZip g2 z TI TO .ellipsis := s2 _ _ D.i1z.symm hz1
  have hez : e ≠ z := fun x => by subst x; rw [hz2] at hoe; obtain rfl := sI hoe; simp at hce
  refine wpAny_setField_rec hz2 (by simp) fun g3 z_ s3 => hE g3 e (fun c o c1 z_ c3 z_ x => s3.extBut _ _ c1 (s2 _ _ c3 (s1.extBut _ _ c1 x))) ⟨oe, s3.extBut _ _ hez hoe, hce⟩
 | some x =>
  have hy : ys[j2]? = none := by rcases hend with h | h; rw [hx] at h; injection h; exact h
  refine wpAny_bind (nextOf_item (h1.ext s1.extBut D.i1z) (hl1.ext s1.extBut D.l1z) hx fun g2 h1' s2 => wpAny_pure ?_)
  have hTO2 : IsPair g2 TO a b := s2.extBut _ _ D.TOi1 (s1.extBut _ _ D.TOz hTO)
  refine wpAny_bind (wpAny_seqItems hTO2 rfl ?_)
  refine wpAny_bind (wpAny_updateSeq_pair hTO2 fun g3 hTO3 s3 => ?_)
  refine wpAny_bind (wpAny_letGo (wpAny_pure ?_))
  refine wpAny_bind (wpAny_bind (wpAny_onRaise ?_))
  show wpAny _ _ (Builtin.SmallTypes.nextOf (.ref i2) >>= _) _ _ _
  refine wpAny_bind (nextOf_end hh (((h2.ext s1.extBut D.i2z).ext s2.extBut D.i12.symm).ext s3.extBut D.TOi2.symm)
   (((hl2.ext s1.extBut D.l2z).ext s2.extBut D.l2i1).ext s3.extBut D.l2TO) hy fun g4 e s4 he => ?_)
  obtain ⟨oe, hoe, hce⟩ := he
  have hz4 : IsZip g4 z TI TO .ellipsis := s4 _ _ D.i2z.symm (s3.extBut _ _ D.TOz.symm (s2.extBut _ _ D.i1z.symm hz1))
  have hez : e ≠ z := fun x => by subst x; rw [hz4] at hoe; obtain rfl := sI hoe; simp at hce
  refine wpAny_setField_rec hz4 (by simp) fun g5 z_ s5 => hE g5 e (fun c o c1 c2 c3 c4 x => s5.extBut _ _ c1 (s4 _ _ c4 (s3.extBut _ _ c2 (s2.extBut _ _ c3 (s1.extBut _ _ c1 x))))) ⟨oe, s5.extBut _ _ hez hoe, hce⟩
end
noncomputable abbrev zH1 (k1 : Bool) (h : Heap) (l1 : Addr) : Heap := h.push (itObj k1 l1)
noncomputable abbrev zH2 (k1 k2 : Bool) (h : Heap) (l1 l2 : Addr) : Heap := (zH1 k1 h l1).push (itObj k2 l2)
noncomputable abbrev zH3 (k1 k2 : Bool) (h : Heap) (l1 l2 : Addr) : Heap := (zH2 k1 k2 h l1 l2).push { cls := .type "tuple", data := .seq #[.ref h.objs.size, .ref (zH1 k1 h l1).objs.size] }
noncomputable abbrev zH4 (k1 k2 : Bool) (h : Heap) (l1 l2 : Addr) : Heap := (zH3 k1 k2 h l1 l2).push { cls := .type "tuple", data := .seq #[.none, .none] }
noncomputable abbrev zH5 (k1 k2 : Bool) (h : Heap) (l1 l2 : Addr) : Heap := (zH4 k1 k2 h l1 l2).push { cls := .type "zip", data := .fields #[.none, .bool false, .bool false, .ref (zH2 k1 k2 h l1 l2).objs.size, .ref (zH3 k1 k2 h l1 l2).objs.size] }
theorem SqAt.push {k : Bool} {h : Heap} {a : Addr} {xs : Array Value} (x : SqAt k h a xs) (o : Obj) : SqAt k (h.push o) a xs := x.at fun z_ e => gps _ e
theorem zip_new_sq (k1 k2 : Bool) (l1 l2 : Addr) (xs ys : Array Value) :
  Meets (Builtin.«zip.__new__» ⟨[.type "zip", .ref l1, .ref l2], []⟩) (fun z_ R s => SqAt k1 s.heap l1 xs ∧ SqAt k2 s.heap l2 ys ∧ R (.ok (.ret (.ref (zH4 k1 k2 s.heap l1 l2).objs.size))) { s with heap := zH5 k1 k2 s.heap l1 l2 }) :=
 .of_wp fun prog w A R s h => by
  obtain ⟨hp, g, d, tk, os⟩ := s; obtain ⟨hl1, hl2, h⟩ := h
  have hsub := sub_zip
  have hL1 : SqAt k1 (Shared.heap ⟨hp, g, d, tk, os⟩) l1 xs := hl1
  have hL2 : SqAt k2 (Shared.heap ⟨hp.push (itObj k1 l1), g, d, tk, os⟩) l2 ys := hl2.push _
  wp_walk using pyIter_sq hL1, pyIter_sq hL2
  exact ⟨_, rfl, h⟩
set_option tactic.hygienic true in
theorem enum_new_sq (k : Bool) (l : Addr) (xs : Array Value) :
  Meets (Builtin.«enumerate.__new__» ⟨[.type "enumerate", .ref l], []⟩) (fun z_ R s => SqAt k s.heap l xs ∧ R (.ok (.ret (.ref (s.heap.push (itObj k l)).objs.size)))
    {s with heap := (s.heap.push (itObj k l)).push { cls := .type "enumerate", data := .fields #[.none, .bool false, .ref s.heap.objs.size, rawInt 0, .none, .none] } }) :=
 .of_wp fun prog w A R s h => by
  obtain ⟨hp, g, d, tk, os⟩ := s; obtain ⟨hl, h⟩ := h
  have hsub := sub_enumerate
  have hL : SqAt k (Shared.heap ⟨hp, g, d, tk, os⟩) l xs := hl
  wp_walk
  refine wpAny_stack_any fun st => wpAny_pure ?_
  split
  ·rename_i c _ _ _ _ _
   cases (c == Value.type "enumerate")
   ·wp_walk using pyIter_sq hL
    exact ⟨_, rfl, h⟩
   ·wp_walk using pyIter_sq hL
    exact ⟨_, rfl, h⟩
  ·wp_walk using pyIter_sq hL
   exact ⟨_, rfl, h⟩
section
variable {prog : Program} {w : World} {A : Around} {E : VP} {s : Shared}
theorem call_zip_sq {k1 k2 : Bool} {l1 l2 : Addr} {xs ys : Array Value} {Q : VP} (hl1 : SqAt k1 s.heap l1 xs) (hl2 : SqAt k2 s.heap l2 ys)
  (h : ∀ h', IsZip h' (s.heap.objs.size + 4) (s.heap.objs.size + 2) (s.heap.objs.size + 3) .none → IsPair h' (s.heap.objs.size + 2) (.ref s.heap.objs.size) (.ref (s.heap.objs.size + 1)) →
   IsPair h' (s.heap.objs.size + 3) .none .none → ItAt k1 h' s.heap.objs.size l1 0 → ItAt k2 h' (s.heap.objs.size + 1) l2 0 → h'.objs.size = s.heap.objs.size + 5 →
   (∀ c o, s.heap.get? c = some o → h'.get? c = some o) → Q (.ref (s.heap.objs.size + 4)) { s with heap := h' }) :
  wpAny (model prog w) A (call (.type "zip") [.ref l1, .ref l2]) Q E s := by
 refine callType_new F.called_zip (by decide) (F.typeCall_zip_2 _ _) (F.newCall_zip_2 _ _) (fun obj => F.args_object_init_3 obj _ _) F.entry_zip_new (zip_new_sq k1 k2 l1 l2 xs ys) ⟨hl1, hl2, ?_⟩
 have z1 : (zH1 k1 s.heap l1).objs.size = s.heap.objs.size + 1 := Heap.size_push ..
 have z2 : (zH2 k1 k2 s.heap l1 l2).objs.size = s.heap.objs.size + 2 := by rw [Heap.size_push, z1]
 have z3 : (zH3 k1 k2 s.heap l1 l2).objs.size = s.heap.objs.size + 3 := by rw [Heap.size_push, z2]
 have z4 : (zH4 k1 k2 s.heap l1 l2).objs.size = s.heap.objs.size + 4 := by rw [Heap.size_push, z3]
 have z5 : (zH5 k1 k2 s.heap l1 l2).objs.size = s.heap.objs.size + 5 := by rw [Heap.size_push, z4]
 have up : ∀ (o o' o'' : Obj) (g : Heap) c q, g.get? c = some q → (((g.push o).push o').push o'').get? c = some q := fun o o' o'' g c q e => gps _ (gps _ (gps _ e))
 have g5 : (zH5 k1 k2 s.heap l1 l2).get? (zH4 k1 k2 s.heap l1 l2).objs.size = some _ := Heap.get?_push_size _ rfl
 have g4 : (zH5 k1 k2 s.heap l1 l2).get? (zH3 k1 k2 s.heap l1 l2).objs.size = some _ := gps _ (Heap.get?_push_size _ rfl)
 have g3 : (zH5 k1 k2 s.heap l1 l2).get? (zH2 k1 k2 s.heap l1 l2).objs.size = some _ := gps _ (gps _ (Heap.get?_push_size _ rfl))
 have i1 : ItAt k1 (zH5 k1 k2 s.heap l1 l2) s.heap.objs.size l1 0 := (itObj_at (h := s.heap)).at fun o e => gps _ (up _ _ _ _ _ _ e)
 have i2 : ItAt k2 (zH5 k1 k2 s.heap l1 l2) (zH1 k1 s.heap l1).objs.size l2 0 := (itObj_at (h := zH1 k1 s.heap l1)).at fun o e => up _ _ _ _ _ _ e
 show _ ∧ _
 rw [z2, z3, z4] at g5
 rw [z1, z2] at g3
 rw [z3] at g4
 rw [z1] at i2
 rw [z4]
 exact ⟨⟨_, g5, rfl⟩, h _ g5 g3 g4 i1 i2 z5 fun c o x => gps _ (gps _ (up _ _ _ _ _ _ x))⟩
theorem call_enum_sq {k : Bool} {l : Addr} {xs : Array Value} {Q : VP} (hl : SqAt k s.heap l xs)
  (h : ∀ h', IsEnum h' (s.heap.objs.size + 1) s.heap.objs.size 0 .none → ItAt k h' s.heap.objs.size l 0 → h'.objs.size = s.heap.objs.size + 2 →
   (∀ b o, s.heap.get? b = some o → h'.get? b = some o) → Q (.ref (s.heap.objs.size + 1)) { s with heap := h' }) :
  wpAny (model prog w) A (call (.type "enumerate") [.ref l]) Q E s := by
 refine callType_new F.called_enumerate (by decide) (F.typeCall_enumerate_1 _) (F.newCall_enumerate_1 _) (fun obj => F.args_object_init_2 obj _) F.entry_enumerate_new (enum_new_sq k l xs) ⟨hl, ?_⟩
 have hz : (s.heap.push (itObj k l)).objs.size = s.heap.objs.size + 1 := Heap.size_push ..
 show _ ∧ _
 rw [hz]
 have he : IsEnum ((s.heap.push (itObj k l)).push { cls := .type "enumerate", data := .fields #[.none, .bool false, .ref s.heap.objs.size, rawInt 0, .none, .none] }) (s.heap.objs.size + 1) s.heap.objs.size 0 .none := by
  have := Heap.get?_push_size (s.heap.push (itObj k l)) (o := { cls := .type "enumerate", data := .fields #[.none, .bool false, .ref s.heap.objs.size, rawInt 0, .none, .none] }) rfl
  rw [hz] at this; exact this
 exact ⟨⟨_, he, rfl⟩, h _ he (itObj_at.at fun o e => gps _ e) (by rw [Heap.size_push, hz]) fun b o x => gps _ (gps _ x)⟩
end
end Mine
end
section
namespace Mine
noncomputable abbrev lo (n : Nat) : Ex := .v .loc n
noncomputable abbrev gl (n : Nat) : Ex := .v .glo n
noncomputable def f_type_text : Fn :=
 {params := [84], body := [.asg (.loc 1684957547) (.sub (lo 84) (.ci 0)),
  .ife (.or_ [.cmp .Eq (lo 1684957547) (.cs 431198396782), .cmp .Eq (lo 1684957547) (.cs 7630441)]) [.ret (.sub (lo 84) (.ci 1))] [],
  .ife (.cmp .Eq (lo 1684957547) (.cs 0x64657079746e75)) [.ret (.bin .add (.cs 0x2064657079746e75) (.sub (lo 84) (.ci 1)))] [],
  .ife (.cmp .Eq (lo 1684957547) (.cs 7500912)) [.ret (.bin .add (.cs 42) (.call (gl 0x747865745f65707974) [.sub (lo 84) (.ci 1)]))] [],
  .ife (.cmp .Eq (lo 1684957547) (.cs 521325933153)) [.ret (.bin .add (.bin .add (.bin .add (.cs 91) (.call (gl 7500915) [.sub (lo 84) (.ci 1)])) (.cs 93)) (.call (gl 0x747865745f65707974) [.sub (lo 84) (.ci 2)]))] [],
  .ife (.cmp .Eq (lo 1684957547) (.cs 435459550323)) [.ret (.bin .add (.cs 23899) (.call (gl 0x747865745f65707974) [.sub (lo 84) (.ci 1)]))] [],
  .ife (.cmp .Eq (lo 1684957547) (.cs 7364973)) [.ret (.bin .add (.bin .add (.bin .add (.cs 1534091629) (.call (gl 0x747865745f65707974) [.sub (lo 84) (.ci 1)])) (.cs 93)) (.call (gl 0x747865745f65707974) [.sub (lo 84) (.ci 2)]))] [],
  .ife (.cmp .Eq (lo 1684957547) (.cs 1851877475)) [.ret (.call (gl 0x747865745f6e616863) [lo 84])] [],
  .ife (.cmp .Eq (lo 1684957547) (.cs 1668183398)) [.ret (.bin .add (.cs 1668183398) (.call (gl 0x747865745f65727574616e676973) [lo 84]))] [],
  .ife (.cmp .Eq (lo 1684957547) (.cs 0x746375727473)) [.ret (.call (gl 0x747865745f646563617262) [.cs 0x746375727473, .comp (.call (gl 0x747865745f646c656966) [lo 7827314]) [7827314] false (.seq (.sub (lo 84) (.ci 1))) none])] [],
  .ife (.cmp .Eq (lo 1684957547) (.cs 0x656361667265746e69)) [.ret (.call (gl 0x747865745f646563617262) [.cs 0x656361667265746e69, .comp (.bin .add (lo 1701667182) (.call (gl 0x747865745f65727574616e676973) [lo 1684828020])) [1701667182, 1684828020] true (.seq (.sub (lo 84) (.ci 1))) none])] [],
  .ret (.ite (.cmp .Eq (lo 1684957547) (.cs 435611006324)) (.bin .add (.bin .add (.cs 40) (.call (gl 0x73747865745f64656e696f6a) [.sub (lo 84) (.ci 1)])) (.cs 41)) (lo 1684957547))] }
noncomputable def f_underlying_of : Fn :=
 {params := [431316168567, 84], body := [.ret (.meth (lo 431316168567) 0x666f5f65736162 [lo 84])] }
noncomputable def f_is_named : Fn :=
 {params := [84], body := [.ret (.cmp .In (.sub (lo 84) (.ci 0)) (.tup [.cs 431198396782, .cs 1819242338, .cs 7630441, .cs 0x676e69727473]))] }
noncomputable def f_is_untyped : Fn :=
 {params := [84], body := [.ret (.cmp .Eq (.sub (lo 84) (.ci 0)) (.cs 0x64657079746e75))] }
noncomputable def f_default_type : Fn :=
 {params := [84], body := [.ret (.ite (.call (gl 0x64657079746e755f7369) [lo 84]) (.sub (gl 0x53544c55414645445f44455059544e55) (.sub (lo 84) (.ci 1))) (lo 84))] }
noncomputable def f_is_interface : Fn :=
 {params := [431316168567, 84], body := [.ret (.cmp .Eq (.sub (.call (gl 0x666f5f676e69796c7265646e75) [lo 431316168567, lo 84]) (.ci 0)) (.cs 0x656361667265746e69))] }
noncomputable def f_is_truth : Fn :=
 {params := [431316168567, 84], body := [.ret (.or_ [.cmp .Eq (lo 84) (.tup [.cs 0x64657079746e75, .cs 1819242338]), .cmp .Eq (.sub (.call (gl 0x666f5f676e69796c7265646e75) [lo 431316168567, lo 84]) (.ci 0)) (.cs 1819242338)])] }
noncomputable def f_has_nil : Fn :=
 {params := [431316168567, 84], body := [.ret (.cmp .In (.sub (.call (gl 0x666f5f676e69796c7265646e75) [lo 431316168567, lo 84]) (.ci 0)) (gl 0x454c42414c494e))] }
noncomputable def f_element_of : Fn :=
 {params := [84], body := [.ife (.cmp .In (.sub (lo 84) (.ci 0)) (.tup [.cs 7500912, .cs 435459550323])) [.ret (.sub (lo 84) (.ci 1))] [],
  .ret (.ite (.cmp .In (.sub (lo 84) (.ci 0)) (.tup [.cs 521325933153, .cs 7364973, .cs 1851877475])) (.sub (lo 84) (.ci 2)) .cn)] }
noncomputable def f_packed : Fn :=
 {params := [0x72656b63656863, 29541, 84, 1953460339], dfl := [], cells := [0x72656b63656863, 0x746e656d656c65], mode := .drop,
  body := [.ife (.cmp .Eq (.call (gl 7234924) [lo 29541]) (.ci 0)) [.ret (.tup [.cs 7104878, lo 84, lo 1953460339])] [],
  .asg (.cel 0x746e656d656c65) (.call (gl 0x666f5f746e656d656c65) [.call (gl 0x666f5f676e69796c7265646e75) [.att (.v .cel 0x72656b63656863) 431316168567, lo 84]]),
  .asg (.loc 1937207154) (.comp (.tup [lo 107, .meth (.v .cel 0x72656b63656863) 0x656372656f63 [.meth (.v .cel 0x72656b63656863) 1919973477 [lo 101, .v .cel 0x746e656d656c65], .v .cel 0x746e656d656c65, .sub (lo 101) (.ci 1)]]) [107, 101] true (.enm (lo 29541)) none),
  .ret (.tup [.cs 7827314, lo 84, lo 1953460339, .call (gl 7234924) [lo 1937207154], .call (gl 435611006324) [lo 1937207154]])] }
noncomputable def f_is_place : Fn :=
 {params := [0x72656b63656863, 1701077357], body := [.whl (.cb true) [.ife (.cmp .In (.sub (lo 1701077357) (.ci 0)) (gl 91556946201680)) [.ret (.cb true)] [],
  .ife (.cmp .Eq (.sub (lo 1701077357) (.ci 0)) (.cs 431315315046)) [.asg (.loc 1701077357) (.sub (lo 1701077357) (.ci 3))] [.ife (.cmp .Eq (.sub (lo 1701077357) (.ci 0)) (.cs 517097156201)) [.asg (.loc 491328007785) (.call (gl 0x666f5f676e69796c7265646e75) [.att (lo 0x72656b63656863) 431316168567, .sub (.sub (lo 1701077357) (.ci 3)) (.ci 1)]),
   .ife (.cmp .NotEq (.sub (lo 491328007785) (.ci 0)) (.cs 521325933153)) [.ret (.cmp .Eq (.sub (lo 491328007785) (.ci 0)) (.cs 435459550323))] [],
   .asg (.loc 1701077357) (.sub (lo 1701077357) (.ci 3))] [.ret (.cb false)]]]] }
noncomputable def f_ReachedD_initD : Fn :=
 {params := [1718379891, 1684828020, 495806936179], dfl := [], cells := [], mode := .keep,
  body := [.asg (.att (lo 1718379891) 1684828020) (lo 1684828020),
  .asg (.att (lo 1718379891) 495806936179) (lo 495806936179)] }
noncomputable def f_without_pointer : Fn :=
 {params := [1684828020], body := [.ret (.ite (.cmp .Eq (.sub (lo 1684828020) (.ci 0)) (.cs 7500912)) (.sub (lo 1684828020) (.ci 1)) (lo 1684828020))] }
noncomputable def f_own_methods : Fn :=
 {params := [431316168567, 1684828020], body := [.ret (.ite (.cmp .Eq (.sub (lo 1684828020) (.ci 0)) (.cs 431198396782)) (.att (.sub (.att (lo 431316168567) 431198396782) (.sub (lo 1684828020) (.ci 1))) 0x73646f6874656d) (.dct false [] []))] }
noncomputable def f_members_at : Fn :=
 {params := [431316168567, 0x64656863616572, 1701667182], dfl := [], cells := [1701667182, 495806936179], mode := .drop,
  body := [.asg (.tup [(.loc, 1684828020), (.cel, 495806936179)]) (.tup [.att (lo 0x64656863616572) 1684828020, .att (lo 0x64656863616572) 495806936179]),
  .asg (.loc 0x73646f6874656d) (.call (gl 0x73646f6874656d5f6e776f) [lo 431316168567, lo 1684828020]),
  .ife (.cmp .In (.v .cel 1701667182) (lo 0x73646f6874656d)) [.asg (.tup [(.loc, 0x7265746e696f705f7369), (.loc, 1668183398), (.loc, 7955819)]) (.sub (lo 0x73646f6874656d) (.v .cel 1701667182)),
  .ret (.lst false [.tup [.cs 0x646f6874656d, .v .cel 495806936179, lo 7955819, lo 0x7265746e696f705f7369, lo 1668183398]])] [],
  .asg (.loc 1702060386) (.meth (lo 431316168567) 0x666f5f65736162 [lo 1684828020]),
  .ife (.cmp .Eq (.sub (lo 1702060386) (.ci 0)) (.cs 0x746375727473)) [.for_ [107, 7827314] true (.enm (.sub (lo 1702060386) (.ci 1))) [.ife (.cmp .Eq (.sub (lo 7827314) (.ci 0)) (.v .cel 1701667182)) [.ret (.lst false [.tup [.cs 431315315046, .bin .add (.v .cel 495806936179) (.tup [.tup [lo 107, .cb false]]), .sub (lo 7827314) (.ci 1)]])] []]] [],
  .ife (.cmp .Eq (.sub (lo 1702060386) (.ci 0)) (.cs 0x656361667265746e69)) [.ret (.comp (.tup [.cs 1701011814, .v .cel 495806936179, .v .cel 1701667182, lo 1668183398]) [7239535, 1668183398] true (.seq (.sub (lo 1702060386) (.ci 1))) (some (.cmp .Eq (lo 7239535) (.v .cel 1701667182))))] [],
  .ret (.lst false [])] }
noncomputable def f_embedded_in : Fn :=
 {params := [431316168567, 0x64656863616572], body := [.asg (.tup [(.loc, 1702060386), (.loc, 431349919590)]) (.tup [.meth (lo 431316168567) 0x666f5f65736162 [.att (lo 0x64656863616572) 1684828020], .lst false []]),
  .ife (.cmp .Eq (.sub (lo 1702060386) (.ci 0)) (.cs 0x746375727473)) [.for_ [107, 7827314] true (.enm (.sub (lo 1702060386) (.ci 1))) [.ife (.sub (lo 7827314) (.ci 2)) [.asg (.loc 0x7265746e696f705f7369) (.cmp .Eq (.sub (.sub (lo 7827314) (.ci 1)) (.ci 0)) (.cs 7500912)),
   .exp (.meth (lo 431349919590) 0x646e65707061 [.call (gl 0x64656863616552) [.call (gl 0x7265746e696f705f74756f68746977) [.sub (lo 7827314) (.ci 1)], .bin .add (.att (lo 0x64656863616572) 495806936179) (.tup [.tup [lo 107, lo 0x7265746e696f705f7369]])]])] []]] [],
  .ret (lo 431349919590)] }
noncomputable def f_LevelsD_initD : Fn :=
 {params := [1718379891, 431316168567, 1684828020], dfl := [], cells := [], mode := .keep,
  body := [.asg (.att (lo 1718379891) 431316168567) (lo 431316168567),
  .asg (.att (lo 1718379891) 1701995880) (.lst false [.call (gl 0x64656863616552) [lo 1684828020, .tup []]]),
  .asg (.att (lo 1718379891) 1852138867) (.dct true [] [])] }
noncomputable def f_Levels_go_on : Fn :=
 {params := [1718379891], body := [.for_ [0x64656863616572] false (.seq (.att (lo 1718379891) 1701995880)) [.ife (.cmp .Eq (.sub (.att (lo 0x64656863616572) 1684828020) (.ci 0)) (.cs 431198396782)) [.asg (.sub (.att (lo 1718379891) 1852138867) (.sub (.att (lo 0x64656863616572) 1684828020) (.ci 1))) (.cb true)] []],
  .asg (.loc 491328397676) (.lst false []),
  .for_ [0x64656863616572] false (.seq (.att (lo 1718379891) 1701995880)) [.for_ [491328007785] false (.seq (.call (gl 0x6e695f6465646465626d65) [.att (lo 1718379891) 431316168567, lo 0x64656863616572])) [.ife (.or_ [.cmp .NotEq (.sub (.att (lo 491328007785) 1684828020) (.ci 0)) (.cs 431198396782), .cmp .NotIn (.sub (.att (lo 491328007785) 1684828020) (.ci 1)) (.att (lo 1718379891) 1852138867)]) [.exp (.meth (lo 491328397676) 0x646e65707061 [lo 491328007785])] []]],
  .asg (.att (lo 1718379891) 1701995880) (lo 491328397676)] }
noncomputable def f_start_type : Fn :=
 {params := [431316168567, 1684828020], body := [.ife (.cmp .Eq (.sub (lo 1684828020) (.ci 0)) (.cs 7500912)) [.asg (.loc 491328007785) (.sub (lo 1684828020) (.ci 1)),
  .ret (.ite (.cmp .In (.sub (.meth (lo 431316168567) 0x666f5f65736162 [lo 491328007785]) (.ci 0)) (.tup [.cs 7500912, .cs 0x656361667265746e69])) .cn (.tup [lo 491328007785, .cb false]))] [],
  .asg (.loc 1702060386) (.ite (.cmp .Eq (.sub (lo 1684828020) (.ci 0)) (.cs 431198396782)) (.meth (lo 431316168567) 0x666f5f65736162 [lo 1684828020]) (lo 1684828020)),
  .ife (.and_ [.cmp .Eq (.sub (lo 1684828020) (.ci 0)) (.cs 431198396782), .cmp .Eq (.sub (lo 1702060386) (.ci 0)) (.cs 7500912)]) [.ret (.tup [.sub (lo 1702060386) (.ci 1), .cb true])] [],
  .ret (.tup [lo 1684828020, .cb false])] }
noncomputable def f_find_member : Fn :=
 {params := [431316168567, 1684828020, 1701667182], body := [.asg (.loc 474416112994) (.call (gl 0x657079745f7472617473) [lo 431316168567, lo 1684828020]),
  .ife (.cmp .Is (lo 474416112994) .cn) [.ret .cn] [],
  .asg (.loc 0x736c6576656c) (.call (gl 0x736c6576654c) [lo 431316168567, .sub (lo 474416112994) (.ci 0)]),
  .whl (.cmp .NotEq (.att (lo 0x736c6576656c) 1701995880) (.lst false [])) [.asg (.loc 431349919590) (.lst true []),
  .for_ [0x64656863616572] false (.seq (.att (lo 0x736c6576656c) 1701995880)) [.exp (.meth (lo 431349919590) 0x646e65747865 [.call (gl 0x74615f737265626d656d) [lo 431316168567, lo 0x64656863616572, lo 1701667182]])],
  .ife (.cmp .Gt (.call (gl 7234924) [lo 431349919590]) (.ci 1)) [.rse 0x746c756146656d614e [.bin .add (.cs 0x203a73756f756769626d61) (lo 1701667182)]] [],
  .ife (.cmp .NotEq (lo 431349919590) (.lst false [])) [.ret (.ite (.and_ [.sub (lo 474416112994) (.ci 1), .cmp .NotEq (.sub (.sub (lo 431349919590) (.ci 0)) (.ci 0)) (.cs 431315315046)]) .cn (.sub (lo 431349919590) (.ci 0)))] [],
  .exp (.meth (lo 0x736c6576656c) 474314927975 [])],
  .ret .cn] }
noncomputable def f_is_exported : Fn :=
 {params := [1701667182], body := [.ret (.meth (.slc (lo 1701667182) none (some (.ci 1))) 0x72657070757369 [])] }
noncomputable def f_is_hidden : Fn :=
 {params := [0x72656b63656863, 1684828020, 1701667182], body := [.asg (.loc 491328007785) (.ite (.cmp .Eq (.sub (lo 1684828020) (.ci 0)) (.cs 7500912)) (.sub (lo 1684828020) (.ci 1)) (lo 1684828020)),
  .ife (.or_ [.call (gl 0x646574726f7078655f7369) [lo 1701667182], .cmp .NotEq (.sub (lo 491328007785) (.ci 0)) (.cs 431198396782)]) [.ret (.cb false)] [],
  .ret (.cmp .NotIn (.att (.sub (.att (.att (lo 0x72656b63656863) 431316168567) 431198396782) (.sub (lo 491328007785) (.ci 1))) 0x6567616b636170) (.tup [.cs 0, .att (lo 0x72656b63656863) 0x6567616b636170]))] }
noncomputable def f_owner_of : Fn :=
 {params := [431316168567, 1684828020, 0x7265626d656d], body := [.asg (.loc 1701995880) (.ite (.cmp .Eq (.sub (lo 1684828020) (.ci 0)) (.cs 7500912)) (.sub (lo 1684828020) (.ci 1)) (lo 1684828020)),
  .ife (.cmp .Eq (.sub (.call (gl 0x666f5f676e69796c7265646e75) [lo 431316168567, lo 1701995880]) (.ci 0)) (.cs 7500912)) [.asg (.loc 1701995880) (.sub (.call (gl 0x666f5f676e69796c7265646e75) [lo 431316168567, lo 1701995880]) (.ci 1))] [],
  .for_ [107, 0x7265746e696f705f7369] true (.seq (.ite (.cmp .Eq (.sub (lo 0x7265626d656d) (.ci 0)) (.cs 431315315046)) (.slc (.sub (lo 0x7265626d656d) (.ci 1)) none (some (.neg (.ci 1)))) (.sub (lo 0x7265626d656d) (.ci 1)))) [.asg (.loc 7827314) (.sub (.sub (.call (gl 0x666f5f676e69796c7265646e75) [lo 431316168567, lo 1701995880]) (.ci 1)) (lo 107)),
  .asg (.loc 1701995880) (.ite (lo 0x7265746e696f705f7369) (.sub (.sub (lo 7827314) (.ci 1)) (.ci 1)) (.sub (lo 7827314) (.ci 1)))],
  .ret (lo 1701995880)] }
noncomputable def f_member_of : Fn :=
 {params := [0x72656b63656863, 1684828020, 1701667182, 1953460339], body := [.try_ [.asg (.loc 431349919590) (.call (gl 0x7265626d656d5f646e6966) [.att (lo 0x72656b63656863) 431316168567, lo 1684828020, lo 1701667182])] 0x746c756146656d614e (some 500035838310) [.dead],
  .ife (.or_ [.cmp .Is (lo 431349919590) .cn, .call (gl 0x6e65646469685f7369) [lo 0x72656b63656863, .call (gl 0x666f5f72656e776f) [.att (lo 0x72656b63656863) 431316168567, lo 1684828020, lo 431349919590], lo 1701667182]]) [.rse 0x746c75614665707954 [.bin .add (.bin .add (.call (gl 0x747865745f65707974) [lo 1684828020]) (.cs 0x20646f6874656d206f6e20646e6120646c656966206f6e2073616820)) (lo 1701667182), lo 1953460339]] [],
  .ret (lo 431349919590)] }
noncomputable def f_led_through : Fn :=
 {params := [0x72656b63656863, 1701077357, 1953460339], body := [.asg (.loc 491328007785) (.call (gl 0x666f5f676e69796c7265646e75) [.att (lo 0x72656b63656863) 431316168567, .sub (lo 1701077357) (.ci 1)]),
  .ret (.ite (.cmp .Eq (.sub (lo 491328007785) (.ci 0)) (.cs 7500912)) (.tup [.cs 439788660068, .sub (lo 491328007785) (.ci 1), lo 1953460339, lo 1701077357]) (lo 1701077357))] }
noncomputable def f_field_at : Fn :=
 {params := [0x72656b63656863, 1701077357, 107, 1953460339], body := [.asg (.loc 1701077357) (.call (gl 0x6867756f7268745f64656c) [lo 0x72656b63656863, lo 1701077357, lo 1953460339]),
  .ret (.tup [.cs 431315315046, .sub (.sub (.sub (.call (gl 0x666f5f676e69796c7265646e75) [.att (lo 0x72656b63656863) 431316168567, .sub (lo 1701077357) (.ci 1)]) (.ci 1)) (lo 107)) (.ci 1), lo 1953460339, lo 1701077357, lo 107])] }
noncomputable def f_gone_along : Fn :=
 {params := [0x72656b63656863, 1701077357, 495806936179, 1953460339], body := [.for_ [107, 0x7265746e696f705f7369] true (.seq (lo 495806936179)) [.asg (.loc 1701077357) (.call (gl 0x74615f646c656966) [lo 0x72656b63656863, lo 1701077357, lo 107, lo 1953460339])],
  .ret (lo 1701077357)] }
noncomputable def f_receiver_of : Fn :=
 {params := [0x72656b63656863, 1701077357, 0x7265746e696f705f7369, 1953460339], body := [.asg (.loc 1684828020) (.sub (lo 1701077357) (.ci 1)),
  .ife (.not_ (lo 0x7265746e696f705f7369)) [.ret (.ite (.cmp .Eq (.sub (lo 1684828020) (.ci 0)) (.cs 7500912)) (.call (gl 0x6867756f7268745f64656c) [lo 0x72656b63656863, lo 1701077357, lo 1953460339]) (lo 1701077357))] [],
  .ife (.cmp .Eq (.sub (lo 1684828020) (.ci 0)) (.cs 7500912)) [.ret (lo 1701077357)] [],
  .ife (.not_ (.call (gl 0x6563616c705f7369) [lo 0x72656b63656863, lo 1701077357])) [.rse 0x746c75614665707954 [.cs 0x656c626169726176206f6e207369207461687720666f202c7265746e696f70206120666f20646f6874656d2061, lo 1953460339]] [],
  .ret (.tup [.cs 0x73736572646461, .tup [.cs 7500912, lo 1684828020], lo 1953460339, lo 1701077357])] }
noncomputable def f_result_type : Fn :=
 {params := [1668183398], body := [.ret (.ite (.cmp .Eq (.call (gl 7234924) [.sub (lo 1668183398) (.ci 2)]) (.ci 1)) (.sub (.sub (lo 1668183398) (.ci 2)) (.ci 0)) (.tup [.cs 435611006324, .sub (lo 1668183398) (.ci 2)]))] }
noncomputable def f_plain_arguments : Fn :=
 {params := [0x72656b63656863, 29541, 495623108980], dfl := [], cells := [0x72656b63656863], mode := .drop,
  body := [.ret (.comp (.meth (.v .cel 0x72656b63656863) 0x656372656f63 [.meth (.v .cel 0x72656b63656863) 1919973477 [lo 101, lo 84], lo 84, .sub (lo 101) (.ci 1)]) [101, 84] true (.zip (lo 29541) (lo 495623108980)) none)] }
noncomputable def f_check_arguments : Fn :=
 {params := [0x72656b63656863, 29541, 1668183398, 0x6461657270735f7369, 1953460339], body := [.asg (.tup [(.loc, 495623108980), (.loc, 0x63696461697261765f7369)]) (.tup [.sub (lo 1668183398) (.ci 1), .sub (lo 1668183398) (.ci 3)]),
  .ife (.and_ [lo 0x6461657270735f7369, .not_ (lo 0x63696461697261765f7369)]) [.rse 0x746c75614665707954 [.cs 0x796e616d206f732073656b61742074616874206e6f6974636e7566206120666f20746e656d75677261206e6120646e696865622073646e617473202e2e2e, lo 1953460339]] [],
  .asg (.loc 500151969132) (.bin .sub (.call (gl 7234924) [lo 495623108980]) (.call (gl 7630441) [.and_ [lo 0x63696461697261765f7369, .not_ (lo 0x6461657270735f7369)]])),
  .ife (.or_ [.cmp .Lt (.call (gl 7234924) [lo 29541]) (lo 500151969132), .and_ [.cmp .Gt (.call (gl 7234924) [lo 29541]) (lo 500151969132), .or_ [lo 0x6461657270735f7369, .not_ (lo 0x63696461697261765f7369)]]]) [.rse 0x746c75614665707954 [.bin .add (.call (gl 7500915) [.call (gl 7234924) [lo 495623108980]]) (.cs 0x6465746e6177206572612073746e656d7567726120), lo 1953460339]] [],
  .ife (.or_ [.not_ (lo 0x63696461697261765f7369), lo 0x6461657270735f7369]) [.ret (.call (gl 435611006324) [.call (gl 0x73746e656d756772615f6e69616c70) [lo 0x72656b63656863, lo 29541, lo 495623108980]])] [],
  .asg (.loc 431130765409) (.call (gl 0x73746e656d756772615f6e69616c70) [lo 0x72656b63656863, .slc (lo 29541) none (some (lo 500151969132)), .slc (lo 495623108980) none (some (lo 500151969132))]),
  .ret (.call (gl 435611006324) [.bin .add (lo 431130765409) (.lst false [.call (gl 0x64656b636170) [lo 0x72656b63656863, .slc (lo 29541) (some (lo 500151969132)) none, .sub (lo 495623108980) (.neg (.ci 1)), lo 1953460339]])])] }
noncomputable def f_check_method_call : Fn :=
 {params := [0x72656b63656863, 102, 29541, 0x6461657270735f7369, 1953460339], body := [.asg (.loc 1701077357) (.meth (lo 0x72656b63656863) 435761734006 [.sub (lo 102) (.ci 2)]),
  .asg (.loc 0x7265626d656d) (.call (gl 0x666f5f7265626d656d) [lo 0x72656b63656863, .sub (lo 1701077357) (.ci 1), .sub (lo 102) (.ci 3), .sub (lo 102) (.ci 1)]),
  .asg (.loc 1701077357) (.call (gl 0x676e6f6c615f656e6f67) [lo 0x72656b63656863, lo 1701077357, .sub (lo 0x7265626d656d) (.ci 1), .sub (lo 102) (.ci 1)]),
  .ife (.cmp .Eq (.sub (lo 0x7265626d656d) (.ci 0)) (.cs 431315315046)) [.ret (.call (gl 0x6c6c61635f65756c61765f6b63656863) [lo 0x72656b63656863, lo 1701077357, lo 29541, lo 0x6461657270735f7369, lo 1953460339])] [],
  .asg (.loc 1668183398) (.sub (lo 0x7265626d656d) (.neg (.ci 1))),
  .asg (.loc 0x73726568746f) (.call (gl 0x73746e656d756772615f6b63656863) [lo 0x72656b63656863, lo 29541, lo 1668183398, lo 0x6461657270735f7369, lo 1953460339]),
  .ife (.cmp .Eq (.sub (lo 0x7265626d656d) (.ci 0)) (.cs 1701011814)) [.ret (.tup [.cs 1819042147, .call (gl 0x657079745f746c75736572) [lo 1668183398], lo 1953460339, .tup [.cs 1701011814, lo 1701077357, .sub (lo 102) (.ci 3)], lo 0x73726568746f])] [],
  .asg (.loc 0x7265766965636572) (.call (gl 0x666f5f7265766965636572) [lo 0x72656b63656863, lo 1701077357, .sub (lo 0x7265626d656d) (.ci 3), .sub (lo 102) (.ci 1)]),
  .ife (.cmp .In (.sub (lo 0x7265626d656d) (.ci 2)) (gl 0x5952415242494c)) [.ret (.tup [.cs 0x6e69746c697562, gl 0x474e4948544f4e, lo 1953460339, .sub (gl 0x5952415242494c) (.sub (lo 0x7265626d656d) (.ci 2)), .bin .add (.tup [lo 0x7265766965636572]) (lo 0x73726568746f)])] [],
  .ret (.tup [.cs 1819042147, .call (gl 0x657079745f746c75736572) [lo 1668183398], lo 1953460339, .tup [.cs 28262, .sub (lo 0x7265626d656d) (.ci 2)], .bin .add (.tup [lo 0x7265766965636572]) (lo 0x73726568746f)])] }
noncomputable def f_check_value_call : Fn :=
 {params := [0x72656b63656863, 1701077357, 29541, 0x6461657270735f7369, 1953460339], body := [.asg (.loc 1668183398) (.call (gl 0x666f5f676e69796c7265646e75) [.att (lo 0x72656b63656863) 431316168567, .sub (lo 1701077357) (.ci 1)]),
  .ife (.cmp .NotEq (.sub (lo 1668183398) (.ci 0)) (.cs 1668183398)) [.rse 0x746c75614665707954 [.bin .add (.call (gl 0x747865745f65707974) [.sub (lo 1701077357) (.ci 1)]) (.cs 0x64656c6c616320746f6e20736920), lo 1953460339]] [],
  .asg (.loc 0x64656c6c6163) (.ite (.cmp .Eq (.sub (lo 1701077357) (.ci 0)) (.cs 28262)) (.tup [.cs 28262, .sub (lo 1701077357) (.ci 3)]) (.tup [.cs 435761734006, lo 1701077357])),
  .ret (.tup [.cs 1819042147, .call (gl 0x657079745f746c75736572) [lo 1668183398], lo 1953460339, lo 0x64656c6c6163, .call (gl 0x73746e656d756772615f6b63656863) [lo 0x72656b63656863, lo 29541, lo 1668183398, lo 0x6461657270735f7369, lo 1953460339]])] }
noncomputable def f_is_unsigned : Fn :=
 {params := [1684957547], body := [.ret (.cmp .Eq (.sub (lo 1684957547) (.ci 0)) (.cs 117))] }
noncomputable def f_int_range : Fn :=
 {params := [1684957547], body := [.ife (.call (gl 0x64656e6769736e755f7369) [lo 1684957547]) [.ret (.tup [.ci 0, .bin .sub (.bin .pow (.ci 2) (.sub (gl 1398032706) (lo 1684957547))) (.ci 1)])] [],
  .ret (.tup [.bin .sub (.ci 0) (.bin .pow (.ci 2) (.bin .sub (.sub (gl 1398032706) (lo 1684957547)) (.ci 1))), .bin .sub (.bin .pow (.ci 2) (.bin .sub (.sub (gl 1398032706) (lo 1684957547)) (.ci 1))) (.ci 1)])] }
noncomputable def f_is_in_range : Fn :=
 {params := [0x7265626d756e, 1684957547], body := [.ife (.cmp .Is (lo 1684957547) .cn) [.ret (.cmp2 .Lt .Lt (.bin .sub (.ci 0) (.bin .pow (.ci 2) (gl 0x535449425f54534f4d))) (lo 0x7265626d756e) (.bin .pow (.ci 2) (gl 0x535449425f54534f4d)))] [],
  .asg (.tup [(.loc, 7827308), (.loc, 1751607656)]) (.call (gl 0x65676e61725f746e69) [lo 1684957547]),
  .ret (.cmp2 .LtE .LtE (lo 7827308) (lo 0x7265626d756e) (lo 1751607656))] }
noncomputable def f_representable : Fn :=
 {params := [435761734006, 1684828020], body := [.asg (.loc 1685221239) (.sub (lo 1684828020) (.ci 0)),
  .ife (.or_ [.cmp .Eq (lo 1685221239) (.cs 1819242338), .cmp .Eq (lo 1684828020) (.tup [.cs 0x64657079746e75, .cs 1819242338])]) [.ret (.call (gl 0x65636e6174736e697369) [lo 435761734006, gl 1819242338])] [],
  .ife (.call (gl 0x65636e6174736e697369) [lo 435761734006, gl 1819242338]) [.ret (.cb false)] [],
  .ife (.or_ [.cmp .Eq (lo 1685221239) (.cs 0x676e69727473), .cmp .Eq (lo 1684828020) (.tup [.cs 0x64657079746e75, .cs 0x676e69727473])]) [.ret (.call (gl 0x65636e6174736e697369) [lo 435761734006, gl 495623371106])] [],
  .ife (.not_ (.call (gl 0x65636e6174736e697369) [lo 435761734006, gl 7630441])) [.ret (.cb false)] [],
  .ife (.cmp .Eq (lo 1685221239) (.cs 0x64657079746e75)) [.ret (.call (gl 0x65676e61725f6e695f7369) [lo 435761734006, .cn])] [],
  .ret (.and_ [.cmp .Eq (lo 1685221239) (.cs 7630441), .call (gl 0x65676e61725f6e695f7369) [lo 435761734006, .sub (lo 1684828020) (.ci 1)]])] }
noncomputable def f_is_like_chan : Fn :=
 {params := [431316168567, 6647407, 491327616111], body := [.asg (.tup [(.loc, 1701995880), (.loc, 435710945396)]) (.tup [.call (gl 0x666f5f676e69796c7265646e75) [lo 431316168567, lo 6647407], .call (gl 0x666f5f676e69796c7265646e75) [lo 431316168567, lo 491327616111]]),
  .ife (.or_ [.cmp .NotEq (.sub (lo 1701995880) (.ci 0)) (.cs 1851877475), .cmp .NotEq (.sub (lo 435710945396) (.ci 0)) (.cs 1851877475), .cmp .NotEq (.sub (lo 1701995880) (.ci 2)) (.sub (lo 435710945396) (.ci 2)), .cmp .NotEq (.sub (lo 1701995880) (.ci 1)) (.cs 1752461154)]) [.ret (.cb false)] [],
  .ret (.or_ [.not_ (.call (gl 0x64656d616e5f7369) [lo 6647407]), .not_ (.call (gl 0x64656d616e5f7369) [lo 491327616111])])] }
noncomputable def f_meets_face : Fn :=
 {params := [431316168567, 6647407, 491327616111], body := [.ret (.and_ [.call (gl 0x656361667265746e695f7369) [lo 431316168567, lo 491327616111], .cmp .Is (.call (gl 0x73746e656d656c706d69) [lo 431316168567, lo 6647407, .call (gl 0x666f5f676e69796c7265646e75) [lo 431316168567, lo 491327616111]]) .cn])] }
noncomputable def f_is_assignable : Fn :=
 {params := [431316168567, 6647407, 491327616111, 0x6c696e5f7369], dfl := [.bool false], cells := [], mode := .drop,
  body := [.ife (.or_ [lo 0x6c696e5f7369, .cmp .Eq (lo 6647407) (gl 4999502)]) [.ret (.call (gl 0x6c696e5f736168) [lo 431316168567, lo 491327616111])] [],
  .ife (.cmp .Eq (lo 6647407) (lo 491327616111)) [.ret (.cb true)] [],
  .ife (.or_ [.cmp .In (.sub (lo 6647407) (.ci 0)) (.tup [.cs 435611006324, .cs 0x64657079746e75]), .cmp .Eq (.sub (lo 491327616111) (.ci 0)) (.cs 435611006324)]) [.ret (.and_ [.cmp .Eq (lo 6647407) (.tup [.cs 0x64657079746e75, .cs 1819242338]), .or_ [.call (gl 0x68747572745f7369) [lo 431316168567, lo 491327616111], .call (gl 0x656361665f737465656d) [lo 431316168567, .call (gl 0x657079745f746c7561666564) [lo 6647407], lo 491327616111]]])] [],
  .ife (.and_ [.cmp .Eq (.call (gl 0x666f5f676e69796c7265646e75) [lo 431316168567, lo 6647407]) (.call (gl 0x666f5f676e69796c7265646e75) [lo 431316168567, lo 491327616111]), .not_ (.and_ [.call (gl 0x64656d616e5f7369) [lo 6647407], .call (gl 0x64656d616e5f7369) [lo 491327616111]])]) [.ret (.cb true)] [],
  .ret (.or_ [.call (gl 0x6e6168635f656b696c5f7369) [lo 431316168567, lo 6647407, lo 491327616111], .call (gl 0x656361665f737465656d) [lo 431316168567, lo 6647407, lo 491327616111]])] }
noncomputable def f_is_const_assignable : Fn :=
 {params := [431316168567, 435761734006, 6647407, 491327616111], body := [.ife (.call (gl 0x656361667265746e695f7369) [lo 431316168567, lo 491327616111]) [.ret (.and_ [.call (gl 0x656361665f737465656d) [lo 431316168567, .call (gl 0x657079745f746c7561666564) [lo 6647407], lo 491327616111], .call (gl 0x656c6261746e65736572706572) [lo 435761734006, .call (gl 0x657079745f746c7561666564) [lo 6647407]]])] [],
  .asg (.loc 491328007785) (.call (gl 0x666f5f676e69796c7265646e75) [lo 431316168567, lo 491327616111]),
  .ife (.cmp .Eq (.sub (lo 6647407) (.ci 1)) (.cs 1819242338)) [.ret (.cmp .Eq (.sub (lo 491328007785) (.ci 0)) (.cs 1819242338))] [],
  .ife (.cmp .Eq (.sub (lo 6647407) (.ci 1)) (.cs 0x676e69727473)) [.ret (.cmp .Eq (.sub (lo 491328007785) (.ci 0)) (.cs 0x676e69727473))] [],
  .ret (.and_ [.cmp .Eq (.sub (lo 491328007785) (.ci 0)) (.cs 7630441), .call (gl 0x656c6261746e65736572706572) [lo 435761734006, lo 491328007785]])] }
noncomputable def f_ScopeD_initD : Fn :=
 {params := [1718379891, 491328402799, 491328010095], dfl := [.none], cells := [], mode := .keep,
  body := [.asg (.att (lo 1718379891) 491328402799) (lo 491328402799),
  .asg (.att (lo 1718379891) 491328010095) (lo 491328010095),
  .asg (.att (lo 1718379891) 1937207154) (.dct false [] [])] }
noncomputable def f_CheckerD_initD : Fn :=
 {params := [1718379891, 431316168567, 0x6567616b636170, 435678045043, 7955819, 0x73726564616572, 0x79646f625f6e7572, 491328402799], dfl := [.none], cells := [], mode := .keep,
  body := [.asg (.att (lo 1718379891) 431316168567) (lo 431316168567),
  .asg (.att (lo 1718379891) 0x6567616b636170) (lo 0x6567616b636170),
  .asg (.att (lo 1718379891) 435678045043) (lo 435678045043),
  .asg (.att (lo 1718379891) 7955819) (lo 7955819),
  .asg (.att (lo 1718379891) 0x73726564616572) (lo 0x73726564616572),
  .asg (.att (lo 1718379891) 0x79646f625f6e7572) (lo 0x79646f625f6e7572),
  .asg (.att (lo 1718379891) 491328402799) (lo 491328402799),
  .asg (.att (lo 1718379891) 0x736c61636f6c) (.lst false []),
  .asg (.att (lo 1718379891) 0x736d61726170) (.tup []),
  .asg (.att (lo 1718379891) 0x73746c75736572) (.tup []),
  .asg (.att (lo 1718379891) 0x736c61636f6c5f746c75736572) (.tup []),
  .asg (.att (lo 1718379891) 0x73656d616e5f746c757365725f736168) (.cb false),
  .asg (.att (lo 1718379891) 0x6465727574706163) (.lst false []),
  .asg (.att (lo 1718379891) 0x736c61726574696c) (.dct false [] []),
  .asg (.att (lo 1718379891) 495807590252) (.lst false [])] }
noncomputable def f_Checker_expr : Fn :=
 {params := [1718379891, 1701080942, 0x6465746e6177], dfl := [.none], cells := [], mode := .drop,
  body := [.ret (.call (.sub (.att (lo 1718379891) 0x73726564616572) (.sub (lo 1701080942) (.ci 0))) [lo 1718379891, lo 1701080942, lo 0x6465746e6177])] }
noncomputable def f_Checker_value : Fn :=
 {params := [1718379891, 1701080942, 0x6465746e6177], dfl := [.none], cells := [], mode := .drop,
  body := [.asg (.loc 1701077357) (.meth (lo 1718379891) 1919973477 [lo 1701080942, lo 0x6465746e6177]),
  .ife (.cmp .Eq (.sub (.sub (lo 1701077357) (.ci 1)) (.ci 0)) (.cs 435611006324)) [.rse 0x746c75614665707954 [.cs 0x6465746e61772073692065756c617620656e6f, .sub (lo 1701080942) (.ci 1)]] [],
  .ife (.cmp .Eq (.sub (lo 1701077357) (.ci 1)) (gl 4999502)) [.rse 0x746c75614665707954 [.cs 0x6570797420612074756f68746977206c696e, .sub (lo 1701080942) (.ci 1)]] [],
  .ret (.meth (lo 1718379891) 0x656372656f63 [lo 1701077357, .call (gl 0x657079745f746c7561666564) [.sub (lo 1701077357) (.ci 1)], .sub (lo 1701080942) (.ci 1)])] }
noncomputable def f_Checker_coerce : Fn :=
 {params := [1718379891, 1701077357, 84, 1953460339], body := [.asg (.loc 6647407) (.sub (lo 1701077357) (.ci 1)),
  .ife (.cmp .Eq (lo 6647407) (lo 84)) [.ret (lo 1701077357)] [],
  .ife (.and_ [.cmp .Eq (lo 6647407) (gl 4999502), .call (gl 0x6c696e5f736168) [.att (lo 1718379891) 431316168567, lo 84]]) [.ret (.tup [.cs 7104878, lo 84, .sub (lo 1701077357) (.ci 2)])] [],
  .ife (.and_ [.call (gl 0x64657079746e755f7369) [lo 6647407], .meth (lo 1718379891) 0x657079745f73656b6174 [lo 1701077357, lo 84]]) [.ife (.not_ (.call (gl 0x656361667265746e695f7369) [.att (lo 1718379891) 431316168567, lo 84])) [.ret (.bin .add (.bin .add (.slc (lo 1701077357) none (some (.ci 1))) (.tup [lo 84])) (.slc (lo 1701077357) (some (.ci 2)) none))] [],
  .ret (.tup [.cs 1701011814, lo 84, .sub (lo 1701077357) (.ci 2), .bin .add (.bin .add (.slc (lo 1701077357) none (some (.ci 1))) (.tup [.call (gl 0x657079745f746c7561666564) [lo 6647407]])) (.slc (lo 1701077357) (some (.ci 2)) none)])] [],
  .ife (.and_ [.not_ (.call (gl 0x64657079746e755f7369) [lo 6647407]), .cmp .NotEq (lo 6647407) (gl 4999502), .call (gl 0x656c62616e67697373615f7369) [.att (lo 1718379891) 431316168567, lo 6647407, lo 84]]) [.asg (.loc 0x656361665f7369) (.and_ [.call (gl 0x656361667265746e695f7369) [.att (lo 1718379891) 431316168567, lo 84], .not_ (.call (gl 0x656361667265746e695f7369) [.att (lo 1718379891) 431316168567, lo 6647407])]),
  .ret (.tup [.ite (lo 0x656361665f7369) (.cs 1701011814) (.cs 0x747265766e6f63), lo 84, .sub (lo 1701077357) (.ci 2), lo 1701077357])] [],
  .rse 0x746c75614665707954 [.bin .add (.bin .add (.call (gl 0x747865745f65707974) [lo 6647407]) (.cs 0x206f746e69206f6720746f6e2073656f6420)) (.call (gl 0x747865745f65707974) [lo 84]), lo 1953460339]] }
noncomputable def f_Checker_takes_type : Fn :=
 {params := [1718379891, 1701077357, 84], body := [.ife (.cmp .Eq (.sub (lo 1701077357) (.ci 0)) (.cs 500152823651)) [.ret (.call (gl 0x656c62616e67697373615f74736e6f635f7369) [.att (lo 1718379891) 431316168567, .sub (lo 1701077357) (.ci 3), .sub (lo 1701077357) (.ci 1), lo 84])] [],
  .ret (.and_ [.cmp .Eq (.sub (lo 1701077357) (.ci 1)) (gl 0x48545552545f44455059544e55), .call (gl 0x656c62616e67697373615f7369) [.att (lo 1718379891) 431316168567, .sub (lo 1701077357) (.ci 1), lo 84]])] }
noncomputable def f_NamedRowD_initD : Fn :=
 {params := [1718379891, 1752457584, 0x6567616b636170, 0x676e69796c7265646e75, 0x73646f6874656d], dfl := [], cells := [], mode := .keep,
  body := [.asg (.att (lo 1718379891) 1752457584) (lo 1752457584),
  .asg (.att (lo 1718379891) 0x6567616b636170) (lo 0x6567616b636170),
  .asg (.att (lo 1718379891) 0x676e69796c7265646e75) (lo 0x676e69796c7265646e75),
  .asg (.att (lo 1718379891) 0x73646f6874656d) (lo 0x73646f6874656d)] }
noncomputable def f_known_rows : Fn :=
 {params := [], dfl := [], cells := [], mode := .keep,
  body := [.asg (.loc 1954047348) (.tup [.cs 1668183398, .tup [], .tup [.tup [.cs 0x676e69727473]], .cb false]),
  .asg (.loc 0x676e69646461) (.tup [.cs 1668183398, .tup [.tup [.cs 7630441, .cs 7630441]], .tup [], .cb false]),
  .asg (.loc 1684825448) (.tup [.cs 0x746375727473, .tup [.tup [.cs 435744240755, .tup [.cs 7630441, .cs 7630441], .cb false]]]),
  .asg (.loc 1684828020) (.dct false [491496043077] [.tup [.cb false, lo 1954047348, .cs 0x726f7272452e726f7272452e656d69746e7572]]),
  .asg (.loc 495722917740) (.dct false [1801678668, 0x6b636f6c6e55] [.tup [.cb true, gl 336236465232, .cs 0x6b636f4c2e786574754d2e636e7973], .tup [.cb true, gl 336236465232, .cs 0x6b636f6c6e552e786574754d2e636e7973]]),
  .asg (.loc 495874302327) (.dct false [6579265, 1701736260, 1953063255] [.tup [.cb true, lo 0x676e69646461, .cs 0x6464412e70756f7247746961572e636e7973], .tup [.cb true, gl 336236465232, .cs 0x656e6f442e70756f7247746961572e636e7973], .tup [.cb true, gl 336236465232, .cs 0x746961572e70756f7247746961572e636e7973]]),
  .ret (.dct true [491496043109, 0x726f7272452e656d69746e7572, 0x786574754d2e636e7973, 0x70756f7247746961572e636e7973] [.call (gl 0x776f5264656d614e) [.cs 491496043109, .cs 0, .tup [.cs 0x656361667265746e69, .tup [.tup [.cs 491496043077, lo 1954047348]]], .dct false [] []], .call (gl 0x776f5264656d614e) [.cs 0x726f7272452e656d69746e7572, .cs 0x656d69746e7572, .tup [.cs 0x676e69727473], lo 1684828020], .call (gl 0x776f5264656d614e) [.cs 0x786574754d2e636e7973, .cs 1668184435, lo 1684825448, lo 495722917740], .call (gl 0x776f5264656d614e) [.cs 0x70756f7247746961572e636e7973, .cs 1668184435, lo 1684825448, lo 495874302327]])] }
noncomputable def f_WorldD_initD : Fn :=
 {params := [1718379891, 0x736567616b636170], dfl := [.none], cells := [], mode := .keep,
  body := [.asg (.att (lo 1718379891) 0x736567616b636170) (lo 0x736567616b636170),
  .asg (.att (lo 1718379891) 431198396782) (.call (gl 0x73776f725f6e776f6e6b) []),
  .asg (.att (lo 1718379891) 0x736c61626f6c67) (.dct false [] []),
  .asg (.att (lo 1718379891) 0x7374736e6f63) (.dct false [] []),
  .asg (.att (lo 1718379891) 495589422438) (.dct false [] []),
  .asg (.att (lo 1718379891) 0x736569646f62) (.dct false [] []),
  .asg (.att (lo 1718379891) 495622842726) (.dct false [] []),
  .asg (.att (lo 1718379891) 0x7365706f6373) (.dct false [] []),
  .asg (.att (lo 1718379891) 491327353455) (.lst false []),
  .asg (.att (lo 1718379891) 0x737472617473) (.lst false []),
  .asg (.att (lo 1718379891) 0x656c74746573) .cn,
  .asg (.att (lo 1718379891) 0x7379656b5f6574616c) (.lst false []),
  .asg (.att (lo 1718379891) 0x656c6f68775f7369) (.cb true)] }
noncomputable def f_World_base_of : Fn :=
 {params := [1718379891, 1684828020], body := [.whl (.cmp .Eq (.sub (lo 1684828020) (.ci 0)) (.cs 431198396782)) [.ife (.cmp .NotIn (.sub (lo 1684828020) (.ci 1)) (.att (lo 1718379891) 431198396782)) [.rse 0x746c756146656d614e [.bin .add (.cs 0x2065707974206f6e207369206572656874) (.sub (lo 1684828020) (.ci 1))]] [],
  .asg (.loc 7827314) (.sub (.att (lo 1718379891) 431198396782) (.sub (lo 1684828020) (.ci 1))),
  .ife (.cmp .Is (.att (lo 7827314) 0x676e69796c7265646e75) .cn) [.ife (.cmp .Is (.att (lo 1718379891) 0x656c74746573) .cn) [.rse 0x746c75614665707954 [.bin .add (.bin .add (.cs 0x206570797420656874) (.sub (lo 1684828020) (.ci 1))) (.cs 0x666c6573746920796220646c6f7420736920)]] [],
   .exp (.meth (lo 1718379891) 0x656c74746573 [.sub (lo 1684828020) (.ci 1)])] [],
  .asg (.loc 1684828020) (.att (lo 7827314) 0x676e69796c7265646e75)],
  .ret (lo 1684828020)] }
noncomputable def f_law_pool : Fn :=
 {params := [0x747069726373, 107], dfl := [], cells := [], mode := .keep,
  body := [.asg (.loc 1819043171) (.ite (.cmp .Lt (lo 107) (.call (gl 7234924) [lo 0x747069726373])) (.sub (lo 0x747069726373) (lo 107)) (.ci 0)),
  .asg (.loc 6777186) (.call (gl 7889261) [.call (gl 7630441) [lo 1819043171], .call (gl 7630441) [.bin .sub (.neg (.ci 1)) (lo 1819043171)]]),
  .asg (.loc 431199119725) (.bin .mod (.call (gl 7630441) [.bin .mul (.bin .add (.bin .add (.bin .add (.bin .mod (.call (gl 7630441) [lo 6777186]) (.ci 2147483629)) (.bin .mul (.bin .mul (.ci 7919) (lo 107)) (lo 107))) (.bin .mul (.ci 31) (lo 107))) (.ci 17)) (.ci 48271)]) (.ci 2147483647)),
  .ret (.lst true [.bin .mul (lo 6777186) (.call (gl 7630441) [.cmp .GtE (lo 6777186) (.bin .pow (.ci 10) (.ci 18))]), lo 431199119725])] }
noncomputable def f_law_take : Fn :=
 {params := [0x656372756f73, 7368564], body := [.ife (.cmp .Gt (.sub (lo 0x656372756f73) (.ci 0)) (.ci 0)) [.asg (.loc 474449277540) (.bin .mod (.call (gl 7630441) [.sub (lo 0x656372756f73) (.ci 0)]) (lo 7368564)),
  .asg (.sub (lo 0x656372756f73) (.ci 0)) (.bin .fdiv (.sub (lo 0x656372756f73) (.ci 0)) (lo 7368564)),
  .ret (lo 474449277540)] [],
  .asg (.sub (lo 0x656372756f73) (.ci 1)) (.bin .mod (.call (gl 7630441) [.bin .add (.bin .mul (.sub (lo 0x656372756f73) (.ci 1)) (.ci 39373)) (.ci 7)]) (.ci 2147483647)),
  .ret (.bin .mod (.call (gl 7630441) [.bin .fdiv (.bin .mod (.call (gl 7630441) [.bin .mul (.sub (lo 0x656372756f73) (.ci 1)) (.sub (lo 0x656372756f73) (.ci 1))]) (.ci 2147483629)) (.ci 32)]) (lo 7368564))] }
noncomputable def f_law_one : Fn :=
 {params := [0x656372756f73, 0x73676e696874], body := [.ret (.sub (lo 0x73676e696874) (.call (gl 0x656b61745f77616c5f) [lo 0x656372756f73, .call (gl 7234924) [lo 0x73676e696874]]))] }
noncomputable def f_law_funcs : Fn :=
 {params := [], body := [.asg (.loc 1701998445) (.tup [.cs 1668183398, .tup [.tup [.cs 0x676e69727473], .tup [.cs 435459550323, gl 0x746e695f77616c5f]], .tup [gl 0x746e695f77616c5f, .tup [.cs 1819242338]], .cb true]),
  .asg (.loc 474214394992) (.tup [.cs 1668183398, .tup [gl 0x746e695f77616c5f, .tup [.cs 0x676e69727473]], .tup [.tup [.cs 1819242338]], .cb false]),
  .ret (.dct false [102, 103, 118] [lo 474214394992, lo 1701998445, .tup [.cs 1668183398, .tup [gl 0x746e695f77616c5f], .tup [], .cb false]])] }
noncomputable def f_law_checker : Fn :=
 {params := [], dfl := [], cells := [], mode := .freeze,
  body := [.asg (.loc 431316168567) (.call (gl 431316168535) []),
  .asg (.loc 0x73646f6874656d) (.dct false [28484, 28487] [.tup [.cb false, .sub (.call (gl 0x73636e75665f77616c5f) []) (.cs 102), .cs 0x6f442e502e6d], .tup [.cb true, .sub (.call (gl 0x73636e75665f77616c5f) []) (.cs 103), .cs 0x6f472e502e6d]]),
  .asg (.sub (.att (lo 431316168567) 431198396782) (.cs 5254765)) (.call (gl 0x776f5264656d614e) [.cs 5254765, .cs 109, .tup [.cs 0x746375727473, .tup []], lo 0x73646f6874656d]),
  .asg (.sub (.att (lo 431316168567) 431198396782) (.cs 4796013)) (.call (gl 0x776f5264656d614e) [.cs 4796013, .cs 109, .tup [.cs 0x656361667265746e69, .tup [.tup [.cs 28484, .sub (.call (gl 0x73636e75665f77616c5f) []) (.cs 102)]]], .dct false [] []]),
  .ret (.call (gl 0x72656b63656843) [lo 431316168567, .cs 109, .call (gl 435678045011) [.cn], .cs 6696557, .dct false [1684828020] [.lam], .cn])] }
noncomputable def f_law_told : Fn :=
 {params := [1685221239, 102, 29541, 0x6461657270735f7369], body := [.asg (.tup [(.loc, 0x72656b63656863), (.loc, 1701670771)]) (.tup [.call (gl 0x72656b636568635f77616c5f) [], .call (gl 435611006324) [.comp (.tup [.cs 1684828020, .ci 5, lo 101]) [101] false (.seq (lo 29541)) none]]),
  .try_ [.ife (.cmp .Eq (lo 1685221239) (.cs 0x646f6874656d)) [.ret (.call (gl 0x6c6c61635f646f6874656d5f6b63656863) [lo 0x72656b63656863, lo 102, lo 1701670771, lo 0x6461657270735f7369, .ci 7])] [],
  .ret (.call (gl 0x6c6c61635f65756c61765f6b63656863) [lo 0x72656b63656863, lo 102, lo 1701670771, lo 0x6461657270735f7369, .ci 7])] 0x746c75614665707954 none [.ret (.cs 1701869940)]] }
noncomputable def f_law_value : Fn :=
 {params := [0x656372756f73, 84], body := [.asg (.loc 1701670771) (.lst true [.tup [.cs 465490374508, lo 84, .ci 4, .call (gl 0x656b61745f77616c5f) [lo 0x656372756f73, .ci 5]], .tup [.cs 465490374508, lo 84, .ci 4, .ci 8]]),
  .ife (.cmp .Eq (lo 84) (gl 0x746e695f77616c5f)) [.exp (.meth (lo 1701670771) 0x646e65707061 [.tup [.cs 500152823651, .tup [.cs 0x64657079746e75, .cs 7630441], .ci 4, .call (gl 0x656b61745f77616c5f) [lo 0x656372756f73, .ci 99]]])] [],
  .ife (.cmp .Eq (lo 84) (.tup [.cs 0x676e69727473])) [.exp (.meth (lo 1701670771) 0x646e65707061 [.tup [.cs 500152823651, .tup [.cs 0x64657079746e75, .cs 0x676e69727473], .ci 4, .cy [120]]])] [],
  .ret (.call (gl 0x656e6f5f77616c5f) [lo 0x656372756f73, .bin .add (lo 1701670771) (.lst false [.tup [.cs 465490374508, .call (gl 0x656e6f5f77616c5f) [lo 0x656372756f73, .lst false [gl 0x746e695f77616c5f, .tup [.cs 1819242338]]], .ci 4, .ci 9]])])] }
noncomputable def f_law_as : Fn :=
 {params := [101, 84], body := [.ife (.cmp .Eq (.sub (lo 101) (.ci 1)) (lo 84)) [.ret (lo 101)] [],
  .asg (.loc 0x6e69616c705f7369) (.or_ [.and_ [.cmp .Eq (.sub (lo 101) (.ci 1)) (.tup [.cs 0x64657079746e75, .cs 7630441]), .cmp .Eq (lo 84) (gl 0x746e695f77616c5f)], .and_ [.cmp .Eq (.sub (lo 101) (.ci 1)) (.tup [.cs 0x64657079746e75, .cs 0x676e69727473]), .cmp .Eq (lo 84) (.tup [.cs 0x676e69727473])]]),
  .ret (.ite (lo 0x6e69616c705f7369) (.tup [.cs 500152823651, lo 84, .ci 4, .sub (lo 101) (.ci 3)]) (.cs 1701869940))] }
noncomputable def f_law_arguments : Fn :=
 {params := [0x656372756f73, 1668183398], dfl := [], cells := [0x656372756f73], mode := .drop,
  body := [.asg (.tup [(.loc, 495623108980), (.loc, 0x6461657270735f7369)]) (.tup [.call (gl 1953720684) [.sub (lo 1668183398) (.ci 1)], .and_ [.sub (lo 1668183398) (.ci 3), .cmp .Eq (.call (gl 0x656b61745f77616c5f) [.v .cel 0x656372756f73, .ci 3]) (.ci 0)]]),
  .ife (.and_ [.sub (lo 1668183398) (.ci 3), .not_ (lo 0x6461657270735f7369)]) [.asg (.loc 495623108980) (.bin .add (.slc (lo 495623108980) none (some (.neg (.ci 1)))) (.bin .mul (.lst false [gl 0x746e695f77616c5f]) (.call (gl 0x656b61745f77616c5f) [.v .cel 0x656372756f73, .ci 4])))] [],
  .asg (.loc 29541) (.comp (.call (gl 0x65756c61765f77616c5f) [.v .cel 0x656372756f73, lo 84]) [84] false (.seq (lo 495623108980)) none),
  .asg (.loc 6649188) (.comp (.call (gl 0x73615f77616c5f) [lo 101, lo 84]) [101, 84] true (.zip (lo 29541) (lo 495623108980)) none),
  .ife (.and_ [.sub (lo 1668183398) (.ci 3), .not_ (lo 0x6461657270735f7369)]) [.asg (.loc 1701998445) (.slc (lo 6649188) (some (.bin .sub (.call (gl 7234924) [.sub (lo 1668183398) (.ci 1)]) (.ci 1))) none),
  .asg (.loc 7827314) (.ite (.cmp .NotEq (lo 1701998445) (.lst false [])) (.tup [.cs 7827314, .sub (.sub (lo 1668183398) (.ci 1)) (.neg (.ci 1)), .ci 7, .call (gl 7234924) [lo 1701998445], .tenm (lo 1701998445)]) (.tup [.cs 7104878, .sub (.sub (lo 1668183398) (.ci 1)) (.neg (.ci 1)), .ci 7])),
  .asg (.loc 6649188) (.bin .add (.slc (lo 6649188) none (some (.bin .sub (.call (gl 7234924) [.sub (lo 1668183398) (.ci 1)]) (.ci 1)))) (.lst false [.ite (.cmp .In (.cs 1701869940) (lo 1701998445)) (.cs 1701869940) (lo 7827314)]))] [],
  .asg (.loc 7954807) (.call (gl 0x656b61745f77616c5f) [.v .cel 0x656372756f73, .ci 8]),
  .ife (.and_ [.cmp .Eq (lo 7954807) (.ci 0), .not_ (.sub (lo 1668183398) (.ci 3))]) [.ret (.lst false [.bin .add (lo 29541) (.lst false [.tup [.cs 465490374508, gl 0x746e695f77616c5f, .ci 4, .ci 0]]), .cb false, .cs 1701869940])] [],
  .ife (.cmp .Eq (lo 7954807) (.ci 1)) [.ret (.lst false [.ite (.sub (lo 1668183398) (.ci 3)) (.slc (lo 29541) none (some (.bin .sub (.call (gl 7234924) [.sub (lo 1668183398) (.ci 1)]) (.ci 2)))) (.slc (lo 29541) (some (.ci 1)) none), .cb false, .cs 1701869940])] [],
  .ife (.and_ [.cmp .Eq (lo 7954807) (.ci 2), .not_ (.sub (lo 1668183398) (.ci 3))]) [.ret (.lst false [lo 29541, .cb true, .cs 1701869940])] [],
  .ret (.lst false [lo 29541, lo 0x6461657270735f7369, .ite (.cmp .In (.cs 1701869940) (lo 6649188)) (.cs 1701869940) (.call (gl 435611006324) [lo 6649188])])] }
noncomputable def f_law_result : Fn :=
 {params := [1668183398], body := [.ret (.ite (.cmp .Eq (.call (gl 7234924) [.sub (lo 1668183398) (.ci 2)]) (.ci 1)) (.sub (.sub (lo 1668183398) (.ci 2)) (.ci 0)) (.tup [.cs 435611006324, .sub (lo 1668183398) (.ci 2)]))] }
noncomputable def f_law_function_right : Fn :=
 {params := [0x656372756f73], body := [.asg (.loc 1701667182) (.call (gl 0x656e6f5f77616c5f) [lo 0x656372756f73, .lst false [.cs 102, .cs 103, .cs 118, .cs 103]]),
  .asg (.loc 1668183398) (.sub (.call (gl 0x73636e75665f77616c5f) []) (lo 1701667182)),
  .asg (.loc 1701077357) (.ite (.cmp .Eq (lo 1701667182) (.cs 118)) (.tup [.cs 465490374508, lo 1668183398, .ci 6, .ci 6]) (.tup [.cs 28262, lo 1668183398, .ci 6, .bin .add (.cs 11885) (lo 1701667182)])),
  .asg (.tup [(.loc, 29541), (.loc, 0x6461657270735f7369), (.loc, 1701670771)]) (.call (gl 0x73746e656d756772615f77616c5f) [lo 0x656372756f73, lo 1668183398]),
  .asg (.loc 0x64656c6c6163) (.ite (.cmp .Eq (lo 1701667182) (.cs 118)) (.tup [.cs 435761734006, lo 1701077357]) (.tup [.cs 28262, .bin .add (.cs 11885) (lo 1701667182)])),
  .asg (.loc 6649188) (.ite (.cmp .Eq (lo 1701670771) (.cs 1701869940)) (.cs 1701869940) (.tup [.cs 1819042147, .call (gl 0x746c757365725f77616c5f) [lo 1668183398], .ci 7, lo 0x64656c6c6163, lo 1701670771])),
  .ret (.cmp .Eq (.call (gl 0x646c6f745f77616c5f) [.cs 435761734006, lo 1701077357, lo 29541, lo 0x6461657270735f7369]) (lo 6649188))] }
noncomputable def f_law_method_right : Fn :=
 {params := [0x656372756f73], body := [.asg (.tup [(.loc, 1701667182), (.loc, 1668183398)]) (.call (gl 0x656e6f5f77616c5f) [lo 0x656372756f73, .lst false [.tup [.cs 28484, .sub (.call (gl 0x73636e75665f77616c5f) []) (.cs 102)], .tup [.cs 28487, .sub (.call (gl 0x73636e75665f77616c5f) []) (.cs 103)]]]),
  .asg (.loc 7954807) (.call (gl 0x656e6f5f77616c5f) [lo 0x656372756f73, .lst false [.cs 465490374508, .cs 7500912, .cs 1819042147, .cs 1701011814]]),
  .asg (.loc 474148661607) (.tup [.cs 1819042147, gl 88370954988639, .ci 3, .tup [.cs 28262, .cs 7810669], .tup []]),
  .asg (.loc 1701077357) (.sub (.dct false [465490374508, 7500912, 1819042147, 1701011814] [.tup [.cs 465490374508, gl 88370954988639, .ci 3, .ci 1], .tup [.cs 465490374508, .tup [.cs 7500912, gl 88370954988639], .ci 3, .ci 2], lo 474148661607, .tup [.cs 465490374508, .tup [.cs 431198396782, .cs 4796013], .ci 3, .ci 4]]) (lo 7954807)),
  .asg (.tup [(.loc, 29541), (.loc, 0x6461657270735f7369), (.loc, 1701670771)]) (.call (gl 0x73746e656d756772615f77616c5f) [lo 0x656372756f73, lo 1668183398]),
  .ife (.cmp .Eq (lo 7954807) (.cs 1701011814)) [.asg (.loc 6649188) (.tup [.cs 1819042147, .call (gl 0x746c757365725f77616c5f) [lo 1668183398], .ci 7, .tup [.cs 1701011814, lo 1701077357, lo 1701667182], lo 1701670771])] [.ife (.cmp .Eq (lo 1701667182) (.cs 28484)) [.asg (.loc 6579564) (.ite (.cmp .Eq (lo 7954807) (.cs 7500912)) (.tup [.cs 439788660068, gl 88370954988639, .ci 6, lo 1701077357]) (lo 1701077357)),
   .asg (.loc 6649188) (.tup [.cs 1819042147, .call (gl 0x746c757365725f77616c5f) [lo 1668183398], .ci 7, .tup [.cs 28262, .cs 0x6f442e502e6d], .bin .add (.tup [lo 6579564]) (.ite (.cmp .NotEq (lo 1701670771) (.cs 1701869940)) (lo 1701670771) (.tup []))])] [.asg (.loc 6579564) (.ite (.cmp .Eq (lo 7954807) (.cs 465490374508)) (.tup [.cs 0x73736572646461, .tup [.cs 7500912, gl 88370954988639], .ci 6, lo 1701077357]) (lo 1701077357)),
   .asg (.loc 6649188) (.tup [.cs 1819042147, .call (gl 0x746c757365725f77616c5f) [lo 1668183398], .ci 7, .tup [.cs 28262, .cs 0x6f472e502e6d], .bin .add (.tup [lo 6579564]) (.ite (.cmp .NotEq (lo 1701670771) (.cs 1701869940)) (lo 1701670771) (.tup []))])]],
  .ife (.or_ [.cmp .Eq (lo 1701670771) (.cs 1701869940), .and_ [.cmp .Eq (lo 1701667182) (.cs 28487), .cmp .In (lo 7954807) (.lst false [.cs 1819042147, .cs 1701011814])]]) [.asg (.loc 6649188) (.cs 1701869940)] [],
  .ret (.cmp .Eq (.call (gl 0x646c6f745f77616c5f) [.cs 0x646f6874656d, .tup [.cs 0x7463656c6573, .ci 6, .tup [.cs 1684828020, .ci 3, lo 1701077357], lo 1701667182], lo 29541, lo 0x6461657270735f7369]) (lo 6649188))] }
noncomputable def f_law : Fn :=
 {params := [0x747069726373], body := [.for_ [107] false (.rng (.call (gl 7889261) [.ci 1, .call (gl 7235949) [.call (gl 7234924) [lo 0x747069726373], .ci 2]])) [.asg (.loc 0x656372756f73) (.call (gl 0x6c6f6f705f77616c5f) [lo 0x747069726373, lo 107]),
  .for_ [1852994932] false (.rng (.ci 2)) [.ife (.or_ [.not_ (.call (gl 0x74686769725f6e6f6974636e75665f77616c5f) [lo 0x656372756f73]), .not_ (.call (gl 0x74686769725f646f6874656d5f77616c5f) [lo 0x656372756f73])]) [.ret (.cb false)] []]],
  .asg (.loc 1801678700) (.tup [.cs 465490374508, .tup [.cs 431198396782, .cs 0x786574754d2e636e7973], .ci 3, .ci 0]),
  .asg (.loc 6649188) (.tup [.cs 0x6e69746c697562, .tup [.cs 435611006324, .tup []], .ci 7, .cs 1801678700, .tup [.tup [.cs 0x73736572646461, .tup [.cs 7500912, .sub (lo 1801678700) (.ci 1)], .ci 6, lo 1801678700]]]),
  .ife (.cmp .NotEq (.call (gl 0x646c6f745f77616c5f) [.cs 0x646f6874656d, .tup [.cs 0x7463656c6573, .ci 6, .tup [.cs 1684828020, .ci 3, lo 1801678700], .cs 1801678668], .lst false [], .cb false]) (lo 6649188)) [.ret (.cb false)] [],
  .asg (.tup [(.loc, 6647407), (.loc, 1685221239)]) (.tup [.tup [.cs 465490374508, gl 0x746e695f77616c5f, .ci 4, .ci 1], .tup [.cs 465490374508, .tup [.cs 0x676e69727473], .ci 4, .ci 2]]),
  .asg (.loc 1684828020) (.call (gl 0x646c6f745f77616c5f) [.cs 435761734006, .tup [.cs 28262, .sub (.call (gl 0x73636e75665f77616c5f) []) (.cs 103), .ci 6, .cs 6762093], .lst false [lo 1685221239, lo 6647407, lo 6647407], .cb false]),
  .ret (.cmp .Eq (.sub (lo 1684828020) (.ci 4)) (.tup [lo 1685221239, .tup [.cs 7827314, .tup [.cs 435459550323, gl 0x746e695f77616c5f], .ci 7, .ci 2, .tup [.tup [.ci 0, lo 6647407], .tup [.ci 1, lo 6647407]]]]))] }
noncomputable def fnTab : List (Nat × Fn) :=
 [(0x747865745f65707974, f_type_text),
  (0x666f5f676e69796c7265646e75, f_underlying_of),
  (0x64656d616e5f7369, f_is_named),
  (0x64657079746e755f7369, f_is_untyped),
  (0x657079745f746c7561666564, f_default_type),
  (0x656361667265746e695f7369, f_is_interface),
  (0x68747572745f7369, f_is_truth),
  (0x6c696e5f736168, f_has_nil),
  (0x666f5f746e656d656c65, f_element_of),
  (0x64656b636170, f_packed),
  (0x6563616c705f7369, f_is_place),
  (0x5f5f74696e695f5f2e64656863616552, f_ReachedD_initD),
  (0x7265746e696f705f74756f68746977, f_without_pointer),
  (0x73646f6874656d5f6e776f, f_own_methods),
  (0x74615f737265626d656d, f_members_at),
  (0x6e695f6465646465626d65, f_embedded_in),
  (0x5f5f74696e695f5f2e736c6576654c, f_LevelsD_initD),
  (0x6e6f5f6f672e736c6576654c, f_Levels_go_on),
  (0x657079745f7472617473, f_start_type),
  (0x7265626d656d5f646e6966, f_find_member),
  (0x646574726f7078655f7369, f_is_exported),
  (0x6e65646469685f7369, f_is_hidden),
  (0x666f5f72656e776f, f_owner_of),
  (0x666f5f7265626d656d, f_member_of),
  (0x6867756f7268745f64656c, f_led_through),
  (0x74615f646c656966, f_field_at),
  (0x676e6f6c615f656e6f67, f_gone_along),
  (0x666f5f7265766965636572, f_receiver_of),
  (0x657079745f746c75736572, f_result_type),
  (0x73746e656d756772615f6e69616c70, f_plain_arguments),
  (0x73746e656d756772615f6b63656863, f_check_arguments),
  (0x6c6c61635f646f6874656d5f6b63656863, f_check_method_call),
  (0x6c6c61635f65756c61765f6b63656863, f_check_value_call),
  (0x64656e6769736e755f7369, f_is_unsigned),
  (0x65676e61725f746e69, f_int_range),
  (0x65676e61725f6e695f7369, f_is_in_range),
  (0x656c6261746e65736572706572, f_representable),
  (0x6e6168635f656b696c5f7369, f_is_like_chan),
  (0x656361665f737465656d, f_meets_face),
  (0x656c62616e67697373615f7369, f_is_assignable),
  (0x656c62616e67697373615f74736e6f635f7369, f_is_const_assignable),
  (0x5f5f74696e695f5f2e65706f6353, f_ScopeD_initD),
  (0x5f5f74696e695f5f2e72656b63656843, f_CheckerD_initD),
  (0x727078652e72656b63656843, f_Checker_expr),
  (0x65756c61762e72656b63656843, f_Checker_value),
  (0x656372656f632e72656b63656843, f_Checker_coerce),
  (0x657079745f73656b61742e72656b63656843, f_Checker_takes_type),
  (0x5f5f74696e695f5f2e776f5264656d614e, f_NamedRowD_initD),
  (0x73776f725f6e776f6e6b, f_known_rows),
  (0x5f5f74696e695f5f2e646c726f57, f_WorldD_initD),
  (0x666f5f657361622e646c726f57, f_World_base_of),
  (0x6c6f6f705f77616c5f, f_law_pool),
  (0x656b61745f77616c5f, f_law_take),
  (0x656e6f5f77616c5f, f_law_one),
  (0x73636e75665f77616c5f, f_law_funcs),
  (0x72656b636568635f77616c5f, f_law_checker),
  (0x646c6f745f77616c5f, f_law_told),
  (0x65756c61765f77616c5f, f_law_value),
  (0x73615f77616c5f, f_law_as),
  (0x73746e656d756772615f77616c5f, f_law_arguments),
  (0x746c757365725f77616c5f, f_law_result),
  (0x74686769725f6e6f6974636e75665f77616c5f, f_law_function_right),
  (0x74686769725f646f6874656d5f77616c5f, f_law_method_right),
  (7823724, f_law)]
noncomputable def G : Glob where
 fns := fnTab
 tfn := [0x747865745f65707974, 0x666f5f676e69796c7265646e75, 0x64656d616e5f7369, 0x64657079746e755f7369, 0x657079745f746c7561666564, 0x656361667265746e695f7369, 0x68747572745f7369, 0x6c696e5f736168, 0x666f5f746e656d656c65, 0x64656b636170, 0x6563616c705f7369, 0x7265746e696f705f74756f68746977, 0x73646f6874656d5f6e776f, 0x74615f737265626d656d, 0x6e695f6465646465626d65, 0x657079745f7472617473, 0x7265626d656d5f646e6966, 0x646574726f7078655f7369, 0x6e65646469685f7369, 0x666f5f72656e776f, 0x666f5f7265626d656d, 0x6867756f7268745f64656c, 0x74615f646c656966, 0x676e6f6c615f656e6f67, 0x666f5f7265766965636572, 0x657079745f746c75736572, 0x73746e656d756772615f6e69616c70, 0x73746e656d756772615f6b63656863, 0x6c6c61635f646f6874656d5f6b63656863, 0x6c6c61635f65756c61765f6b63656863, 0x64656e6769736e755f7369, 0x65676e61725f746e69, 0x65676e61725f6e695f7369, 0x656c6261746e65736572706572, 0x6e6168635f656b696c5f7369, 0x656361665f737465656d, 0x656c62616e67697373615f7369, 0x656c62616e67697373615f74736e6f635f7369, 0x73776f725f6e776f6e6b, 0x6c6f6f705f77616c5f, 0x656b61745f77616c5f, 0x656e6f5f77616c5f, 0x73636e75665f77616c5f, 0x72656b636568635f77616c5f, 0x646c6f745f77616c5f, 0x65756c61765f77616c5f, 0x73615f77616c5f, 0x73746e656d756772615f77616c5f, 0x746c757365725f77616c5f, 0x74686769725f6e6f6974636e75665f77616c5f, 0x74686769725f646f6874656d5f77616c5f, 7823724]
 cls := [0x726f7272456e616843, 0x746c756146656d614e, 0x746c75614665707954, 0x746c756146776f6c46, 0x64656863616552, 0x736c6576654c, 435678045011, 0x72656b63656843, 0x776f5264656d614e, 431316168535]
 vals := [(1415071060, (.tup [.str 0x676e69727473])),
  (310652523092, (.tup [.str 1819242338])),
  (297633007703, (.tup [.str 7630441, .str 7630441])),
  (1162761554, (.tup [.str 7630441, .str 215611633257])),
  (4999502, (.tup [.str 7104878])),
  (0x53544c55414645445f44455059544e55, (.dct [(1819242338, (.tup [.str 1819242338])), (7630441, (.tup [.str 7630441, .str 7630441])), (1701737842, (.tup [.str 7630441, .str 215611633257])), (0x676e69727473, (.tup [.str 0x676e69727473]))])),
  (0x454c42414c494e, (.tup [.str 7500912, .str 1668183398, .str 435459550323, .str 7364973, .str 1851877475, .str 0x656361667265746e69])),
  (0x474e4948544f4e, (.tup [.str 435611006324, .tup []])),
  (91556946201680, (.tup [.str 465490374508, .str 0x6c61626f6c67, .str 439788660068])),
  (0x5952415242494c, (.dct [(0x6b636f4c2e786574754d2e636e7973, (.str 1801678700)), (0x6b636f6c6e552e786574754d2e636e7973, (.str 0x6b636f6c6e75)), (0x6464412e70756f7247746961572e636e7973, (.str 6579297)), (0x656e6f442e70756f7247746961572e636e7973, (.str 1701736292)), (0x746961572e70756f7247746961572e636e7973, (.str 1953063287))])),
  (1398032706, (.dct [(7630441, (.int 64)), (947154537, (.int 8)), (232757948009, (.int 16)), (215611633257, (.int 32)), (224251899497, (.int 64)), (1953393013, (.int 64)), (242471561589, (.int 8)), (59586034690421, (.int 16)), (55196578113909, (.int 32)), (57408486271349, (.int 64))])),
  (0x535449425f54534f4d, (.int 512)),
  (0x48545552545f44455059544e55, (.tup [.str 0x64657079746e75, .str 1819242338])),
  (336236465232, (.tup [.str 1668183398, .tup [], .tup [], .bool false])),
  (0x746e695f77616c5f, (.tup [.str 7630441, .str 7630441])),
  (88370954988639, (.tup [.str 431198396782, .str 5254765])),
  (7234924, (.blt .len)),
  (7630441, (.blt .int)),
  (7889261, (.blt .max)),
  (7235949, (.blt .min)),
  (435611006324, (.blt .tuple)),
  (1953720684, (.blt .list)),
  (0x65636e6174736e697369, (.blt .isinst)),
  (7500915, (.blt .str)),
  (1819242338, (.typ .bool)),
  (495623371106, (.typ .bytes))]
end Mine
end
section
open PySem PySem.W PyProof.Rows PySem.Calls PySem.SeqAt
namespace Mine
noncomputable def strOf (n : Nat) : Str := ⟨(dec n).toArray⟩
theorem encL_decF : ∀ (f n : Nat), n < f → encL (decF f n) = n := by
 intro f
 induction f with
 | zero => intro n h; exact absurd h (Nat.not_lt_zero _)
 | succ f ih =>
  intro n h
  cases n with
  | zero => rfl
  | succ n =>
   show (n + 1) % 256 + 256 * encL (decF f ((n + 1) / 256)) = n + 1
   rw [ih _ (by omega)]
   omega
theorem encL_dec (n : Nat) : encL (dec n) = n := encL_decF _ _ (Nat.lt_succ_self n)
theorem strOf_inj {n m : Nat} (h : strOf n = strOf m) : n = m := by
 have : dec n = dec m := by simpa [strOf] using h
 rw [← encL_dec n, ← encL_dec m, this]
noncomputable def Canon (l : List Nat) : Prop := (∀ c ∈ l, c < 256) ∧ ∀ c, l.getLast? = some c → c ≠ 0
theorem decF_canon : ∀ (f n : Nat), n < f → Canon (decF f n) := by
 intro f
 induction f with
 | zero => intro n h; exact absurd h (Nat.not_lt_zero _)
 | succ f ih =>
  intro n h
  cases n with
  | zero => exact ⟨fun c hc => (nomatch hc), fun c hc => by simp [decF] at hc⟩
  | succ n =>
   have q := ih ((n + 1) / 256) (by omega)
   refine ⟨fun c hc => ?_, fun c hc => ?_⟩
   ·rcases List.mem_cons.mp hc with rfl | hc
    ·omega
    ·exact q.1 c hc
   ·change ((n + 1) % 256 :: decF f ((n + 1) / 256)).getLast? = some c at hc
    cases hd : decF f ((n + 1) / 256) with
    | nil =>
     rw [hd] at hc
     simp at hc
     have e := encL_decF f ((n + 1) / 256) (by omega)
     rw [hd] at e
     simp [encL] at e
     omega
    | cons x r =>
     rw [hd] at hc
     rw [List.getLast?_cons_cons] at hc
     rw [hd] at q
     exact q.2 c hc
theorem decF_encL : ∀ (l : List Nat) (f : Nat), Canon l → encL l < f → decF f (encL l) = l := by
 intro l
 induction l with
 | nil => intro f _ hf; cases f with | zero => exact absurd hf (Nat.not_lt_zero _) | succ f => rfl
 | cons c r ih =>
  intro f h hf
  have hc : c < 256 := h.1 c (.head _)
  have hr : Canon r := ⟨fun d hd => h.1 d (.tail _ hd), fun d hd => by
   cases r with
   | nil => simp at hd
   | cons x r => exact h.2 d (by rw [List.getLast?_cons_cons]; exact hd)⟩
  cases f with
  | zero => exact absurd hf (Nat.not_lt_zero _)
  | succ f =>
   have hn : encL (c :: r) = c + 256 * encL r := rfl
   have hpos : c + 256 * encL r ≠ 0 := by
    intro e
    have c0 : c = 0 := by omega
    have r0 : encL r = 0 := by omega
    cases r with
    | nil => exact h.2 c (by simp) c0
    | cons x q =>
     have := ih 1 hr (by rw [r0]; exact Nat.one_pos)
     rw [r0] at this
     injection this
   rw [hn] at hf ⊢
   cases hk : c + 256 * encL r with
   | zero => exact absurd hk hpos
   | succ k =>
    show (k + 1) % 256 :: decF f ((k + 1) / 256) = c :: r
    rw [← hk]
    have e1 : (c + 256 * encL r) % 256 = c := by omega
    have e2 : (c + 256 * encL r) / 256 = encL r := by omega
    rw [e1, e2, ih f hr (by omega)]
theorem dec_canon (n : Nat) : Canon (dec n) := decF_canon _ _ (Nat.lt_succ_self n)
theorem dec_encL {l : List Nat} (h : Canon l) : dec (encL l) = l := decF_encL l _ h (Nat.lt_succ_self _)
theorem canon_append {l r : List Nat} (h : Canon l) (q : Canon r) : Canon (l ++ r) := by
 refine ⟨fun c hc => (List.mem_append.mp hc).elim (h.1 c) (q.1 c), fun c hc => ?_⟩
 cases r with
 | nil => rw [List.append_nil] at hc; exact h.2 c hc
 | cons x r =>
  rw [List.getLast?_append] at hc
  cases hl : (x :: r).getLast? with
  | none => simp at hl
  | some d => rw [hl] at hc; simp at hc; exact q.2 c (by rw [hl, hc])
theorem strOf_append (x y : Nat) : strOf (encL (dec x ++ dec y)) = strOf x ++ strOf y := by
 show Str.mk (dec (encL (dec x ++ dec y))).toArray = Str.mk _
 rw [dec_encL (canon_append (dec_canon x) (dec_canon y))]
 simp [strOf]
theorem strOf_length (x : Nat) : (strOf x).length = slen x := by simp [strOf, slen, Str.length]
noncomputable abbrev Led := List (Addr × Obj)
noncomputable def At (b : Heap) (fz : Led) (a : Addr) (o : Obj) : Prop := (a, o) ∈ fz ∨ b.get? a = some o
theorem At.mono {b : Heap} {fz fz' : Led} {a : Addr} {o : Obj} (h : At b fz a o) (s : ∀ p ∈ fz, p ∈ fz') : At b fz' a o := h.imp (s _) id
noncomputable abbrev tupOf (its : Array Value) (n : Nat) : Obj := { cls := .type "tuple", data := .seq its n }
structure Cfg where
 fa : Nat → Option Addr
 ca : Nat → Option Addr
 ia : Nat → Option Addr
 an : List Nat
 xs : List Nat
 lamP : Arguments
 lamB : PE
 lamS : Scope
 lamQ : Str
 lamPos : Pos
 lamN : List (Str × NameKind)
 tabA : Addr
 codeA : Addr
 tokD : Bool → Nat → Params → Heap → Led → Value → Prop
 tokM : ∀ {t : Bool} {i : Nat} {P : Params} {b : Heap} {fz fz' : Led} {v : Value}, tokD t i P b fz v → (∀ p ∈ fz, p ∈ fz') → tokD t i P b fz' v
noncomputable def bval : B → Value
 | .len => .builtin "len" | .int => .type "int" | .max => .builtin "max" | .min => .builtin "min" | .tuple => .type "tuple" | .list => .type "list" | .isinst => .builtin "isinstance" | .str => .type "str"
noncomputable def tval : Ty → Value
 | .bool => .type "bool" | .bytes => .type "bytes"
mutual
inductive Den (cf : Cfg) (P : Params) (b : Heap) (fz : Led) (rho : List Addr) : V → Value → Prop
 | none : Den cf P b fz rho .none .none
 | bool (x : Bool) : Den cf P b fz rho (.bool x) (.bool x)
 | int (i : Int) (t : Tok) : Den cf P b fz rho (.int i) (.int i t)
 | str (s : Nat) (t : Tok) : Den cf P b fz rho (.str s) (.str (strOf s) t)
 | txt {n : Nat} {x : Str} {t : Tok} : x.length ≤ n → Den cf P b fz rho (.txt n) (.str x t)
 | bytes (l : List Nat) (t : Tok) (h : ∀ c ∈ l, c < 256) : Den cf P b fz rho (.bytes l) (.bytes (l.map UInt8.ofNat).toArray t)
 | tup {xs : List V} {vs : List Value} {a : Addr} {n : Nat} : At b fz a (tupOf vs.toArray n) → DenL cf P b fz rho xs vs → Den cf P b fz rho (.tup xs) (.ref a)
 | lst {xs : List V} {vs : List Value} {a : Addr} {n : Nat} : At b fz a (listOf vs.toArray n) → DenL cf P b fz rho xs vs → Den cf P b fz rho (.lst xs) (.ref a)
 | dct {kvs : List (Nat × V)} {es : List DictEntry} {a : Addr} {n : Nat} : (a == sysModules) = false → At b fz a (dictOf es n) → DenD cf P b fz rho kvs es → Den cf P b fz rho (.dct kvs) (.ref a)
 | fob {c : Nat} {kvs : List (Nat × V)} {es : List DictEntry} {x C d : Addr} {n : Nat} : cf.ia c = some C → At b fz x (instObj C d) → At b fz d (dictOf es n) → DenD cf P b fz rho kvs es → Den cf P b fz rho (.fob c kvs) (.ref x)
 | fn {f : Nat} {a : Addr} : cf.fa f = some a → Den cf P b fz rho (.fn f) (.ref a)
 | cls {c : Nat} {a : Addr} : cf.ca c = some a → Den cf P b fz rho (.cls c) (.ref a)
 | blt (x : B) : Den cf P b fz rho (.blt x) (bval x)
 | typ (x : Ty) : Den cf P b fz rho (.typ x) (tval x)
 | lam {a c : Addr} {pm ctv : Value} {oc : Obj} {vs : Array Value} {t : Tok} : At b fz a (kla_obj "<lambda>" cf.lamQ cf.lamP cf.lamB cf.lamS [] pm c ctv) → At b fz c oc → oc.data = .fields vs → vs[1]? = some (.str cf.lamQ t) → Den cf P b fz rho .lam (.ref a)
 | ref {j : Nat} {a : Addr} : rho[j]? = some a → Den cf P b fz rho (.ref j) (.ref a)
 | obj {c j : Nat} {x C d : Addr} : cf.ia c = some C → At b fz x (instObj C d) → rho[j]? = some d → Den cf P b fz rho (.obj c j) (.ref x)
 | tok {t : Bool} {i : Nat} {v : Value} : cf.tokD t i P b fz v → (t = true → ∃ a vs n, v = .ref a ∧ At b fz a (tupOf (List.toArray vs) n)) → handedIn v = true → Den cf P b fz rho (.tok t i) v
inductive DenL (cf : Cfg) (P : Params) (b : Heap) (fz : Led) (rho : List Addr) : List V → List Value → Prop
 | nil : DenL cf P b fz rho [] []
 | cons {x : V} {v : Value} {xs : List V} {vs : List Value} : Den cf P b fz rho x v → DenL cf P b fz rho xs vs → DenL cf P b fz rho (x :: xs) (v :: vs)
inductive DenD (cf : Cfg) (P : Params) (b : Heap) (fz : Led) (rho : List Addr) : List (Nat × V) → List DictEntry → Prop
 | nil : DenD cf P b fz rho [] []
 | cons {k : Nat} {x : V} {v : Value} {t : Tok} {kvs : List (Nat × V)} {es : List DictEntry} : (∀ p ∈ kvs, p.1 ≠ k) → Den cf P b fz rho x v → DenD cf P b fz rho kvs es → DenD cf P b fz rho ((k, x) :: kvs) (⟨PyData.keyHash P (strOf k), .str (strOf k) t, v⟩ :: es)
end
section
variable {cf : Cfg} {P : Params} {b : Heap} {fz fz' : Led} {rho rho' : List Addr}
theorem den_ind {M1 : V → Value → Prop} {M2 : List V → List Value → Prop} {M3 : List (Nat × V) → List DictEntry → Prop}
  (h1 : M1 .none .none) (h2 : ∀ x, M1 (.bool x) (.bool x)) (h3 : ∀ i t, M1 (.int i) (.int i t)) (h4 : ∀ s t, M1 (.str s) (.str (strOf s) t)) (h5 : ∀ {n x t}, x.length ≤ n → M1 (.txt n) (.str x t)) (h6 : ∀ l t, (∀ c ∈ l, c < 256) → M1 (.bytes l) (.bytes (l.map UInt8.ofNat).toArray t))
  (h7 : ∀ {xs vs a n}, At b fz a (tupOf (List.toArray vs) n) → DenL cf P b fz rho xs vs → M2 xs vs → M1 (.tup xs) (.ref a)) (h8 : ∀ {xs vs a n}, At b fz a (listOf (List.toArray vs) n) → DenL cf P b fz rho xs vs → M2 xs vs → M1 (.lst xs) (.ref a))
  (h9 : ∀ {kvs es a n}, (a == sysModules) = false → At b fz a (dictOf es n) → DenD cf P b fz rho kvs es → M3 kvs es → M1 (.dct kvs) (.ref a)) (h10 : ∀ {c kvs es x C d n}, cf.ia c = some C → At b fz x (instObj C d) → At b fz d (dictOf es n) → DenD cf P b fz rho kvs es → M3 kvs es → M1 (.fob c kvs) (.ref x))
  (h11 : ∀ {f a}, cf.fa f = some a → M1 (.fn f) (.ref a)) (h12 : ∀ {c a}, cf.ca c = some a → M1 (.cls c) (.ref a)) (h13 : ∀ x, M1 (.blt x) (bval x)) (h14 : ∀ x, M1 (.typ x) (tval x))
  (h15 : ∀ {a c pm ctv oc vs t}, At b fz a (kla_obj "<lambda>" cf.lamQ cf.lamP cf.lamB cf.lamS [] pm c ctv) → At b fz c oc → oc.data = .fields vs → vs[1]? = some (.str cf.lamQ t) → M1 .lam (.ref a))
  (h16 : ∀ {j a}, rho[j]? = some a → M1 (.ref j) (.ref a)) (h17 : ∀ {c j x C d}, cf.ia c = some C → At b fz x (instObj C d) → rho[j]? = some d → M1 (.obj c j) (.ref x))
  (h18 : ∀ {t i v}, cf.tokD t i P b fz v → (t = true → ∃ a vs n, v = .ref a ∧ At b fz a (tupOf (List.toArray vs) n)) → handedIn v = true → M1 (.tok t i) v)
  (h19 : M2 [] []) (h20 : ∀ {x v xs vs}, Den cf P b fz rho x v → DenL cf P b fz rho xs vs → M1 x v → M2 xs vs → M2 (x :: xs) (v :: vs))
  (h21 : M3 [] []) (h22 : ∀ {k x v t kvs es}, (∀ p ∈ kvs, p.1 ≠ k) → Den cf P b fz rho x v → DenD cf P b fz rho kvs es → M1 x v → M3 kvs es → M3 ((k, x) :: kvs) (⟨PyData.keyHash P (strOf k), .str (strOf k) t, v⟩ :: es)) :
  (∀ x v, Den cf P b fz rho x v → M1 x v) ∧ (∀ x v, DenL cf P b fz rho x v → M2 x v) ∧ ∀ x v, DenD cf P b fz rho x v → M3 x v :=
 ⟨fun z_ z_ h => Den.rec (motive_1 := fun x v z_ => M1 x v) (motive_2 := fun x v z_ => M2 x v) (motive_3 := fun x v z_ => M3 x v) h1 h2 h3 h4 h5 h6 h7 h8 h9 h10 h11 h12 h13 h14 h15 h16 h17 h18 h19 h20 h21 h22 h,
  fun z_ z_ h => DenL.rec (motive_1 := fun x v z_ => M1 x v) (motive_2 := fun x v z_ => M2 x v) (motive_3 := fun x v z_ => M3 x v) h1 h2 h3 h4 h5 h6 h7 h8 h9 h10 h11 h12 h13 h14 h15 h16 h17 h18 h19 h20 h21 h22 h,
  fun z_ z_ h => DenD.rec (motive_1 := fun x v z_ => M1 x v) (motive_2 := fun x v z_ => M2 x v) (motive_3 := fun x v z_ => M3 x v) h1 h2 h3 h4 h5 h6 h7 h8 h9 h10 h11 h12 h13 h14 h15 h16 h17 h18 h19 h20 h21 h22 h⟩
theorem Den.mono_all (s : ∀ p ∈ fz, p ∈ fz') (r : ∀ (j : Nat) (a : Addr), rho[j]? = some a → rho'[j]? = some a) : (∀ x v, Den cf P b fz rho x v → Den cf P b fz' rho' x v) ∧ (∀ x v, DenL cf P b fz rho x v → DenL cf P b fz' rho' x v) ∧ ∀ x v, DenD cf P b fz rho x v → DenD cf P b fz' rho' x v := by
 refine den_ind .none .bool .int .str (fun h => .txt h) .bytes (fun h z_ l => .tup (h.mono s) l) (fun h z_ l => .lst (h.mono s) l) (fun g h z_ l => .dct g (h.mono s) l) (fun c h k z_ l => .fob c (h.mono s) (k.mono s) l) (fun h => .fn h) (fun h => .cls h) .blt .typ
  (fun h c d e => .lam (h.mono s) (c.mono s) d e) (fun h => .ref (r _ _ h)) (fun c h k => .obj c (h.mono s) (r _ _ k)) (fun h k g => .tok (cf.tokM h s) (fun e => ?_) g) .nil (fun z_ z_ h l => .cons h l) .nil (fun f z_ z_ h l => .cons f h l)
 obtain ⟨a, vs, n, q1, q2⟩ := k e
 exact ⟨a, vs, n, q1, q2.mono s⟩
theorem Den.mono (s : ∀ p ∈ fz, p ∈ fz') (r : ∀ (j : Nat) (a : Addr), rho[j]? = some a → rho'[j]? = some a) {x : V} {v : Value} (h : Den cf P b fz rho x v) : Den cf P b fz' rho' x v := (Den.mono_all s r).1 x v h
theorem DenL.mono (s : ∀ p ∈ fz, p ∈ fz') (r : ∀ (j : Nat) (a : Addr), rho[j]? = some a → rho'[j]? = some a) {x : List V} {v : List Value} (h : DenL cf P b fz rho x v) : DenL cf P b fz' rho' x v := (Den.mono_all s r).2.1 x v h
theorem DenD.mono (s : ∀ p ∈ fz, p ∈ fz') (r : ∀ (j : Nat) (a : Addr), rho[j]? = some a → rho'[j]? = some a) {x : List (Nat × V)} {v : List DictEntry} (h : DenD cf P b fz rho x v) : DenD cf P b fz' rho' x v := (Den.mono_all s r).2.2 x v h
section
variable (cf : Cfg) (P : Params) (b : Heap) (fz : Led) (rho : List Addr)
inductive DTup (xs : List V) (v : Value) : Prop
 | mk (a : Addr) (vs : List Value) (n : Nat) (e : v = .ref a) (h : At b fz a (tupOf (List.toArray vs) n)) (l : DenL cf P b fz rho xs vs)
inductive DLst (xs : List V) (v : Value) : Prop
 | mk (a : Addr) (vs : List Value) (n : Nat) (e : v = .ref a) (h : At b fz a (listOf (List.toArray vs) n)) (l : DenL cf P b fz rho xs vs)
inductive DDct (kvs : List (Nat × V)) (v : Value) : Prop
 | mk (a : Addr) (es : List DictEntry) (n : Nat) (e : v = .ref a) (g : (a == sysModules) = false) (h : At b fz a (dictOf es n)) (l : DenD cf P b fz rho kvs es)
inductive DFob (c : Nat) (kvs : List (Nat × V)) (v : Value) : Prop
 | mk (x C d : Addr) (es : List DictEntry) (n : Nat) (e : v = .ref x) (i : cf.ia c = some C) (h : At b fz x (instObj C d)) (k : At b fz d (dictOf es n)) (l : DenD cf P b fz rho kvs es)
inductive DObj (c j : Nat) (v : Value) : Prop
 | mk (x C d : Addr) (e : v = .ref x) (i : cf.ia c = some C) (h : At b fz x (instObj C d)) (k : rho[j]? = some d)
inductive DLc (x : V) (xs : List V) (vs : List Value) : Prop
 | mk (v : Value) (r : List Value) (e : vs = v :: r) (d : Den cf P b fz rho x v) (l : DenL cf P b fz rho xs r)
inductive DDc (k : Nat) (x : V) (xs : List (Nat × V)) (vs : List DictEntry) : Prop
 | mk (t : Tok) (v : Value) (r : List DictEntry) (e : vs = ⟨PyData.keyHash P (strOf k), .str (strOf k) t, v⟩ :: r) (f : ∀ p ∈ xs, p.1 ≠ k) (d : Den cf P b fz rho x v) (l : DenD cf P b fz rho xs r)
end
noncomputable def DenF (cf : Cfg) (P : Params) (b : Heap) (fz : Led) (rho : List Addr) : V → Value → Prop
 | .none, v => v = .none
 | .bool x, v => v = .bool x
 | .int i, v => ∃ t, v = .int i t
 | .str s, v => ∃ t, v = .str (strOf s) t
 | .txt n, v => ∃ x t, v = .str x t ∧ x.length ≤ n
 | .bytes l, v => ∃ t, v = .bytes (l.map UInt8.ofNat).toArray t ∧ ∀ c ∈ l, c < 256
 | .tup xs, v => DTup cf P b fz rho xs v
 | .lst xs, v => DLst cf P b fz rho xs v
 | .dct kvs, v => DDct cf P b fz rho kvs v
 | .fob c kvs, v => DFob cf P b fz rho c kvs v
 | .fn f, v => ∃ a, v = .ref a ∧ cf.fa f = some a
 | .cls c, v => ∃ a, v = .ref a ∧ cf.ca c = some a
 | .blt x, v => v = bval x
 | .typ x, v => v = tval x
 | .lam, _ => True
 | .ref j, v => ∃ a, v = .ref a ∧ rho[j]? = some a
 | .obj c j, v => DObj cf b fz rho c j v
 | .tok t i, v => cf.tokD t i P b fz v ∧ (t = true → ∃ a vs n, v = .ref a ∧ At b fz a (tupOf (List.toArray vs) n)) ∧ handedIn v = true
theorem Den.inv {x : V} {v : Value} (d : Den cf P b fz rho x v) : DenF cf P b fz rho x v := by
 cases d with
 | none | bool | blt | typ => rfl
 | int | str => exact ⟨_, rfl⟩
 | txt h => exact ⟨_, _, rfl, h⟩
 | bytes _ _ h => exact ⟨_, rfl, h⟩
 | tup h l => exact ⟨_, _, _, rfl, h, l⟩
 | lst h l => exact ⟨_, _, _, rfl, h, l⟩
 | dct g h l => exact ⟨_, _, _, rfl, g, h, l⟩
 | fob c h k l => exact ⟨_, _, _, _, _, rfl, c, h, k, l⟩
 | fn h => exact ⟨_, rfl, h⟩
 | cls h => exact ⟨_, rfl, h⟩
 | lam => trivial
 | ref h => exact ⟨_, rfl, h⟩
 | obj c h k => exact ⟨_, _, _, rfl, c, h, k⟩
 | tok h k g => exact ⟨h, k, g⟩
theorem DenL.nil_inv {vs : List Value} (d : DenL cf P b fz rho [] vs) : vs = [] := by cases d; rfl
theorem DenL.cons_inv {x : V} {xs : List V} {vs : List Value} (d : DenL cf P b fz rho (x :: xs) vs) : DLc cf P b fz rho x xs vs := by cases d with | cons h l => exact ⟨_, _, rfl, h, l⟩
theorem den_str {n : Nat} {v : Value} (d : Den cf P b fz rho (.str n) v) : ∃ t, v = .str (strOf n) t := d.inv
theorem den_int {n : Int} {v : Value} (d : Den cf P b fz rho (.int n) v) : ∃ t, v = .int n t := d.inv
theorem den_bytes {l : List Nat} {v : Value} (d : Den cf P b fz rho (.bytes l) v) : ∃ t, v = .bytes (l.map UInt8.ofNat).toArray t ∧ ∀ c ∈ l, c < 256 := d.inv
theorem den_tup {xs : List V} {v : Value} (d : Den cf P b fz rho (.tup xs) v) : DTup cf P b fz rho xs v := d.inv
theorem bytes_inj : ∀ {l l' : List Nat}, (∀ c ∈ l, c < 256) → (∀ c ∈ l', c < 256) → l.map UInt8.ofNat = l'.map UInt8.ofNat → l = l'
 | [], [], _, _, _ => rfl
 | x :: l, y :: l', h, h', e => by
  rw [List.map_cons, List.map_cons] at e
  injection e with e1 e2
  have hx := h x (.head _)
  have hy := h' y (.head _)
  have e3 : (UInt8.ofNat x).toNat = (UInt8.ofNat y).toNat := by rw [e1]
  rw [UInt8.toNat_ofNat', UInt8.toNat_ofNat'] at e3
  have : x = y := by omega
  rw [this, bytes_inj (fun c hc => h c (.tail _ hc)) (fun c hc => h' c (.tail _ hc)) e2]
 | [], _ :: _, _, _, e => by injection e
 | _ :: _, [], _, _, e => by injection e
theorem DenL.length {xs : List V} {vs : List Value} (d : DenL cf P b fz rho xs vs) : vs.length = xs.length := by
 induction xs generalizing vs with
 | nil => obtain rfl := d.nil_inv; rfl
 | cons x xs ih => obtain ⟨v, r, rfl, _, l⟩ := d.cons_inv; exact congrArg (· + 1) (ih l)
theorem DenL.get {xs : List V} {vs : List Value} {i : Nat} {x : V} (d : DenL cf P b fz rho xs vs) (e : xs[i]? = some x) : ∃ v, vs[i]? = some v ∧ Den cf P b fz rho x v := by
 induction xs generalizing vs i with
 | nil => exact noS e
 | cons y xs ih =>
  obtain ⟨v, r, rfl, h, l⟩ := d.cons_inv
  cases i with
  | zero => obtain rfl := sI e; exact ⟨v, rfl, h⟩
  | succ i => exact (ih l e : ∃ v, r[i]? = some v ∧ _)
theorem DenL.append {xs ys : List V} {vs ws : List Value} (d : DenL cf P b fz rho xs vs) (q : DenL cf P b fz rho ys ws) : DenL cf P b fz rho (xs ++ ys) (vs ++ ws) := by
 induction xs generalizing vs with
 | nil => obtain rfl := d.nil_inv; exact q
 | cons x xs ih => obtain ⟨v, r, rfl, h, l⟩ := d.cons_inv; exact .cons h (ih l)
theorem DenL.take {xs : List V} {vs : List Value} (n : Nat) (d : DenL cf P b fz rho xs vs) : DenL cf P b fz rho (xs.take n) (vs.take n) := by
 induction xs generalizing vs n with
 | nil => obtain rfl := d.nil_inv; rw [List.take_nil, List.take_nil]; exact .nil
 | cons x xs ih =>
  obtain ⟨v, r, rfl, h, l⟩ := d.cons_inv
  cases n with
  | zero => exact .nil
  | succ n => exact .cons h (ih n l)
theorem DenL.drop {xs : List V} {vs : List Value} (n : Nat) (d : DenL cf P b fz rho xs vs) : DenL cf P b fz rho (xs.drop n) (vs.drop n) := by
 induction xs generalizing vs n with
 | nil => obtain rfl := d.nil_inv; rw [List.drop_nil, List.drop_nil]; exact .nil
 | cons x xs ih =>
  obtain ⟨v, r, rfl, h, l⟩ := d.cons_inv
  cases n with
  | zero => exact .cons h l
  | succ n => exact ih n l
theorem DenL.set {xs : List V} {vs : List Value} {x : V} {v : Value} (n : Nat) (h : Den cf P b fz rho x v) (d : DenL cf P b fz rho xs vs) : DenL cf P b fz rho (xs.set n x) (vs.set n v) := by
 induction xs generalizing vs n with
 | nil => obtain rfl := d.nil_inv; exact .nil
 | cons y xs ih =>
  obtain ⟨u, r, rfl, k, l⟩ := d.cons_inv
  cases n with
  | zero => exact .cons h l
  | succ n => exact .cons k (ih n l)
noncomputable def PV (cf : Cfg) (P : Params) (b : Heap) (fz : Led) (rho : List Addr) : List (Nat × V) → List (Str × Value) → Prop
 | [], [] => True
 | (k, x) :: r, (s, v) :: r' => s = strOf k ∧ Den cf P b fz rho x v ∧ PV cf P b fz rho r r'
 | _, _ => False
theorem DenD.nil_inv {vs : List DictEntry} (d : DenD cf P b fz rho [] vs) : vs = [] := by cases d; rfl
theorem DenD.cons_inv {k : Nat} {x : V} {xs : List (Nat × V)} {vs : List DictEntry} (d : DenD cf P b fz rho ((k, x) :: xs) vs) : DDc cf P b fz rho k x xs vs := by cases d with | cons f h l => exact ⟨_, _, _, rfl, f, h, l⟩
theorem DenD.keys {kvs : List (Nat × V)} {es : List DictEntry} (h : DenD cf P b fz rho kvs es) : (kvs.map (·.1)).Nodup := by
 induction kvs generalizing es with
 | nil => exact List.nodup_nil
 | cons p r ih =>
  obtain ⟨t, v, r, rfl, f, d, l⟩ := h.cons_inv
  refine List.nodup_cons.mpr ⟨fun q => ?_, ih l⟩
  obtain ⟨p, hp, e⟩ := mmp q
  exact f p hp e
theorem DenD.kit {prog : Program} {w : World} (hw : w.params = P) {kvs : List (Nat × V)} {es : List DictEntry} (d : DenD cf P b fz rho kvs es) :
  ∃ kv, PV cf P b fz rho kvs kv ∧ Pairs (strKind prog w) es kv ∧ (∀ e ∈ es, ∃ k, (strKind prog w).is k e.key = true ∧ e.hash = (strKind prog w).hash k) ∧ kv.map (·.1) = kvs.map (fun p => strOf p.1) := by
 induction kvs generalizing es with
 | nil => obtain rfl := d.nil_inv; exact ⟨[], trivial, .nil, (fun z_ h => nomatch h), rfl⟩
 | cons p r ih =>
  obtain ⟨t, v, r', rfl, f, d1, l⟩ := d.cons_inv
  obtain ⟨kv, h1, h2, h3, h4⟩ := ih l
  refine ⟨(strOf p.1, v) :: kv, ⟨rfl, d1, h1⟩, .cons (strKind_is prog w _ _) rfl h2, fun e he => ?_, by rw [List.map_cons, List.map_cons, h4]⟩
  rcases List.mem_cons.mp he with rfl | he
  ·exact ⟨strOf p.1, strKind_is prog w _ _, by rw [← hw]; rfl⟩
  ·exact h3 e he
theorem nodup_strOf {kvs : List (Nat × V)} (h : (kvs.map (·.1)).Nodup) : (kvs.map (fun p => strOf p.1)).Nodup := by
 induction kvs with
 | nil => exact List.nodup_nil
 | cons p r ih =>
  rw [List.map_cons, List.nodup_cons] at h ⊢
  refine ⟨fun q => ?_, ih h.2⟩
  obtain ⟨x, hx, e⟩ := mmp q
  exact h.1 (List.mem_map.mpr ⟨x, hx, strOf_inj e⟩)
theorem DenD.dictOf {prog : Program} {w : World} (hw : w.params = P) {kvs : List (Nat × V)} {es : List DictEntry} {n : Nat} (h : DenD cf P b fz rho kvs es) :
  ∃ kv, PV cf P b fz rho kvs kv ∧ (dictOf es n).IsDictOf (strKind prog w) kv := by
 obtain ⟨kv, h1, h2, h3, h4⟩ := DenD.kit (prog := prog) hw h
 exact ⟨kv, h1, es.toArray, n, ⟨rfl, rfl, rfl⟩, rfl, fun e he => h3 e (by simpa using he), h2, by rw [h4]; exact nodup_strOf h.keys⟩
theorem PV.valueAt : ∀ {kvs : List (Nat × V)} {kv : List (Str × Value)} {k : Nat}, PV cf P b fz rho kvs kv →
  match lookN k kvs with
  | some x => ∃ v, PySem.valueAt kv (strOf k) = some v ∧ Den cf P b fz rho x v
  | none => PySem.valueAt kv (strOf k) = none
 | [], [], _, _ => rfl
 | (y, x) :: r, (s, v) :: r', k, ⟨e, d, h⟩ => by
  subst e
  have ih := PV.valueAt (k := k) h
  unfold lookN
  by_cases hk : k = y
  ·subst hk
   rw [show Nat.beq k k = true from Nat.beq_refl k]
   exact ⟨v, by simp [PySem.valueAt], d⟩
  ·rw [show Nat.beq k y = false from by cases q : Nat.beq k y with | false => rfl | true => exact absurd (nbe q) hk]
   have : PySem.valueAt ((strOf y, v) :: r') (strOf k) = PySem.valueAt r' (strOf k) := by
    unfold PySem.valueAt
    rw [List.find?_cons, decide_eq_false (fun q : strOf y = strOf k => hk (strOf_inj q).symm)]
   dsimp only
   rw [this]
   exact ih
 | [], _ :: _, _, h => h.elim
 | _ :: _, [], _, h => h.elim
end
end Mine
end
section
open PySem PySem.W PyProof.Rows PySem.Calls PySem.SeqAt
open PyProof.Rows.LCg (NsObj ns_obj)
namespace Mine
structure Wd where
 fz : Led
 xt : Led
 mu : Led
 rho : List Addr
 tb : Array Value
noncomputable def Wd.all (cf : Cfg) (w : Wd) : Led := w.fz ++ (w.xt ++ (w.mu ++ [(cf.tabA, tabObj w.tb)]))
noncomputable def TabOk (cf : Cfg) (b : Heap) (fz : Led) (tb : Array Value) : Prop :=
 tb = #[] ∨ ∃ c oc vs t, tb = #[rawInt cf.lamPos.line, rawInt cf.lamPos.col, .ref c] ∧ At b fz c oc ∧ oc.data = .fields vs ∧ vs[1]? = some (.str cf.lamQ t)
theorem TabOk.mono {cf : Cfg} {b : Heap} {fz fz' : Led} {tb : Array Value} (h : TabOk cf b fz tb) (s : ∀ p ∈ fz, p ∈ fz') : TabOk cf b fz' tb := by
 rcases h with h | ⟨c, oc, vs, t, h1, h2, h3⟩
 ·exact .inl h
 ·exact .inr ⟨c, oc, vs, t, h1, h2.mono s, h3⟩
structure St (cf : Cfg) (b h : Heap) (w : Wd) : Prop where
 stays : ∀ a o, b.get? a = some o → h.get? a = some o
 kn : ∀ p ∈ w.all cf, h.get? p.1 = some p.2
 new : ∀ p ∈ w.all cf, b.get? p.1 = none
 nf : ∀ p ∈ w.mu, ∀ vs, p.2.data ≠ .fields vs
 nd : ((w.all cf).map (·.1)).Nodup
 rho : ∀ a ∈ w.rho, a ∈ w.mu.map (·.1)
 rnd : w.rho.Nodup
 tab : TabOk cf b w.fz w.tb
noncomputable def Sim (o o' : Obj) : Prop := (∀ m, NsObj o m → NsObj o' m) ∧ ∀ x, o.data = .cell x → o'.data = .cell x
theorem Sim.refl (o : Obj) : Sim o o := ⟨fun z_ h => h, fun z_ h => h⟩
theorem Sim.trans {o o' o'' : Obj} (x : Sim o o') (y : Sim o' o'') : Sim o o'' := ⟨fun m h => y.1 m (x.1 m h), fun c h => y.2 c (x.2 c h)⟩
theorem Sim.slots (o : Obj) (sl : Array (Option Value)) : Sim o { o with slots := sl } := ⟨fun z_ h => h, fun z_ h => h⟩
theorem nsFind_eq {o : Obj} {m m' : Str → Option Value} (h : NsObj o m) (h' : NsObj o m') : m = m' := by
 obtain ⟨es, ep, e, _, f⟩ := h
 obtain ⟨es', ep', e', _, f'⟩ := h'
 rw [e] at e'
 injection e' with j1 j2; subst j1; subst j2
 funext x
 rw [← f x, ← f' x]
theorem Sim.ns {o o' : Obj} {m : Str → Option Value} (h : NsObj o m) (h' : NsObj o' m) : Sim o o' := ⟨fun m' q => nsFind_eq h q ▸ h', fun x q => by
 obtain ⟨es, ep, e, _⟩ := h
 rw [e] at q
 injection q⟩
noncomputable def Pre (l l' : List Addr) : Prop := ∀ (j : Nat) (a : Addr), l[j]? = some a → l'[j]? = some a
structure Ext (own : List Addr) (w w' : Wd) : Prop where
 fz : ∀ p ∈ w.fz, p ∈ w'.fz
 xt : ∀ p ∈ w.xt, p ∈ w'.xt
 mu : ∀ p ∈ w.mu, p.1 ∉ own → p.1 ∉ w.rho → ∃ o', (p.1, o') ∈ w'.mu ∧ Sim p.2 o'
 ky : ∀ p ∈ w.mu, p.1 ∈ w'.mu.map (·.1)
 rho : Pre w.rho w'.rho
 ro : ∀ p ∈ w.mu, p.1 ∉ w.rho → p.1 ∉ w'.rho
theorem Ext.refl (own : List Addr) (w : Wd) : Ext own w w :=
 ⟨fun z_ h => h, fun z_ h => h, fun p h z_ z_ => ⟨p.2, h, .refl _⟩, fun p h => mmo h, fun z_ z_ h => h, fun z_ z_ h => h⟩
theorem Ext.trans {own : List Addr} {w w' w'' : Wd} (x : Ext own w w') (y : Ext own w' w'') : Ext own w w'' := by
 refine ⟨fun p h => y.fz _ (x.fz _ h), fun p h => y.xt _ (x.xt _ h), fun p h h1 h2 => ?_, fun p h => ?_, fun j a h => y.rho j a (x.rho j a h), fun p h h1 => ?_⟩
 ·obtain ⟨o', q, m1⟩ := x.mu p h h1 h2
  obtain ⟨o'', q2, m2⟩ := y.mu _ q h1 (x.ro p h h2)
  exact ⟨o'', q2, m1.trans m2⟩
 ·obtain ⟨q, hq, e⟩ := mmp (x.ky p h)
  have := y.ky q hq
  rwa [e] at this
 ·obtain ⟨q, hq, e⟩ := mmp (x.ky p h)
  have := y.ro q hq (by rw [e]; exact x.ro p h h1)
  rwa [e] at this
theorem Ext.weaken {own own' : List Addr} {w w' : Wd} (x : Ext own w w') (s : ∀ a ∈ own, a ∈ own') : Ext own' w w' :=
 ⟨x.fz, x.xt, fun p h h1 h2 => x.mu p h (fun q => h1 (s _ q)) h2, x.ky, x.rho, x.ro⟩
section
variable {cf : Cfg} {P : Params} {b h h' : Heap} {w w' : Wd}
noncomputable def DenW (cf : Cfg) (P : Params) (b : Heap) (w : Wd) : V → Value → Prop := Den cf P b w.fz w.rho
noncomputable def DenLW (cf : Cfg) (P : Params) (b : Heap) (w : Wd) : List V → List Value → Prop := DenL cf P b w.fz w.rho
noncomputable def DenDW (cf : Cfg) (P : Params) (b : Heap) (w : Wd) : List (Nat × V) → List DictEntry → Prop := DenD cf P b w.fz w.rho
theorem DenW.ext {own : List Addr} {x : V} {v : Value} (d : DenW cf P b w x v) (e : Ext own w w') : DenW cf P b w' x v := Den.mono e.fz e.rho d
theorem DenLW.ext {own : List Addr} {x : List V} {v : List Value} (d : DenLW cf P b w x v) (e : Ext own w w') : DenLW cf P b w' x v := DenL.mono e.fz e.rho d
theorem DenDW.ext {own : List Addr} {x : List (Nat × V)} {v : List DictEntry} (d : DenDW cf P b w x v) (e : Ext own w w') : DenDW cf P b w' x v := DenD.mono e.fz e.rho d
noncomputable def ObjOk (cf : Cfg) (P : Params) (b : Heap) (w : Wd) (so : SO) (o : Obj) : Prop := match so with
 | .lst xs => ∃ vs n, o = listOf (List.toArray vs) n ∧ DenLW cf P b w xs vs
 | .dct kvs => ∃ es n, o = dictOf es n ∧ DenDW cf P b w kvs es
theorem ObjOk.ext {own : List Addr} {so : SO} {o : Obj} (d : ObjOk cf P b w so o) (e : Ext own w w') : ObjOk cf P b w' so o := by
 cases so with
 | lst xs => obtain ⟨vs, n, h1, h2⟩ := d; exact ⟨vs, n, h1, h2.ext e⟩
 | dct kvs => obtain ⟨vs, n, h1, h2⟩ := d; exact ⟨vs, n, h1, h2.ext e⟩
structure Live (cf : Cfg) (P : Params) (b : Heap) (w : Wd) (σ : Store) : Prop where
 len : w.rho.length = σ.length
 at_ : ∀ (j : Nat) so, σ[j]? = some so → ∃ a o, w.rho[j]? = some a ∧ (a, o) ∈ w.mu ∧ ObjOk cf P b w so o
theorem St.at_ {a : Addr} {o : Obj} (S : St cf b h w) (x : At b w.fz a o) : h.get? a = some o := by
 rcases x with x | x
 ·exact S.kn (a, o) (List.mem_append_left _ x)
 ·exact S.stays _ _ x
theorem mem_mu {p : Addr × Obj} (x : p ∈ w.mu) : p ∈ w.all cf := List.mem_append_right _ (List.mem_append_right _ (List.mem_append_left _ x))
theorem mem_fz {p : Addr × Obj} (x : p ∈ w.fz) : p ∈ w.all cf := List.mem_append_left _ x
theorem mem_xt {p : Addr × Obj} (x : p ∈ w.xt) : p ∈ w.all cf := List.mem_append_right _ (List.mem_append_left _ x)
theorem mem_tab : (cf.tabA, tabObj w.tb) ∈ w.all cf := List.mem_append_right _ (List.mem_append_right _ (List.mem_append_right _ (.head _)))
theorem all_cases {p : Addr × Obj} (x : p ∈ w.all cf) : p ∈ w.fz ∨ p ∈ w.xt ∨ p ∈ w.mu ∨ p = (cf.tabA, tabObj w.tb) := by
 rcases List.mem_append.mp x with x | x
 ·exact .inl x
 ·rcases List.mem_append.mp x with x | x
  ·exact .inr (.inl x)
  ·rcases List.mem_append.mp x with x | x
   ·exact .inr (.inr (.inl x))
   ·exact .inr (.inr (.inr (List.mem_singleton.mp x)))
theorem St.mu (S : St cf b h w) {a : Addr} {o : Obj} (x : (a, o) ∈ w.mu) : h.get? a = some o := S.kn (a, o) (mem_mu x)
theorem nodup_key {l : Led} (nd : (l.map (·.1)).Nodup) : ∀ {a : Addr} {o o' : Obj}, (a, o) ∈ l → (a, o') ∈ l → o = o' := by
 induction l with
 | nil => intro _ _ _ h; cases h
 | cons p r ih =>
  intro a o o' h1 h2
  rw [List.map_cons, List.nodup_cons] at nd
  rcases List.mem_cons.mp h1 with e1 | h1 <;> rcases List.mem_cons.mp h2 with e2 | h2
  ·rw [← e1] at e2; injection e2 with j1 j2; subst j2; rfl
  ·exact absurd (mmo (f := (·.1)) h2) (by rw [← e1] at nd; exact nd.1)
  ·exact absurd (mmo (f := (·.1)) h1) (by rw [← e2] at nd; exact nd.1)
  ·exact ih nd.2 h1 h2
theorem St.uniq (S : St cf b h w) {a : Addr} {o o' : Obj} (x : (a, o) ∈ w.all cf) (y : (a, o') ∈ w.all cf) : o = o' := nodup_key S.nd x y
theorem St.keeps (S : St cf b h w) (k : ∀ a o, h.get? a = some o → h'.get? a = some o) : St cf b h' w :=
 ⟨fun a o e => k _ _ (S.stays a o e), fun p hp => k _ _ (S.kn p hp), S.new, S.nf, S.nd, S.rho, S.rnd, S.tab⟩
theorem St.fresh (S : St cf b h w) {D : Addr} (hD : h.get? D = none) : D ∉ (w.all cf).map (·.1) := fun q => by
 obtain ⟨p, hp, e⟩ := mmp q
 have := S.kn p hp
 rw [e, hD] at this
 exact noS this
theorem St.fresh_b (S : St cf b h w) {D : Addr} (hD : h.get? D = none) : b.get? D = none := by
 cases e : b.get? D with
 | none => rfl
 | some o => have := S.stays _ _ e; rw [hD] at this; exact noS this
theorem St.addF (S : St cf b h w) {D : Addr} {o : Obj} (k : ∀ a o, h.get? a = some o → h'.get? a = some o) (hD : h.get? D = none) (hn : h'.get? D = some o) : St cf b h' { w with fz := (D, o) :: w.fz } := by
 have S' := S.keeps k
 refine ⟨S'.stays, fun p hp => ?_, fun p hp => ?_, S.nf, ?_, S.rho, S.rnd, S.tab.mono fun p hp => List.mem_cons_of_mem _ hp⟩
 ·rcases List.mem_cons.mp hp with rfl | hp
  ·exact hn
  ·exact S'.kn p hp
 ·rcases List.mem_cons.mp hp with rfl | hp
  ·exact S.fresh_b hD
  ·exact S'.new p hp
 ·exact List.nodup_cons.mpr ⟨S.fresh hD, S.nd⟩
theorem ext_addF {own : List Addr} {p : Addr × Obj} : Ext own w { w with fz := p :: w.fz } :=
 ⟨fun z_ h => List.mem_cons_of_mem _ h, fun z_ h => h, fun p h z_ z_ => ⟨p.2, h, .refl _⟩, fun p h => mmo h, fun z_ z_ h => h, fun z_ z_ h => h⟩
theorem Live.addF {σ : Store} {p : Addr × Obj} (L : Live cf P b w σ) : Live cf P b { w with fz := p :: w.fz } σ :=
 ⟨L.len, fun j so e => let ⟨a, o, h1, h2, h3⟩ := L.at_ j so e; ⟨a, o, h1, h2, h3.ext (own := []) ext_addF⟩⟩
theorem perm_nodup {l l' : Led} (p : l.Perm l') (nd : (l.map (·.1)).Nodup) : (l'.map (·.1)).Nodup := (p.map _).nodup_iff.mp nd
theorem St.addM (S : St cf b h w) {D : Addr} {o : Obj} (k : ∀ a o, h.get? a = some o → h'.get? a = some o) (hD : h.get? D = none) (hn : h'.get? D = some o) (hf : ∀ vs, o.data ≠ .fields vs) : St cf b h' { w with mu := (D, o) :: w.mu } := by
 have S' := S.keeps k
 have hm : ∀ p, p ∈ Wd.all cf { w with mu := (D, o) :: w.mu } → p = (D, o) ∨ p ∈ w.all cf := fun p hp => by
  rcases all_cases hp with hp | hp | hp | hp
  ·exact .inr (mem_fz hp)
  ·exact .inr (mem_xt hp)
  ·rcases List.mem_cons.mp hp with hp | hp
   ·exact .inl hp
   ·exact .inr (mem_mu hp)
  ·exact .inr (hp ▸ mem_tab)
 refine ⟨S'.stays, fun p hp => ?_, fun p hp => ?_, fun p hp => ?_, ?_, fun a ha => ?_, S.rnd, S.tab⟩
 ·rcases hm p hp with rfl | hp
  ·exact hn
  ·exact S'.kn p hp
 ·rcases hm p hp with rfl | hp
  ·exact S.fresh_b hD
  ·exact S'.new p hp
 ·rcases List.mem_cons.mp hp with rfl | hp
  ·exact hf
  ·exact S.nf p hp
 ·refine perm_nodup (l := (D, o) :: w.all cf) ?_ (List.nodup_cons.mpr ⟨S.fresh hD, S.nd⟩)
  show List.Perm ((D, o) :: (w.fz ++ (w.xt ++ (w.mu ++ [(cf.tabA, tabObj w.tb)])))) (w.fz ++ (w.xt ++ (((D, o) :: w.mu) ++ [(cf.tabA, tabObj w.tb)])))
  have e1 := (List.perm_middle (a := (D, o)) (l₁ := w.fz) (l₂ := w.xt ++ (w.mu ++ [(cf.tabA, tabObj w.tb)]))).symm
  have e2 := (List.perm_middle (a := (D, o)) (l₁ := w.xt) (l₂ := w.mu ++ [(cf.tabA, tabObj w.tb)])).symm
  exact e1.trans (e2.append_left _)
 ·exact List.mem_cons_of_mem _ (S.rho a ha)
theorem ext_addM {own : List Addr} {p : Addr × Obj} : Ext own w { w with mu := p :: w.mu } :=
 ⟨fun z_ h => h, fun z_ h => h, fun p h z_ z_ => ⟨p.2, List.mem_cons_of_mem _ h, .refl _⟩, fun p h => mmo (List.mem_cons_of_mem _ h), fun z_ z_ h => h, fun z_ z_ h => h⟩
theorem Live.addM {σ : Store} {p : Addr × Obj} (L : Live cf P b w σ) : Live cf P b { w with mu := p :: w.mu } σ :=
 ⟨L.len, fun j so e => let ⟨a, o, h1, h2, h3⟩ := L.at_ j so e; ⟨a, o, h1, List.mem_cons_of_mem _ h2, h3.ext (own := []) ext_addM⟩⟩
theorem St.addL (S : St cf b h w) {D : Addr} {o : Obj} (k : ∀ a o, h.get? a = some o → h'.get? a = some o) (hD : h.get? D = none) (hn : h'.get? D = some o) (hf : ∀ vs, o.data ≠ .fields vs) : St cf b h' { w with mu := (D, o) :: w.mu, rho := w.rho ++ [D] } := by
 have S' := S.addM k hD hn hf
 refine ⟨S'.stays, S'.kn, S'.new, S'.nf, S'.nd, fun a ha => ?_, ?_, S'.tab⟩
 ·rcases List.mem_append.mp ha with ha | ha
  ·exact S'.rho a ha
  ·rw [List.mem_singleton.mp ha]; exact .head _
 ·refine List.nodup_append.mpr ⟨S.rnd, by simp, fun a ha c hc e => ?_⟩
  rw [List.mem_singleton.mp hc] at e
  subst e
  exact S.fresh hD (by
   obtain ⟨p, hp, e⟩ := mmp (S.rho a ha)
   exact e ▸ mmo (mem_mu hp))
theorem pre_snoc {l : List Addr} {D : Addr} : Pre l (l ++ [D]) := fun j a e => by
 rw [List.getElem?_append_left (List.getElem?_eq_some_iff.mp e).1]; exact e
theorem ext_addL {own : List Addr} {D : Addr} {o : Obj} (S : St cf b h w) (hD : h.get? D = none) : Ext own w { w with mu := (D, o) :: w.mu, rho := w.rho ++ [D] } :=
 ⟨fun z_ h => h, fun z_ h => h, fun p h z_ z_ => ⟨p.2, List.mem_cons_of_mem _ h, .refl _⟩, fun p h => mmo (List.mem_cons_of_mem _ h), pre_snoc, fun p hp q hq => by
  rcases List.mem_append.mp hq with hq | hq
  ·exact q hq
  ·exact S.fresh hD (by rw [← List.mem_singleton.mp hq]; exact mmo (mem_mu hp))⟩
theorem Live.addL {σ : Store} {D : Addr} {o : Obj} {so : SO} (S : St cf b h w) (hD : h.get? D = none) (L : Live cf P b w σ) (x : ObjOk cf P b w so o) : Live cf P b { w with mu := (D, o) :: w.mu, rho := w.rho ++ [D] } (σ ++ [so]) := by
 have E := ext_addL (own := []) (o := o) S hD
 refine ⟨by simp [L.len], fun j so' e => ?_⟩
 by_cases hj : j < σ.length
 ·rw [List.getElem?_append_left hj] at e
  obtain ⟨a, o', h1, h2, h3⟩ := L.at_ j so' e
  exact ⟨a, o', pre_snoc _ _ h1, List.mem_cons_of_mem _ h2, h3.ext E⟩
 ·rw [List.getElem?_append_right (Nat.le_of_not_lt hj)] at e
  have hj' : j - σ.length = 0 := by
   cases q : j - σ.length with
   | zero => rfl
   | succ k => rw [q] at e; simp at e
  rw [hj'] at e
  obtain rfl := sI e
  have : j = w.rho.length := by have := L.len; omega
  refine ⟨D, o, by rw [this]; simp, .head _, x.ext E⟩
noncomputable def setM (mu : Led) (d : Addr) (o' : Obj) : Led := mu.map fun p => if p.1 = d then (d, o') else p
theorem setM_keys {mu : Led} {d : Addr} {o' : Obj} : (setM mu d o').map (·.1) = mu.map (·.1) := by
 unfold setM
 rw [List.map_map]
 refine List.map_congr_left fun p z_ => ?_
 show (if p.1 = d then (d, o') else p).1 = p.1
 by_cases e : p.1 = d
 ·rw [if_pos e]; exact e.symm
 ·rw [if_neg e]
theorem setM_mem {mu : Led} {d : Addr} {o' : Obj} {p : Addr × Obj} (h : p ∈ setM mu d o') : p = (d, o') ∨ (p ∈ mu ∧ p.1 ≠ d) := by
 obtain ⟨q, hq, e⟩ := mmp h
 by_cases hd : q.1 = d
 ·rw [if_pos hd] at e; exact .inl e.symm
 ·rw [if_neg hd] at e; subst e; exact .inr ⟨hq, hd⟩
theorem setM_here {mu : Led} {d : Addr} {o' : Obj} (h : d ∈ mu.map (·.1)) : (d, o') ∈ setM mu d o' := by
 obtain ⟨q, hq, e⟩ := mmp h
 exact List.mem_map.mpr ⟨q, hq, if_pos e⟩
theorem setM_there {mu : Led} {d : Addr} {o' : Obj} {p : Addr × Obj} (h : p ∈ mu) (hd : p.1 ≠ d) : p ∈ setM mu d o' := List.mem_map.mpr ⟨p, h, if_neg hd⟩
theorem St.upd (S : St cf b h w) {d : Addr} {o' : Obj} (hd : d ∈ w.mu.map (·.1)) (k : ∀ a o, a ≠ d → h.get? a = some o → h'.get? a = some o) (hn : h'.get? d = some o') (hf : ∀ vs, o'.data ≠ .fields vs) : St cf b h' { w with mu := setM w.mu d o' } := by
 have hk : (Wd.all cf { w with mu := setM w.mu d o' }).map (·.1) = (w.all cf).map (·.1) := by
  simp only [Wd.all, List.map_append, setM_keys]
 have dk : d ∈ (w.all cf).map (·.1) := by
  obtain ⟨q, hq, e⟩ := mmp hd
  exact e ▸ mmo (mem_mu hq)
 have bd : b.get? d = none := by
  obtain ⟨q, hq, e⟩ := mmp dk
  exact e ▸ S.new q hq
 have other : ∀ p ∈ w.all cf, p.1 ≠ d → h'.get? p.1 = some p.2 := fun p hp hne => k _ _ hne (S.kn p hp)
 have nd3 := S.nd
 have key : ∀ p, p ∈ Wd.all cf { w with mu := setM w.mu d o' } → p = (d, o') ∨ (p ∈ w.all cf ∧ p.1 ≠ d) := fun p hp => by
  have muk : ∀ q ∈ w.mu, q.1 = d → True := fun z_ z_ z_ => trivial
  obtain ⟨q, hq, e⟩ := mmp hd
  have nm : ∀ r : Addr × Obj, (r ∈ w.fz ∨ r ∈ w.xt ∨ r = (cf.tabA, tabObj w.tb)) → r.1 ≠ d := fun r hr er => by
   have e1 := S.nd
   simp only [Wd.all, List.map_append] at e1
   have : r.1 ∈ w.mu.map (·.1) := er ▸ hd
   rw [List.nodup_append, List.nodup_append, List.nodup_append] at e1
   rcases hr with hr | hr | hr
   ·exact e1.2.2 _ (mmo hr) _ (List.mem_append_right _ (List.mem_append_left _ this)) rfl
   ·exact e1.2.1.2.2 _ (mmo hr) _ (List.mem_append_left _ this) rfl
   ·exact e1.2.1.2.1.2.2 _ this _ (by rw [hr]; exact .head _) rfl
  rcases all_cases hp with hp | hp | hp | hp
  ·exact .inr ⟨mem_fz hp, nm p (.inl hp)⟩
  ·exact .inr ⟨mem_xt hp, nm p (.inr (.inl hp))⟩
  ·rcases setM_mem hp with hp | ⟨hp, hne⟩
   ·exact .inl hp
   ·exact .inr ⟨mem_mu hp, hne⟩
  ·exact .inr ⟨hp ▸ mem_tab, nm p (.inr (.inr hp))⟩
 refine ⟨fun a o e => k _ _ (fun q => by rw [q, bd] at e; exact noS e) (S.stays a o e), fun p hp => ?_, fun p hp => ?_, fun p hp => ?_, by rw [hk]; exact S.nd, fun a ha => by show a ∈ (setM w.mu d o').map (·.1); rw [setM_keys]; exact S.rho a ha, S.rnd, S.tab⟩
 ·rcases key p hp with rfl | ⟨hp, hne⟩
  ·exact hn
  ·exact other p hp hne
 ·rcases key p hp with rfl | ⟨hp, _⟩
  ·exact bd
  ·exact S.new p hp
 ·rcases setM_mem hp with rfl | ⟨hp, _⟩
  ·exact hf
  ·exact S.nf p hp
theorem ext_upd {own : List Addr} {d : Addr} {o' : Obj} (x : d ∈ own ∨ d ∈ w.rho) : Ext own w { w with mu := setM w.mu d o' } :=
 ⟨fun z_ h => h, fun z_ h => h, fun p h h1 h2 => ⟨p.2, setM_there h fun e => x.elim (fun q => h1 (e ▸ q)) fun q => h2 (e ▸ q), .refl _⟩, fun p h => by rw [setM_keys]; exact mmo h, fun z_ z_ h => h, fun z_ z_ h => h⟩
theorem Live.updO {σ : Store} {d : Addr} {o' : Obj} (L : Live cf P b w σ) (hd : d ∉ w.rho) : Live cf P b { w with mu := setM w.mu d o' } σ :=
 ⟨L.len, fun j so e => let ⟨a, o, h1, h2, h3⟩ := L.at_ j so e
  ⟨a, o, h1, setM_there h2 (fun q => hd (q ▸ List.mem_of_getElem? h1)), h3⟩⟩
theorem Live.updS {σ : Store} {j : Nat} {d : Addr} {o' : Obj} {so : SO} (S : St cf b h w) (L : Live cf P b w σ) (hj : w.rho[j]? = some d) (x : ObjOk cf P b w so o') : Live cf P b { w with mu := setM w.mu d o' } (σ.set j so) := by
 refine ⟨by simp [L.len], fun i so' e => ?_⟩
 by_cases hij : j = i
 ·subst hij
  have hlt : j < σ.length := by rw [← L.len]; exact (List.getElem?_eq_some_iff.mp hj).1
  rw [List.getElem?_set_self hlt] at e
  obtain rfl := sI e
  exact ⟨d, o', hj, setM_here (S.rho d (List.mem_of_getElem? hj)), x⟩
 ·rw [List.getElem?_set_ne hij] at e
  obtain ⟨a, o, h1, h2, h3⟩ := L.at_ i so' e
  refine ⟨a, o, h1, setM_there h2 fun q => ?_, h3⟩
  have q' : a = d := q
  subst q'
  have := (List.getElem?_inj (List.getElem?_eq_some_iff.mp hj).1 S.rnd).mp (hj.trans h1.symm)
  exact hij this
theorem ext_sim {own : List Addr} {d : Addr} {o o' : Obj} (S : St cf b h w) (hm : (d, o) ∈ w.mu) (x : Sim o o') : Ext own w { w with mu := setM w.mu d o' } :=
 ⟨fun z_ h => h, fun z_ h => h, fun p hp h1 h2 => by
  by_cases e : p.1 = d
  ·have : p.2 = o := S.uniq (a := d) (mem_mu (by rw [← e]; exact hp)) (mem_mu hm)
   rw [this, e]
   exact ⟨o', setM_here (mmo (f := (·.1)) hm), x⟩
  ·exact ⟨p.2, setM_there hp e, .refl _⟩, fun p h => by rw [setM_keys]; exact mmo h, fun z_ z_ h => h, fun z_ z_ h => h⟩
theorem sim_nf {o : Obj} {m : Str → Option Value} (h : NsObj o m) : ∀ vs, o.data ≠ .fields vs := fun vs q => by
 obtain ⟨es, ep, e, _⟩ := h
 rw [e] at q
 injection q
theorem St.frm (S : St cf b h w) {L : Addr} {o : Obj} {m : Str → Option Value} (hm : (L, o) ∈ w.mu) (hn : NsObj o m) (hL : b.objs.size ≤ L) : Fr b L h m :=
 ⟨hn.ns (S.mu hm), S.stays, hL⟩
theorem St.news (S : St cf b h w) {L : Addr} : News b L h ((w.all cf).filter fun p => !decide (p.1 = L)) := fun p hp => by
 obtain ⟨h1, h2⟩ := List.mem_filter.mp hp
 exact ⟨S.kn p h1, by simpa using h2, S.new p h1⟩
theorem St.byNews (S : St cf b h w) {L : Addr} {o : Obj} {m : Str → Option Value} {news : Led} (hm : (L, o) ∈ w.mu) (hn : NsObj o m) (F : Fr b L h' m) (N : News b L h' news) (hs : ∀ p ∈ w.all cf, p.1 ≠ L → p ∈ news) :
  ∃ o', St cf b h' { w with mu := setM w.mu L o' } ∧ Ext [] w { w with mu := setM w.mu L o' } ∧ NsObj o' m := by
 obtain ⟨o', g, hn'⟩ := ns_obj F.ns
 refine ⟨o', ?_, ext_sim S hm (.ns hn hn'), hn'⟩
 have hd : L ∈ w.mu.map (·.1) := mmo (f := (·.1)) hm
 have hk : (Wd.all cf { w with mu := setM w.mu L o' }).map (·.1) = (w.all cf).map (·.1) := by
  simp only [Wd.all, List.map_append, setM_keys]
 have key : ∀ p, p ∈ Wd.all cf { w with mu := setM w.mu L o' } → p = (L, o') ∨ (p ∈ w.all cf ∧ p.1 ≠ L) := fun p hp => by
  have nm : ∀ r : Addr × Obj, (r ∈ w.fz ∨ r ∈ w.xt ∨ r = (cf.tabA, tabObj w.tb)) → r.1 ≠ L := fun r hr er => by
   have e1 := S.nd
   simp only [Wd.all, List.map_append] at e1
   have : r.1 ∈ w.mu.map (·.1) := er ▸ hd
   rw [List.nodup_append, List.nodup_append, List.nodup_append] at e1
   rcases hr with hr | hr | hr
   ·exact e1.2.2 _ (mmo hr) _ (List.mem_append_right _ (List.mem_append_left _ this)) rfl
   ·exact e1.2.1.2.2 _ (mmo hr) _ (List.mem_append_left _ this) rfl
   ·exact e1.2.1.2.1.2.2 _ this _ (by rw [hr]; exact .head _) rfl
  rcases all_cases hp with hp | hp | hp | hp
  ·exact .inr ⟨mem_fz hp, nm p (.inl hp)⟩
  ·exact .inr ⟨mem_xt hp, nm p (.inr (.inl hp))⟩
  ·rcases setM_mem hp with hp | ⟨hp, hne⟩
   ·exact .inl hp
   ·exact .inr ⟨mem_mu hp, hne⟩
  ·exact .inr ⟨hp ▸ mem_tab, nm p (.inr (.inr hp))⟩
 refine ⟨F.keep, fun p hp => ?_, fun p hp => ?_, fun p hp => ?_, by rw [hk]; exact S.nd, fun a ha => by show a ∈ (setM w.mu L o').map (·.1); rw [setM_keys]; exact S.rho a ha, S.rnd, S.tab⟩
 ·rcases key p hp with rfl | ⟨hp, hne⟩
  ·exact g
  ·exact (N p (hs p hp hne)).1
 ·rcases key p hp with rfl | ⟨hp, _⟩
  ·exact S.new (L, o) (mem_mu hm)
  ·exact S.new p hp
 ·rcases setM_mem hp with rfl | ⟨hp, _⟩
  ·exact sim_nf hn'
  ·exact S.nf p hp
theorem St.tellF (S : St cf b h w) {D : Addr} {o : Obj} (hn : h.get? D = some o) (hb : b.get? D = none) (hk : D ∉ (w.all cf).map (·.1)) : St cf b h { w with fz := (D, o) :: w.fz } := by
 refine ⟨S.stays, fun p hp => ?_, fun p hp => ?_, S.nf, List.nodup_cons.mpr ⟨hk, S.nd⟩, S.rho, S.rnd, S.tab.mono fun p hp => List.mem_cons_of_mem _ hp⟩
 ·rcases List.mem_cons.mp hp with rfl | hp
  ·exact hn
  ·exact S.kn p hp
 ·rcases List.mem_cons.mp hp with rfl | hp
  ·exact hb
  ·exact S.new p hp
theorem Live.sim {σ : Store} {L : Addr} {o' : Obj} (V : Live cf P b w σ) (hL : L ∉ w.rho) : Live cf P b { w with mu := setM w.mu L o' } σ := V.updO hL
theorem St.byNewsF (S : St cf b h w) {L D : Addr} {o o1 : Obj} {m : Str → Option Value} {σ : Store} (V : Live cf P b w σ) (hm : (L, o) ∈ w.mu) (hr : L ∉ w.rho) (hn : NsObj o m) (F : Fr b L h' m) (N : News b L h' ((D, o1) :: (w.all cf).filter fun p => !decide (p.1 = L))) (hD : h.get? D = none) :
  ∃ w', St cf b h' w' ∧ Ext [] w w' ∧ Live cf P b w' σ ∧ (D, o1) ∈ w'.fz := by
 obtain ⟨o', S1, E1, hn'⟩ := S.byNews hm hn F N fun p hp hne => List.mem_cons_of_mem _ (List.mem_filter.mpr ⟨hp, by simpa using hne⟩)
 have hk : (Wd.all cf { w with mu := setM w.mu L o' }).map (·.1) = (w.all cf).map (·.1) := by
  simp only [Wd.all, List.map_append, setM_keys]
 have N0 := N (D, o1) (.head _)
 exact ⟨_, S1.tellF N0.1 N0.2.2 (by rw [hk]; exact S.fresh hD), E1.trans ext_addF, (V.sim hr).addF, .head _⟩
theorem all_dropX {D : Addr} {p : Addr × Obj} (x : p ∈ Wd.all cf { w with xt := w.xt.filter fun q => !decide (q.1 = D) }) : p ∈ w.all cf := by
 rcases all_cases x with x | x | x | x
 ·exact mem_fz x
 ·exact mem_xt (List.mem_filter.mp x).1
 ·exact mem_mu x
 ·rw [x]; exact mem_tab
theorem all_dropX_ne (S : St cf b h w) {D : Addr} {o : Obj} (hm : (D, o) ∈ w.xt) {p : Addr × Obj} (x : p ∈ Wd.all cf { w with xt := w.xt.filter fun q => !decide (q.1 = D) }) : p.1 ≠ D := fun e => by
 have e1 := S.nd
 simp only [Wd.all, List.map_append] at e1
 rw [List.nodup_append, List.nodup_append, List.nodup_append] at e1
 have hk : D ∈ w.xt.map (·.1) := mmo (f := (·.1)) hm
 rcases all_cases x with x | x | x | x
 ·exact e1.2.2 _ (mmo x) _ (List.mem_append_left _ hk) e
 ·have := (List.mem_filter.mp x).2
  simp [e] at this
 ·exact e1.2.1.2.2 _ hk _ (List.mem_append_left _ (mmo x)) e.symm
 ·exact e1.2.1.2.2 _ hk _ (List.mem_append_right _ (by rw [← x]; exact .head _)) e.symm
theorem St.dropX (S : St cf b h w) {D : Addr} {o : Obj} (hm : (D, o) ∈ w.xt) (k : ∀ a o, a ≠ D → h.get? a = some o → h'.get? a = some o) : St cf b h' { w with xt := w.xt.filter fun q => !decide (q.1 = D) } := by
 have hb : b.get? D = none := S.new _ (mem_xt hm)
 refine ⟨fun a o e => k _ _ (fun q => by rw [q, hb] at e; exact noS e) (S.stays a o e), fun p hp => k _ _ (all_dropX_ne S hm hp) (S.kn p (all_dropX hp)), fun p hp => S.new p (all_dropX hp), S.nf, ?_, S.rho, S.rnd, S.tab⟩
 refine List.Nodup.sublist ?_ S.nd
 exact List.Sublist.map _ (List.Sublist.append (List.Sublist.refl _) (List.Sublist.append List.filter_sublist (List.Sublist.refl _)))
theorem dropX_key (S : St cf b h w) {D : Addr} {o : Obj} (hm : (D, o) ∈ w.xt) : D ∉ (Wd.all cf { w with xt := w.xt.filter fun q => !decide (q.1 = D) }).map (·.1) := fun q => by
 obtain ⟨p, hp, e⟩ := mmp q
 exact all_dropX_ne S hm hp e
theorem ext_dropX {own : List Addr} {w0 : Wd} {D : Addr} (e : Ext own w0 w) (hD : D ∉ w0.xt.map (·.1)) : Ext own w0 { w with xt := w.xt.filter fun q => !decide (q.1 = D) } :=
 ⟨e.fz, fun p hp => List.mem_filter.mpr ⟨e.xt p hp, by
  have : p.1 ≠ D := fun q => hD (q ▸ mmo hp)
  simpa using this⟩, e.mu, e.ky, e.rho, e.ro⟩
theorem Live.dropX {σ : Store} {D : Addr} (L : Live cf P b w σ) : Live cf P b { w with xt := w.xt.filter fun q => !decide (q.1 = D) } σ :=
 ⟨L.len, fun j so e => let ⟨a, o, h1, h2, h3⟩ := L.at_ j so e; ⟨a, o, h1, h2, by cases so <;> exact h3⟩⟩
theorem St.addX (S : St cf b h w) {D : Addr} {o : Obj} (k : ∀ a o, h.get? a = some o → h'.get? a = some o) (hD : h.get? D = none) (hn : h'.get? D = some o) : St cf b h' { w with xt := (D, o) :: w.xt } := by
 have S' := S.keeps k
 have hm : ∀ p, p ∈ Wd.all cf { w with xt := (D, o) :: w.xt } → p = (D, o) ∨ p ∈ w.all cf := fun p hp => by
  rcases all_cases hp with hp | hp | hp | hp
  ·exact .inr (mem_fz hp)
  ·rcases List.mem_cons.mp hp with hp | hp
   ·exact .inl hp
   ·exact .inr (mem_xt hp)
  ·exact .inr (mem_mu hp)
  ·exact .inr (hp ▸ mem_tab)
 refine ⟨S'.stays, fun p hp => ?_, fun p hp => ?_, S.nf, ?_, S.rho, S.rnd, S.tab⟩
 ·rcases hm p hp with rfl | hp
  ·exact hn
  ·exact S'.kn p hp
 ·rcases hm p hp with rfl | hp
  ·exact S.fresh_b hD
  ·exact S'.new p hp
 ·refine perm_nodup (l := (D, o) :: w.all cf) ?_ (List.nodup_cons.mpr ⟨S.fresh hD, S.nd⟩)
  exact (List.perm_middle (a := (D, o)) (l₁ := w.fz) (l₂ := w.xt ++ (w.mu ++ [(cf.tabA, tabObj w.tb)]))).symm
theorem ext_addX {own : List Addr} {p : Addr × Obj} : Ext own w { w with xt := p :: w.xt } :=
 ⟨fun z_ h => h, fun z_ h => List.mem_cons_of_mem _ h, fun p h z_ z_ => ⟨p.2, h, .refl _⟩, fun p h => mmo h, fun z_ z_ h => h, fun z_ z_ h => h⟩
theorem Live.addX {σ : Store} {p : Addr × Obj} (L : Live cf P b w σ) : Live cf P b { w with xt := p :: w.xt } σ :=
 ⟨L.len, fun j so e => let ⟨a, o, h1, h2, h3⟩ := L.at_ j so e; ⟨a, o, h1, h2, h3.ext (own := []) ext_addX⟩⟩
theorem St.tellL (S : St cf b h w) {D : Addr} {o : Obj} (hn : h.get? D = some o) (hb : b.get? D = none) (hk : D ∉ (w.all cf).map (·.1)) (hf : ∀ vs, o.data ≠ .fields vs) : St cf b h { w with mu := (D, o) :: w.mu, rho := w.rho ++ [D] } := by
 have hm : ∀ p, p ∈ Wd.all cf { w with mu := (D, o) :: w.mu, rho := w.rho ++ [D] } → p = (D, o) ∨ p ∈ w.all cf := fun p hp => by
  rcases all_cases hp with hp | hp | hp | hp
  ·exact .inr (mem_fz hp)
  ·exact .inr (mem_xt hp)
  ·rcases List.mem_cons.mp hp with hp | hp
   ·exact .inl hp
   ·exact .inr (mem_mu hp)
  ·exact .inr (hp ▸ mem_tab)
 refine ⟨S.stays, fun p hp => ?_, fun p hp => ?_, fun p hp => ?_, ?_, fun a ha => ?_, ?_, S.tab⟩
 ·rcases hm p hp with rfl | hp
  ·exact hn
  ·exact S.kn p hp
 ·rcases hm p hp with rfl | hp
  ·exact hb
  ·exact S.new p hp
 ·rcases List.mem_cons.mp hp with rfl | hp
  ·exact hf
  ·exact S.nf p hp
 ·refine perm_nodup (l := (D, o) :: w.all cf) ?_ (List.nodup_cons.mpr ⟨hk, S.nd⟩)
  show List.Perm ((D, o) :: (w.fz ++ (w.xt ++ (w.mu ++ [(cf.tabA, tabObj w.tb)])))) (w.fz ++ (w.xt ++ (((D, o) :: w.mu) ++ [(cf.tabA, tabObj w.tb)])))
  have e1 := (List.perm_middle (a := (D, o)) (l₁ := w.fz) (l₂ := w.xt ++ (w.mu ++ [(cf.tabA, tabObj w.tb)]))).symm
  have e2 := (List.perm_middle (a := (D, o)) (l₁ := w.xt) (l₂ := w.mu ++ [(cf.tabA, tabObj w.tb)])).symm
  exact e1.trans (e2.append_left _)
 ·rcases List.mem_append.mp ha with ha | ha
  ·exact List.mem_cons_of_mem _ (S.rho a ha)
  ·rw [List.mem_singleton.mp ha]; exact .head _
 ·refine List.nodup_append.mpr ⟨S.rnd, by simp, fun a ha c hc e => ?_⟩
  rw [List.mem_singleton.mp hc] at e
  subst e
  exact hk (by
   obtain ⟨p, hp, e⟩ := mmp (S.rho a ha)
   exact e ▸ mmo (mem_mu hp))
theorem ext_tellL {own : List Addr} {D : Addr} {o : Obj} (hk : D ∉ (w.all cf).map (·.1)) : Ext own w { w with mu := (D, o) :: w.mu, rho := w.rho ++ [D] } :=
 ⟨fun z_ h => h, fun z_ h => h, fun p h z_ z_ => ⟨p.2, List.mem_cons_of_mem _ h, .refl _⟩, fun p h => mmo (List.mem_cons_of_mem _ h), pre_snoc, fun p hp q hq => by
  rcases List.mem_append.mp hq with hq | hq
  ·exact q hq
  ·exact hk (by rw [← List.mem_singleton.mp hq]; exact mmo (mem_mu hp))⟩
theorem Live.tellL {σ : Store} {D : Addr} {o : Obj} {so : SO} (hk : D ∉ (w.all cf).map (·.1)) (L : Live cf P b w σ) (x : ObjOk cf P b w so o) : Live cf P b { w with mu := (D, o) :: w.mu, rho := w.rho ++ [D] } (σ ++ [so]) := by
 have E := ext_tellL (own := []) (o := o) hk
 refine ⟨by simp [L.len], fun j so' e => ?_⟩
 by_cases hj : j < σ.length
 ·rw [List.getElem?_append_left hj] at e
  obtain ⟨a, o', h1, h2, h3⟩ := L.at_ j so' e
  exact ⟨a, o', pre_snoc _ _ h1, List.mem_cons_of_mem _ h2, h3.ext E⟩
 ·rw [List.getElem?_append_right (Nat.le_of_not_lt hj)] at e
  have hj' : j - σ.length = 0 := by
   cases q : j - σ.length with
   | zero => rfl
   | succ k => rw [q] at e; simp at e
  rw [hj'] at e
  obtain rfl := sI e
  have : j = w.rho.length := by have := L.len; omega
  refine ⟨D, o, by rw [this]; simp, .head _, x.ext E⟩
theorem all_setM (S : St cf b h w) {d : Addr} {o' : Obj} (hd : d ∈ w.mu.map (·.1)) {p : Addr × Obj} (hp : p ∈ Wd.all cf { w with mu := setM w.mu d o' }) : p = (d, o') ∨ (p ∈ w.all cf ∧ p.1 ≠ d) := by
 have nm : ∀ r : Addr × Obj, (r ∈ w.fz ∨ r ∈ w.xt ∨ r = (cf.tabA, tabObj w.tb)) → r.1 ≠ d := fun r hr er => by
  have e1 := S.nd
  simp only [Wd.all, List.map_append] at e1
  have : r.1 ∈ w.mu.map (·.1) := er ▸ hd
  rw [List.nodup_append, List.nodup_append, List.nodup_append] at e1
  rcases hr with hr | hr | hr
  ·exact e1.2.2 _ (mmo hr) _ (List.mem_append_right _ (List.mem_append_left _ this)) rfl
  ·exact e1.2.1.2.2 _ (mmo hr) _ (List.mem_append_left _ this) rfl
  ·exact e1.2.1.2.1.2.2 _ this _ (by rw [hr]; exact .head _) rfl
 rcases all_cases hp with hp | hp | hp | hp
 ·exact .inr ⟨mem_fz hp, nm p (.inl hp)⟩
 ·exact .inr ⟨mem_xt hp, nm p (.inr (.inl hp))⟩
 ·rcases setM_mem hp with hp | ⟨hp, hne⟩
  ·exact .inl hp
  ·exact .inr ⟨mem_mu hp, hne⟩
 ·exact .inr ⟨hp ▸ mem_tab, nm p (.inr (.inr hp))⟩
theorem upd_of {d : Addr} {o o' : Obj} : ∀ {l : Led}, (l.map (·.1)).Nodup → (d, o) ∈ l → W.Upd d o o' l (setM l d o')
 | p :: r, nd, hm => by
  rw [List.map_cons, List.nodup_cons] at nd
  by_cases e : p.1 = d
  ·have hr : ∀ q ∈ r, q.1 ≠ d := fun q hq e' => nd.1 (by rw [e, ← e']; exact mmo hq)
   have hp : p = (d, o) := by
    rcases List.mem_cons.mp hm with h | h
    ·exact h.symm
    ·exact absurd rfl (hr _ h)
   have : setM (p :: r) d o' = (d, o') :: r := by
    unfold setM
    rw [List.map_cons, if_pos e]
    congr 1
    have : r.map (fun p => if p.1 = d then (d, o') else p) = r.map id := List.map_congr_left fun q hq => if_neg (hr q hq)
    rw [this, List.map_id]
   rw [this, hp]
   exact .head hr
  ·have hm' : (d, o) ∈ r := by
    rcases List.mem_cons.mp hm with h | h
    ·exact absurd (by rw [← h]) e
    ·exact h
   have : setM (p :: r) d o' = p :: setM r d o' := by
    unfold setM
    rw [List.map_cons, if_neg e]
   rw [this]
   exact .tail e (upd_of nd.2 hm')
theorem St.byNewsU (S : St cf b h w) {L d : Addr} {o o1 o2 : Obj} {m : Str → Option Value} (hm : (L, o) ∈ w.mu) (hn : NsObj o m) (hdL : d ≠ L) (hd : (d, o1) ∈ w.mu) (hf : ∀ vs, o2.data ≠ .fields vs) (hfr : o2.isFreed = false)
  (F : Fr b L h' m) (N : News b L h' (setM ((w.all cf).filter fun p => !decide (p.1 = L)) d o2)) :
  ∃ o', St cf b h' { w with mu := setM (setM w.mu d o2) L o' } ∧ Ext [] { w with mu := setM w.mu d o2 } { w with mu := setM (setM w.mu d o2) L o' } ∧ NsObj o' m := by
 have hdk : d ∈ w.mu.map (·.1) := mmo (f := (·.1)) hd
 have S1 : St cf b (h.update d fun z_ => o2) { w with mu := setM w.mu d o2 } :=
  S.upd hdk (fun a o hne e => (Heap.get?_update_ne _ _ _ _ hne).trans e) (Heap.get?_update_self _ (S.mu hd) hfr) hf
 refine S1.byNews (setM_there hm (Ne.symm hdL)) hn F N fun p hp hne => ?_
 rcases all_setM S hdk hp with rfl | ⟨hp, hpd⟩
 ·exact setM_here (mmo (f := (·.1)) (List.mem_filter.mpr ⟨mem_mu hd, by simpa using hdL⟩))
 ·exact setM_there (List.mem_filter.mpr ⟨hp, by simpa using hne⟩) hpd
end
noncomputable def dbgN : Nat := encL [95, 95, 100, 101, 98, 117, 103, 95, 95]
theorem notDbg {x : Nat} (h : Nat.beq x dbgN = false) : (strOf x == ("__debug__" : Str)) = false := by
 have e : ("__debug__" : Str) = strOf dbgN := by decide +kernel
 rw [e]
 cases q : strOf x == strOf dbgN with
 | false => rfl
 | true => have := strOf_inj (eq_of_beq q); subst this; rw [Nat.beq_refl] at h; injection h
noncomputable def opOf : Bop → Operator
 | .add => .Add | .sub => .Sub | .mul => .Mult | .fdiv => .FloorDiv | .mod => .Mod | .pow => .Pow
noncomputable def isSet : PE → Bool
 | .Set .. => true
 | _ => false
noncomputable def isAttr : PE → Bool
 | .Attribute .. => true
 | _ => false
noncomputable def isCall : PE → Bool
 | .Call .. => true
 | _ => false
noncomputable def isSlice : PE → Bool
 | .Slice .. => true
 | _ => false
noncomputable def isComp : PE → Bool
 | .ListComp .. => true
 | .SetComp .. => true
 | .DictComp .. => true
 | _ => false
noncomputable def relS (sc2 sc : Scope) : Scope :=
 {sc2 with names := sc2.names.map fun (n, k) => if (k == .free && sc.kind == .function && sc.names.lookup n == some .cell) then (n, .cell) else (n, k) }
inductive KeysEr : List (Option PE) → List Nat → Prop
 | nil : KeysEr [] []
 | cons {s k : Nat} {pos : Pos} {es : List (Option PE)} {ks : List Nat} : KeysEr es ks → KeysEr (some (.Constant (.str (strOf s)) k pos) :: es) (s :: ks)
noncomputable def srcOk : Src → Bool → Bool
 | .seq _, _ => true
 | .rng _, t => !t
 | .enm _, t => t
 | .zip _ _, t => t
inductive TarEr (sc : Scope) : PE → List Nat → Bool → Prop
 | one {x : Nat} {pos : Pos} : sc.names.lookup (strOf x) = some .local → TarEr sc (.Name (strOf x) pos) [x] false
 | two {x y : Nat} {p q pos : Pos} {k : Nat} : sc.names.lookup (strOf x) = some .local → sc.names.lookup (strOf y) = some .local → x ≠ y → TarEr sc (.Tuple [.Name (strOf x) p, .Name (strOf y) q] k pos) [x, y] true
noncomputable def kV : VK → NameKind
 | .loc => .local | .cel => .cell | .glo => .globalImplicit
inductive SrcSh (sc : Scope) : PE → Src → List PE → List Ex → Prop
 | seq {e : PE} {x : Ex} : SrcSh sc e (.seq x) [e] [x]
 | rng {e : PE} {x : Ex} {p q : Pos} : sc.names.lookup (Str.ofString "range") = some .globalImplicit → SrcSh sc (.Call (.Name (Str.ofString "range") p) [e] [] q) (.rng x) [e] [x]
 | enm {e : PE} {x : Ex} {p q : Pos} : sc.names.lookup (Str.ofString "enumerate") = some .globalImplicit → SrcSh sc (.Call (.Name (Str.ofString "enumerate") p) [e] [] q) (.enm x) [e] [x]
 | zip {e f : PE} {x y : Ex} {p q : Pos} : sc.names.lookup (Str.ofString "zip") = some .globalImplicit → SrcSh sc (.Call (.Name (Str.ofString "zip") p) [e, f] [] q) (.zip x y) [e, f] [x, y]
inductive Er (cf : Cfg) : Scope → PE → Ex → Prop
 | cn {sc : Scope} {k : Nat} {pos : Pos} : Er cf sc (.Constant .none k pos) .cn
 | cb {sc : Scope} {b : Bool} {k : Nat} {pos : Pos} : Er cf sc (.Constant (.bool b) k pos) (.cb b)
 | ci {sc : Scope} {i : Int} {k : Nat} {pos : Pos} : Er cf sc (.Constant (.int i) k pos) (.ci i)
 | cs {sc : Scope} {s k : Nat} {pos : Pos} : Er cf sc (.Constant (.str (strOf s)) k pos) (.cs s)
 | cy {sc : Scope} {l : List Nat} {k : Nat} {pos : Pos} : (∀ c ∈ l, c < 256) → Er cf sc (.Constant (.bytes (l.map UInt8.ofNat)) k pos) (.cy l)
 | neg {sc : Scope} {e : PE} {x : Ex} {pos : Pos} : Er cf sc e x → Er cf sc (.UnaryOp .USub e pos) (.neg x)
 | nam {sc : Scope} {k : VK} {x : Nat} {pos : Pos} : Nat.beq x dbgN = false → sc.names.lookup (strOf x) = some (kV k) → Er cf sc (.Name (strOf x) pos) (.v k x)
 | tupR {sc : Scope} {es : List PE} {xs : List Ex} {k : Nat} {pos : Pos} : es.length = xs.length → (∀ p ∈ es.zip xs, Er cf sc p.1 p.2) → es.length ≤ 100 → Er cf sc (.Tuple es k pos) (.tup xs)
 | lstR {sc : Scope} {es : List PE} {xs : List Ex} {m : Bool} {pos : Pos} : es.length = xs.length → (∀ p ∈ es.zip xs, Er cf sc p.1 p.2) → es.length ≤ 100 → Er cf sc (.List es pos) (.lst m xs)
 | dctR {sc : Scope} {ks : List (Option PE)} {es : List PE} {ns : List Nat} {xs : List Ex} {m : Bool} {pos : Pos} : KeysEr ks ns → es.length = xs.length → (∀ p ∈ es.zip xs, Er cf sc p.1 p.2) → ks.length = es.length → ns.Nodup → ns.length ≤ 15 → Er cf sc (.Dict ks es pos) (.dct m ns xs)
 | bin {sc : Scope} {op : Bop} {l r : PE} {a b : Ex} {pos : Pos} : Er cf sc l a → Er cf sc r b → Er cf sc (.BinOp l (opOf op) r pos) (.bin op a b)
 | cmp {sc : Scope} {op : CmpOp} {l r : PE} {a b : Ex} {pos : Pos} : Er cf sc l a → Er cf sc r b → Er cf sc (.Compare l [op] [r] pos) (.cmp op a b)
 | cmp2 {sc : Scope} {o p : CmpOp} {l m r : PE} {a b c : Ex} {pos : Pos} : Er cf sc l a → Er cf sc m b → Er cf sc r c → Er cf sc (.Compare l [o, p] [m, r] pos) (.cmp2 o p a b c)
 | andR {sc : Scope} {es : List PE} {xs : List Ex} {pos : Pos} : es.length = xs.length → (∀ p ∈ es.zip xs, Er cf sc p.1 p.2) → Er cf sc (.BoolOp .And es pos) (.and_ xs)
 | orR {sc : Scope} {es : List PE} {xs : List Ex} {pos : Pos} : es.length = xs.length → (∀ p ∈ es.zip xs, Er cf sc p.1 p.2) → Er cf sc (.BoolOp .Or es pos) (.or_ xs)
 | not_ {sc : Scope} {e : PE} {x : Ex} {pos : Pos} : Er cf sc e x → Er cf sc (.UnaryOp .Not e pos) (.not_ x)
 | ite {sc : Scope} {t e f : PE} {c a b : Ex} {pos : Pos} : Er cf sc t c → Er cf sc e a → Er cf sc f b → Er cf sc (.IfExp t e f pos) (.ite c a b)
 | sub {sc : Scope} {o i : PE} {a b : Ex} {pos : Pos} : Er cf sc o a → Er cf sc i b → isSlice i = false → Er cf sc (.Subscript o i pos) (.sub a b)
 | slcR {sc : Scope} {o : PE} {l u : Option PE} {a : Ex} {x y : Option Ex} {p pos : Pos} : Er cf sc o a → l.toList.length = x.toList.length → (∀ p ∈ l.toList.zip x.toList, Er cf sc p.1 p.2) → u.toList.length = y.toList.length → (∀ p ∈ u.toList.zip y.toList, Er cf sc p.1 p.2) → Er cf sc (.Subscript o (.Slice l u none p) pos) (.slc a x y)
 | att {sc : Scope} {o : PE} {a : Ex} {n : Nat} {pos : Pos} : Er cf sc o a → isCall o = false → inL n cf.an = true → Er cf sc (.Attribute o (strOf n) pos) (.att a n)
 | callR {sc : Scope} {f : PE} {es : List PE} {a : Ex} {xs : List Ex} {pos : Pos} : Er cf sc f a → isAttr f = false → es.length = xs.length → (∀ p ∈ es.zip xs, Er cf sc p.1 p.2) → es.length ≤ 20 → Er cf sc (.Call f es [] pos) (.call a xs)
 | methR {sc : Scope} {o : PE} {es : List PE} {a : Ex} {n : Nat} {xs : List Ex} {p pos : Pos} : Er cf sc o a → isCall o = false → (p.endLine == pos.line) = true → es.length = xs.length → (∀ p ∈ es.zip xs, Er cf sc p.1 p.2) → es.length ≤ 20 → Er cf sc (.Call (.Attribute o (strOf n) p) es [] pos) (.meth a n xs)
 | tenm {sc : Scope} {e : PE} {a : Ex} {p q p2 q2 : Pos} : Er cf sc e a → sc.names.lookup (Str.ofString "tuple") = some .globalImplicit → sc.names.lookup (Str.ofString "enumerate") = some .globalImplicit →
   Er cf sc (.Call (.Name (Str.ofString "tuple") p) [.Call (.Name (Str.ofString "enumerate") q) [e] [] p2] [] q2) (.tenm a)
 | compR {sc sc2 : Scope} {elt tar iter : PE} {a : Ex} {ts : List Nat} {tt : Bool} {src : Src} {ifs : List PE} {cond : Option Ex} {es : List PE} {xs : List Ex} {pos : Pos} :
   Er cf (relS sc2 sc) elt a → TarEr sc2 tar ts tt → SrcSh sc iter src es xs → es.length = xs.length → (∀ p ∈ es.zip xs, Er cf sc p.1 p.2) → ifs.length = cond.toList.length → (∀ p ∈ ifs.zip cond.toList, Er cf (relS sc2 sc) p.1 p.2) → sc2.kind = .function →
   (∀ y ∈ sc2.names, y.2 ≠ .cell) → (∀ y ∈ sc2.names, y.2 = .local → sc2.names.lookup y.1 = some .local) → (∀ y ∈ sc2.names, y.2 = .free → sc.names.lookup y.1 = some .cell) → (relS sc2 sc).names ≠ cf.lamN → srcOk src tt = true →
   Er cf sc (.ListComp elt [⟨tar, iter, ifs, 0⟩] sc2 pos) (.comp a ts tt src cond)
 | lam {sc : Scope} : sc.names = cf.lamN → Er cf sc (.Lambda cf.lamP cf.lamB cf.lamS cf.lamPos) .lam
inductive ErL (cf : Cfg) (sc : Scope) : List PE → List Ex → Prop
 | nil : ErL cf sc [] []
 | cons {e : PE} {x : Ex} {es : List PE} {xs : List Ex} : Er cf sc e x → ErL cf sc es xs → ErL cf sc (e :: es) (x :: xs)
theorem ErL.of {cf : Cfg} {sc : Scope} {es : List PE} {xs : List Ex} (hl : es.length = xs.length) (h : ∀ p ∈ es.zip xs, Er cf sc p.1 p.2) : ErL cf sc es xs := by
 induction es generalizing xs with
 | nil => cases xs with
  | nil => exact .nil
  | cons => cases hl
 | cons e es ih => cases xs with
  | nil => cases hl
  | cons x xs => exact .cons (h (e, x) (.head _)) (ih (Nat.succ.inj hl) fun p hp => h p (.tail _ hp))
theorem ErL.raw {cf : Cfg} {sc : Scope} {es : List PE} {xs : List Ex} (h : ErL cf sc es xs) : es.length = xs.length ∧ ∀ p ∈ es.zip xs, Er cf sc p.1 p.2 := by
 induction h with
 | nil => exact ⟨rfl, fun z_ h => nomatch h⟩
 | cons h l ih => exact ⟨congrArg (· + 1) ih.1, fun p hp => (List.mem_cons.mp hp).elim (fun e => e ▸ h) (ih.2 p)⟩
theorem Er.and_ {cf : Cfg} {sc : Scope} {es : List PE} {xs : List Ex} {pos : Pos} (h : ErL cf sc es xs) : Er cf sc (.BoolOp .And es pos) (.and_ xs) := .andR h.raw.1 h.raw.2
theorem Er.or_ {cf : Cfg} {sc : Scope} {es : List PE} {xs : List Ex} {pos : Pos} (h : ErL cf sc es xs) : Er cf sc (.BoolOp .Or es pos) (.or_ xs) := .orR h.raw.1 h.raw.2
noncomputable abbrev ErO (cf : Cfg) (sc : Scope) (l : Option PE) (x : Option Ex) : Prop := ErL cf sc l.toList x.toList
noncomputable abbrev ErI (cf : Cfg) (sc : Scope) (l : List PE) (x : Option Ex) : Prop := ErL cf sc l x.toList
inductive ErSrc (cf : Cfg) (sc : Scope) (e : PE) (s : Src) : Prop
 | mk {es : List PE} {xs : List Ex} : SrcSh sc e s es xs → ErL cf sc es xs → ErSrc cf sc e s
inductive ErC (cf : Cfg) (sc : Scope) (elt tar iter : PE) (ifs : List PE) (sc2 : Scope) : Ex → Prop
 | mk {a : Ex} {ts : List Nat} {tt : Bool} {src : Src} {cond : Option Ex} :
   Er cf (relS sc2 sc) elt a → TarEr sc2 tar ts tt → ErSrc cf sc iter src → ErI cf (relS sc2 sc) ifs cond → sc2.kind = .function →
   (∀ y ∈ sc2.names, y.2 ≠ .cell) → (∀ y ∈ sc2.names, y.2 = .local → sc2.names.lookup y.1 = some .local) → (∀ y ∈ sc2.names, y.2 = .free → sc.names.lookup y.1 = some .cell) → (relS sc2 sc).names ≠ cf.lamN → srcOk src tt = true →
   ErC cf sc elt tar iter ifs sc2 (.comp a ts tt src cond)
theorem ErL.nil_inv {cf : Cfg} {sc : Scope} {xs : List Ex} (h : ErL cf sc [] xs) : xs = [] := by cases h; rfl
theorem ErL.cons_inv {cf : Cfg} {sc : Scope} {e : PE} {es : List PE} {xs : List Ex} (h : ErL cf sc (e :: es) xs) : ∃ x ys, xs = x :: ys ∧ Er cf sc e x ∧ ErL cf sc es ys := by cases h with | cons a l => exact ⟨_, _, rfl, a, l⟩
theorem ErL.length {cf : Cfg} {sc : Scope} {es : List PE} {xs : List Ex} (h : ErL cf sc es xs) : es.length = xs.length := by
 induction es generalizing xs with
 | nil => obtain rfl := h.nil_inv; rfl
 | cons e es ih => obtain ⟨x, ys, rfl, _, l⟩ := h.cons_inv; exact congrArg (· + 1) (ih l)
noncomputable def ErF (sc : Scope) (e : PE) : Ex → Prop
 | .v k x => ∃ pos, e = .Name (strOf x) pos ∧ Nat.beq x dbgN = false ∧ sc.names.lookup (strOf x) = some (kV k)
 | _ => True
theorem Er.inv {cf : Cfg} {sc : Scope} {e : PE} {x : Ex} (h : Er cf sc e x) : ErF sc e x := by
 cases h with
 | nam a b => exact ⟨_, rfl, a, b⟩
 | _ => trivial
noncomputable def plE : PE → Bool
 | .Starred .. => false
 | .Set .. => false
 | _ => true
theorem Er.pl {cf : Cfg} {sc : Scope} {e : PE} {x : Ex} (h : Er cf sc e x) : plE e = true := by cases h <;> rfl
theorem pl_mark {op : CmpOp} {e : PE} (h : plE e = true) : behindInMarks op e = false := by cases e <;> first | rfl | exact noB h
theorem pl_star {e : PE} (h : plE e = true) (es : List PE) (env : SE) : starEach (e :: es) env = (false, eval e env) :: starEach es env := by cases e <;> first | rfl | exact noB h
theorem Er.star {cf : Cfg} {sc : Scope} {e : PE} {x : Ex} (h : Er cf sc e x) (es : List PE) (env : SE) : starEach (e :: es) env = (false, eval e env) :: starEach es env := pl_star h.pl es env
structure EnvOk (cf : Cfg) (P : Params) (b : Heap) (en : Mine.Env) (env : SE) (w : Wd) : Prop where
 loc : ∃ o m, (env.locals, o) ∈ w.mu ∧ NsObj o m ∧ ∀ x v, lookN x en.locs = some v → ∃ val, m (strOf x) = some val ∧ DenW cf P b w v val
 lnr : env.locals ∉ w.rho
 lge : b.objs.size ≤ env.locals
 cel : ∀ x v, lookN x en.cels = some v → env.scope.names.lookup (strOf x) = some .cell → ∃ c o val, env.cells.lookup (strOf x) = some c ∧ (c, o) ∈ w.mu ∧ o.data = .cell (some val) ∧ DenW cf P b w v val
 cnr : ∀ y c, env.cells.lookup y = some c → c ∉ w.rho ∧ c ≠ env.locals ∧ ∃ o x, (c, o) ∈ w.mu ∧ o.data = .cell x
 cnd : ∀ x y c, env.cells.lookup x = some c → env.cells.lookup y = some c → x = y
 g : env.globals = mainGlobals
 bt : env.builtins = builtinsNs
 k : env.scope.kind = .function
 chas : ∀ y, env.scope.names.lookup y = some .cell → (env.cells.lookup y).isSome = true
 lamc : env.scope.names = cf.lamN → env.code = .ref cf.codeA ∧ env.qual ++ "<lambda>" = cf.lamQ
noncomputable def StkOk (stk : List SE) (w : Wd) : Prop := ∀ env ∈ stk, (env.scope.kind ≠ .module ∧ env.scope.isGenerator = false ∧ env.scope.isCoroutine = false ∧ env.builtins = builtinsNs ∧ env.globals = mainGlobals) ∧ ∃ L, env.frame = some L ∧ L ∈ w.mu.map (·.1) ∧ L ∉ w.rho
theorem StkOk.ext {stk : List SE} {w w' : Wd} {own : List Addr} (h : StkOk stk w) (e : Ext own w w') : StkOk stk w' := fun env he => by
 obtain ⟨hk, L, hf, hm, hr⟩ := h env he
 obtain ⟨p, hp, rfl⟩ := mmp hm
 exact ⟨hk, p.1, hf, e.ky p hp, e.ro p hp hr⟩
theorem EnvOk.ext {cf : Cfg} {P : Params} {b : Heap} {en : Mine.Env} {env : SE} {w w' : Wd} (h : EnvOk cf P b en env w) (e : Ext [] w w') : EnvOk cf P b en env w' := by
 refine ⟨?_, ?_, h.lge, fun x v hx hx2 => ?_, fun y c hp => ?_, h.cnd, h.g, h.bt, h.k, h.chas, h.lamc⟩
 ·obtain ⟨o, m, hm, hn, hl⟩ := h.loc
  obtain ⟨o', hm', sm⟩ := e.mu _ hm (List.not_mem_nil) h.lnr
  exact ⟨_, m, hm', sm.1 _ hn, fun x v hx => let ⟨val, h1, h2⟩ := hl x v hx; ⟨val, h1, h2.ext e⟩⟩
 ·obtain ⟨o, m, hm, hn, hl⟩ := h.loc
  exact e.ro _ hm h.lnr
 ·obtain ⟨c, o, val, h1, h2, h3, h4⟩ := h.cel x v hx hx2
  obtain ⟨o', hm', sm⟩ := e.mu _ h2 (List.not_mem_nil) (h.cnr _ _ h1).1
  exact ⟨c, _, val, h1, hm', sm.2 _ h3, h4.ext e⟩
 ·obtain ⟨h1, h2, o, x, h3, h4⟩ := h.cnr y c hp
  obtain ⟨o', hm', sm⟩ := e.mu _ h3 (List.not_mem_nil) h1
  exact ⟨e.ro _ h3 h1, h2, _, x, hm', sm.2 _ h4⟩
structure Cx (A : Around) (n : Nat) (stk : List SE) (fL : Addr) : Prop where
 hh : A.handled = none
 fr : A.frames = some stk
 top : ∃ env r, stk = env :: r ∧ env.frame = some fL
 dp : A.depth + 4 * n ≤ 800
 un : A.units + 30 * n ≤ 9000
structure Cx0 (A : Around) (n : Nat) (stk : List SE) : Prop where
 hh : A.handled = none
 fr : A.frames = some stk
 dp : A.depth + 4 * n ≤ 800
 un : A.units + 30 * n ≤ 9000
theorem Cx.z {A : Around} {n : Nat} {stk : List SE} {fL : Addr} (h : Cx A n stk fL) : Cx0 A n stk := ⟨h.hh, h.fr, h.dp, h.un⟩
theorem Cx.down {A : Around} {n : Nat} {stk : List SE} {fL : Addr} (h : Cx A (n + 1) stk fL) : Cx A n stk fL := ⟨h.hh, h.fr, h.top, by have := h.dp; omega, by have := h.un; omega⟩
inductive ExcTb (b h : Heap) (al : Led) (fL ex : Addr) (v : Option Value) : Prop
 | mk (T : Addr) (oT : Obj) (ts : Array Value) (e : v = some (.ref T)) (ne : T ≠ ex) (n1 : T ∉ al.map (·.1)) (n2 : b.get? T = none) (g : h.get? T = some oT) (d : oT.data = .fields ts) (q : ts[3]? = some .none ∨ ts[3]? = some (rawInt fL))
inductive ExcL (b h : Heap) (al : Led) (cc : Option Addr) (fL ex : Addr) : Prop
 | mk (n1 : ex ∉ al.map (·.1)) (n2 : b.get? ex = none) (oe : Obj) (vs : Array Value) (a0 : Value) (C : Addr) (g : h.get? ex = some oe) (hc : cc = some C) (k : oe.cls = .ref C) (d : oe.data = .fields vs) (z : vs[0]? = some a0)
  (t : vs[1]? = some .none ∨ ExcTb b h al fL ex vs[1]?)
noncomputable abbrev ExcAt (cf : Cfg) (b h : Heap) (w : Wd) (c : Nat) (fL ex : Addr) : Prop := ExcL b h (w.all cf) (cf.ca c) fL ex
section
variable (cf : Cfg) (P : Params) (b : Heap)
noncomputable def Pst (s : Shared) (w : Wd) (own : List Addr) (σ' : Store) (k : Wd → Shared → Prop) : Prop :=
 ∀ w' h' tk', St cf b h' w' → Ext own w w' → Live cf P b w' σ' → k w' { s with heap := h', toks := tk' }
noncomputable def EPst (s : Shared) (w : Wd) (own : List Addr) (σ' : Store) (c : Nat) (fL : Addr) (E : VP) : Prop :=
 ∀ w' h' tk' ex, St cf b h' w' → Ext own w w' → Live cf P b w' σ' → ExcAt cf b h' w' c fL ex → E (.ref ex) { s with heap := h', toks := tk' }
noncomputable def Fin (fL : Addr) (s : Shared) (w : Wd) (res : Res) (Q : VP) (E : VP) : Prop := match res with
 | .ok v σ' => Pst cf P b s w [] σ' fun w' s' => ∀ val, DenW cf P b w' v val → Q val s'
 | .exc c σ' => EPst cf P b s w [] σ' c fL E
 | _ => False
noncomputable def FinL (fL : Addr) (s : Shared) (w : Wd) (res : Res) (Q : List Value → Shared → Prop) (E : VP) : Prop := match res with
 | .oks v σ' => Pst cf P b s w [] σ' fun w' s' => ∀ val, DenLW cf P b w' v val → Q val s'
 | .exc c σ' => EPst cf P b s w [] σ' c fL E
 | _ => False
noncomputable def FinT (fL : Addr) (s : Shared) (w : Wd) (res : Res) (Q : Bool → Shared → Prop) (E : VP) : Prop := match res with
 | .ok (.bool t) σ' => Pst cf P b s w [] σ' fun z_ s' => Q t s'
 | .exc c σ' => EPst cf P b s w [] σ' c fL E
 | _ => False
end
section
variable {cf : Cfg} {P : Params} {b : Heap} {s : Shared} {w w1 : Wd} {fL : Addr} {res : Res} {h1 : Heap} {tk1 : Nat}
theorem EPst.move {own : List Addr} {σ' : Store} {c : Nat} {E : VP} (h : EPst cf P b s w own σ' c fL E) (e : Ext own w w1) : EPst cf P b { s with heap := h1, toks := tk1 } w1 own σ' c fL E :=
 fun w' h' tk' ex S E L X => h w' h' tk' ex S (e.trans E) L X
theorem Fin.move {Q : VP} {E : VP} (h : Fin cf P b fL s w res Q E) (e : Ext [] w w1) : Fin cf P b fL { s with heap := h1, toks := tk1 } w1 res Q E := by
 cases res with
 | ok v σ => exact fun w' h' tk' S E L => h w' h' tk' S (e.trans E) L
 | exc c σ => exact fun w' h' tk' ex S E L X => h w' h' tk' ex S (e.trans E) L X
 | _ => exact h
theorem FinL.move {Q : List Value → Shared → Prop} {E : VP} (h : FinL cf P b fL s w res Q E) (e : Ext [] w w1) : FinL cf P b fL { s with heap := h1, toks := tk1 } w1 res Q E := by
 cases res with
 | oks v σ => exact fun w' h' tk' S E L => h w' h' tk' S (e.trans E) L
 | exc c σ => exact fun w' h' tk' ex S E L X => h w' h' tk' ex S (e.trans E) L X
 | _ => exact h
theorem FinT.move {Q : Bool → Shared → Prop} {E : VP} (h : FinT cf P b fL s w res Q E) (e : Ext [] w w1) : FinT cf P b fL { s with heap := h1, toks := tk1 } w1 res Q E := by
 cases res with
 | ok v σ => cases v <;> first | exact h | exact fun w' h' tk' S E L => h w' h' tk' S (e.trans E) L
 | exc c σ => exact fun w' h' tk' ex S E L X => h w' h' tk' ex S (e.trans E) L X
 | _ => exact h
end
theorem intV_eq {v : V} {i : Int} (e : intV v = some i) : v = .int i := by cases v <;> cases e; rfl
theorem boolV_eq {v : V} {i : Bool} (e : boolV v = some i) : v = .bool i := by cases v <;> cases e; rfl
theorem nobool {v : V} (h : ∀ t, v ≠ .bool t) {k : Bool → Res} : needO (boolV v) k = .bad := by
 cases e : boolV v with
 | none => rfl
 | some b => exact absurd (boolV_eq e) (h b)
theorem strV_eq {v : V} {i : Nat} (e : strV v = some i) : v = .str i := by cases v <;> cases e; rfl
theorem tupV_eq {v : V} {i : List V} (e : tupV v = some i) : v = .tup i := by cases v <;> cases e; rfl
theorem noneV_eq {v : V} {i : Unit} (e : noneV v = some i) : v = .none := by cases v <;> cases e; rfl
theorem natI_eq {v : Int} {i : Nat} (e : natI v = some i) : v = .ofNat i := by cases v <;> cases e; rfl
theorem needs {F : Res → Prop} (h : F .bad → False) {α : Type} {o : Option α} {k : α → Res} (f : F (needO o k)) : ∃ x, o = some x ∧ F (k x) := by
 cases o with
 | none => exact (h f).elim
 | some x => exact ⟨x, rfl, f⟩
theorem elses {F : Res → Prop} {α : Type} {o : Option α} {k : α → Res} {d : Res} (f : F (elseO o k d)) : (∃ x, o = some x ∧ F (k x)) ∨ o = none ∧ F d := by
 cases o with
 | none => exact .inr ⟨rfl, f⟩
 | some x => exact .inl ⟨x, rfl, f⟩
theorem okIfs {F : Res → Prop} (h : F .bad → False) {c : Bool} {v : V} {σ : Store} (f : F (okIf c v σ)) : c = true ∧ F (.ok v σ) := by
 cases c with
 | true => exact ⟨rfl, f⟩
 | false => exact (h f).elim
theorem ifBs {F : Res → Prop} (h : F .bad → False) {c : Bool} {q : Res} (f : F (ifB c q .bad)) : c = true ∧ F q := by
 cases c with
 | true => exact ⟨rfl, f⟩
 | false => exact (h f).elim
section
variable {cf : Cfg} {P : Params} {b : Heap} {s : Shared} {w : Wd} {fL : Addr} {Q E : VP} {α : Type} {o : Option α} {k : α → Res} {d : Res}
inductive FNeed (cf : Cfg) (P : Params) (b : Heap) (fL : Addr) (s : Shared) (w : Wd) (Q E : VP) {α : Type} (o : Option α) (k : α → Res) : Prop
 | mk (x : α) (e : o = some x) (f : Fin cf P b fL s w (k x) Q E)
theorem Fin.need (f : Fin cf P b fL s w (needO o k) Q E) : FNeed cf P b fL s w Q E o k := by
 cases o with
 | none => exact f.elim
 | some x => exact ⟨x, rfl, f⟩
theorem Fin.else_ (f : Fin cf P b fL s w (elseO o k d) Q E) : (∃ x, o = some x ∧ Fin cf P b fL s w (k x) Q E) ∨ o = none ∧ Fin cf P b fL s w d Q E := elses (F := fun q => Fin cf P b fL s w q Q E) f
theorem Fin.okIf {c : Bool} {v : V} {σ : Store} (f : Fin cf P b fL s w (Mine.okIf c v σ) Q E) : c = true ∧ Fin cf P b fL s w (.ok v σ) Q E := okIfs (F := fun q => Fin cf P b fL s w q Q E) id f
theorem Fin.ifB_ {c : Bool} (f : Fin cf P b fL s w (ifB c d .bad) Q E) : c = true ∧ Fin cf P b fL s w d Q E := ifBs (F := fun q => Fin cf P b fL s w q Q E) id f
theorem FinT.need {Q : Bool → Shared → Prop} (f : FinT cf P b fL s w (needO o k) Q E) : ∃ x, o = some x ∧ FinT cf P b fL s w (k x) Q E := needs (F := fun q => FinT cf P b fL s w q Q E) id f
end
section
variable (cf : Cfg) (P : Params) (b : Heap) (M : Model) (A : Around) (fL : Addr)
noncomputable def Tr (t : Sem Value) (s : Shared) (w : Wd) (res : Res) : Prop := ∀ Q E, Fin cf P b fL s w res Q E → wpAny M A t Q E s
noncomputable def TrL (t : Sem (List Value)) (s : Shared) (w : Wd) (res : Res) : Prop := ∀ Q E, FinL cf P b fL s w res Q E → wpAny M A t Q E s
noncomputable def TrT (t : Sem Bool) (s : Shared) (w : Wd) (res : Res) : Prop := ∀ Q E, FinT cf P b fL s w res Q E → wpAny M A t Q E s
end
section
variable {cf : Cfg} {P : Params} {b : Heap} {M : Model} {A : Around} {fL : Addr} {s : Shared} {w : Wd} {res : Res}
theorem Tr.bind {t : Sem Value} {k : V → Store → Res} {Q E : VP} {X : VP} (h : Tr cf P b M A fL t s w res) (f : Fin cf P b fL s w (res.bind k) Q E)
  (n : ∀ v σ1 w1 h1 tk1 val, St cf b h1 w1 → Ext [] w w1 → Live cf P b w1 σ1 → DenW cf P b w1 v val → Fin cf P b fL { s with heap := h1, toks := tk1 } w1 (k v σ1) Q E → X val { s with heap := h1, toks := tk1 }) : wpAny M A t X E s := by
 cases res with
 | ok v σ1 => exact h X E fun w1 h1 tk1 S e L val d => n v σ1 w1 h1 tk1 val S e L d (Fin.move (res := k v σ1) f e)
 | exc c σ1 => exact h X E f
 | oks _ _ => exact f.elim
 | nxt _ _ => exact f.elim
 | ret _ _ => exact f.elim
 | bad => exact f.elim
theorem Tr.bindL {t : Sem Value} {k : V → Store → Res} {Q : List Value → Shared → Prop} {E : VP} {X : VP} (h : Tr cf P b M A fL t s w res) (f : FinL cf P b fL s w (res.bind k) Q E)
  (n : ∀ v σ1 w1 h1 tk1 val, St cf b h1 w1 → Ext [] w w1 → Live cf P b w1 σ1 → DenW cf P b w1 v val → FinL cf P b fL { s with heap := h1, toks := tk1 } w1 (k v σ1) Q E → X val { s with heap := h1, toks := tk1 }) : wpAny M A t X E s := by
 cases res with
 | ok v σ1 => exact h X E fun w1 h1 tk1 S e L val d => n v σ1 w1 h1 tk1 val S e L d (FinL.move (res := k v σ1) f e)
 | exc c σ1 => exact h X E f
 | oks _ _ => exact f.elim
 | nxt _ _ => exact f.elim
 | ret _ _ => exact f.elim
 | bad => exact f.elim
theorem Tr.bindT {t : Sem Value} {k : V → Store → Res} {Q : Bool → Shared → Prop} {E : VP} {X : VP} (h : Tr cf P b M A fL t s w res) (f : FinT cf P b fL s w (res.bind k) Q E)
  (n : ∀ v σ1 w1 h1 tk1 val, St cf b h1 w1 → Ext [] w w1 → Live cf P b w1 σ1 → DenW cf P b w1 v val → FinT cf P b fL { s with heap := h1, toks := tk1 } w1 (k v σ1) Q E → X val { s with heap := h1, toks := tk1 }) : wpAny M A t X E s := by
 cases res with
 | ok v σ1 => exact h X E fun w1 h1 tk1 S e L val d => n v σ1 w1 h1 tk1 val S e L d (FinT.move (res := k v σ1) f e)
 | exc c σ1 => exact h X E f
 | oks _ _ => exact f.elim
 | nxt _ _ => exact f.elim
 | ret _ _ => exact f.elim
 | bad => exact f.elim
theorem TrL.binds {t : Sem (List Value)} {k : List V → Store → Res} {Q E : VP} {X : List Value → Shared → Prop} (h : TrL cf P b M A fL t s w res) (f : Fin cf P b fL s w (res.binds k) Q E)
  (n : ∀ v σ1 w1 h1 tk1 val, res = .oks v σ1 → St cf b h1 w1 → Ext [] w w1 → Live cf P b w1 σ1 → DenLW cf P b w1 v val → Fin cf P b fL { s with heap := h1, toks := tk1 } w1 (k v σ1) Q E → X val { s with heap := h1, toks := tk1 }) : wpAny M A t X E s := by
 cases res with
 | oks v σ1 => exact h X E fun w1 h1 tk1 S e L val d => n v σ1 w1 h1 tk1 val rfl S e L d (Fin.move (res := k v σ1) f e)
 | exc c σ1 => exact h X E f
 | ok _ _ => exact f.elim
 | nxt _ _ => exact f.elim
 | ret _ _ => exact f.elim
 | bad => exact f.elim
theorem TrL.bindsL {t : Sem (List Value)} {k : List V → Store → Res} {Q : List Value → Shared → Prop} {E : VP} {X : List Value → Shared → Prop} (h : TrL cf P b M A fL t s w res) (f : FinL cf P b fL s w (res.binds k) Q E)
  (n : ∀ v σ1 w1 h1 tk1 val, res = .oks v σ1 → St cf b h1 w1 → Ext [] w w1 → Live cf P b w1 σ1 → DenLW cf P b w1 v val → FinL cf P b fL { s with heap := h1, toks := tk1 } w1 (k v σ1) Q E → X val { s with heap := h1, toks := tk1 }) : wpAny M A t X E s := by
 cases res with
 | oks v σ1 => exact h X E fun w1 h1 tk1 S e L val d => n v σ1 w1 h1 tk1 val rfl S e L d (FinL.move (res := k v σ1) f e)
 | exc c σ1 => exact h X E f
 | ok _ _ => exact f.elim
 | nxt _ _ => exact f.elim
 | ret _ _ => exact f.elim
 | bad => exact f.elim
theorem TrT.bind {t : Sem Bool} {k : V → Store → Res} {Q E : VP} {X : Bool → Shared → Prop} (h : TrT cf P b M A fL t s w res) (f : Fin cf P b fL s w (res.bind k) Q E) (hb : ∀ v σ, (∀ t, v ≠ .bool t) → k v σ = .bad)
  (n : ∀ v σ1 w1 h1 tk1, St cf b h1 w1 → Ext [] w w1 → Live cf P b w1 σ1 → Fin cf P b fL { s with heap := h1, toks := tk1 } w1 (k (.bool v) σ1) Q E → X v { s with heap := h1, toks := tk1 }) : wpAny M A t X E s := by
 cases res with
 | ok v σ1 =>
  by_cases hv : ∃ t, v = .bool t
  ·obtain ⟨t, rfl⟩ := hv
   exact h X E fun w1 h1 tk1 S e L => n t σ1 w1 h1 tk1 S e L (Fin.move (res := k (.bool t) σ1) f e)
  ·have f' : Fin cf P b fL s w (k v σ1) Q E := f
   rw [hb v σ1 fun t q => hv ⟨t, q⟩] at f'
   exact False.elim f'
 | exc c σ1 => exact h X E f
 | oks _ _ => exact f.elim
 | nxt _ _ => exact f.elim
 | ret _ _ => exact f.elim
 | bad => exact f.elim
theorem TrT.bindT {t : Sem Bool} {k : V → Store → Res} {Q : Bool → Shared → Prop} {E : VP} {X : Bool → Shared → Prop} (h : TrT cf P b M A fL t s w res) (f : FinT cf P b fL s w (res.bind k) Q E) (hb : ∀ v σ, (∀ t, v ≠ .bool t) → k v σ = .bad)
  (n : ∀ v σ1 w1 h1 tk1, St cf b h1 w1 → Ext [] w w1 → Live cf P b w1 σ1 → FinT cf P b fL { s with heap := h1, toks := tk1 } w1 (k (.bool v) σ1) Q E → X v { s with heap := h1, toks := tk1 }) : wpAny M A t X E s := by
 cases res with
 | ok v σ1 =>
  by_cases hv : ∃ t, v = .bool t
  ·obtain ⟨t, rfl⟩ := hv
   exact h X E fun w1 h1 tk1 S e L => n t σ1 w1 h1 tk1 S e L (FinT.move (res := k (.bool t) σ1) f e)
  ·have f' : FinT cf P b fL s w (k v σ1) Q E := f
   rw [hb v σ1 fun t q => hv ⟨t, q⟩] at f'
   exact False.elim f'
 | exc c σ1 => exact h X E f
 | oks _ _ => exact f.elim
 | nxt _ _ => exact f.elim
 | ret _ _ => exact f.elim
 | bad => exact f.elim
end
end Mine
end
section
open PySem PySem.W PyProof.Rows PySem.Calls PySem.SeqAt
open PyProof.Rows.LCg (NsObj ns_obj)
namespace Mine
variable {cf : Cfg} {K : Frag} {p : Program} {loose : List Str} {mean : ExcName → Option Value} {mg : Str → Option Value} {mb : Str → Option Value} {prog : Program} {wd : World} {b : Heap} {G : Glob} {A : Around} {n : Nat} {r : Task → Res} {stk : List SE} {fL : Addr} {en : Mine.Env} {env : SE} {s : Shared} {w : Wd} {w0 : Wd} {σ : Store} {P : Params} {tt : Bool} {M : Model} {E : VP}
theorem size_none (h : Heap) : h.get? h.objs.size = none := PySem.Heap.StaysIn.fresh (fun z_ z_ e => e)
structure Bs (cf : Cfg) (K : Frag) (p : Program) (loose : List Str) (mean : ExcName → Option Value) (mg mb : Str → Option Value) (P : Params) (b : Heap) (G : Glob) : Prop where
 X : K.In b
 T : Top p loose mean mg mb b
 seer : b.NoSeer
 last : ∃ o, b.get? (b.objs.size - 1) = some o
 sysm : ∃ o, b.get? sysModules = some o
 glo : ∀ x v, glo G x = some v → ∃ val, ((nsIn K mainGlobals (strOf x) = some (some val)) ∨ (nsIn K mainGlobals (strOf x) = some none ∧ bootBuiltins (strOf x) = some val ∧ strOf x ≠ "__name__")) ∧ Den cf P b [] [] v val
 att : ∀ c C n, cf.ia c = some C → inL n cf.an = true → plainGet K C (strOf n) = true ∧ hasDictIn K C = true ∧ (∃ attr, findIn K (.ref C) (strOf n) = some attr ∧ noGet K attr = true) ∧ findIn K (.ref C) "__setattr__" = some (some (.builtin "object.__setattr__")) ∧ plainOver K C = true ∧ takerIn K C (strOf n) = some none
 meth : ∀ c C n g, cf.ia c = some C → fnOf G (mkM c n) G.fns = some g → ∃ f, cf.fa (mkM c n) = some f ∧ findIn K (.ref C) (strOf n) = some (some (.ref f)) ∧ isFn K (.ref f) = true ∧ plainGet K C (strOf n) = true ∧ fnIn K f = true
structure Ok (cf : Cfg) (P : Params) (b : Heap) (A : Around) (n : Nat) (stk : List SE) (fL : Addr) (en : Mine.Env) (env : SE) (s : Shared) (w : Wd) (σ : Store) : Prop where
 cx : Cx A n stk fL
 so : StkOk stk w
 fr : env.frame = some fL
 eo : EnvOk cf P b en env w
 st : St cf b s.heap w
 lv : Live cf P b w σ
theorem Ok.down (O : Ok cf P b A (n + 1) stk fL en env s w σ) : Ok cf P b A n stk fL en env s w σ := ⟨O.cx.down, O.so, O.fr, O.eo, O.st, O.lv⟩
theorem Ok.to (O : Ok cf P b A n stk fL en env s w σ) {h1 : Heap} {w1 : Wd} {σ1 : Store} {tk1 : Nat} (S : St cf b h1 w1) (e : Ext [] w w1) (L : Live cf P b w1 σ1) : Ok cf P b A n stk fL en env { s with heap := h1, toks := tk1 } w1 σ1 :=
 ⟨O.cx, O.so.ext e, O.fr, O.eo.ext e, S, L⟩
theorem Fin.ok {v : V} {σ' : Store} {Q E : VP} {w1 : Wd} {s' : Shared} {val : Value} {res : Res} (f : Fin cf P b fL s w res Q E) (S : St cf b s'.heap w1) (e : Ext [] w w1) (L : Live cf P b w1 σ') (d : DenW cf P b w1 v val) (hr : res = .ok v σ' := by rfl) (hs : s' = { s with heap := s'.heap, toks := s'.toks } := by rfl) : Q val s' := by
 subst hr; rw [hs]; exact f w1 s'.heap s'.toks S e L val d
theorem FinL.ok {v : List V} {σ' : Store} {Q : List Value → Shared → Prop} {E : VP} {w1 : Wd} {s' : Shared} {val : List Value} {res : Res} (f : FinL cf P b fL s w res Q E) (S : St cf b s'.heap w1) (e : Ext [] w w1) (L : Live cf P b w1 σ') (d : DenLW cf P b w1 v val) (hr : res = .oks v σ' := by rfl) (hs : s' = { s with heap := s'.heap, toks := s'.toks } := by rfl) : Q val s' := by
 subst hr; rw [hs]; exact f w1 s'.heap s'.toks S e L val d
theorem FinT.ok {t : Bool} {σ' : Store} {Q : Bool → Shared → Prop} {E : VP} {w1 : Wd} {s' : Shared} {res : Res} (f : FinT cf P b fL s w res Q E) (S : St cf b s'.heap w1) (e : Ext [] w w1) (L : Live cf P b w1 σ') (hr : res = .ok (.bool t) σ' := by rfl) (hs : s' = { s with heap := s'.heap, toks := s'.toks } := by rfl) : Q t s' := by
 subst hr; rw [hs]; exact f w1 s'.heap s'.toks S e L
section
variable (cf : Cfg) (P : Params) (b : Heap) (M : Model) (n : Nat) (r : Task → Res)
noncomputable def SndE : Prop := ∀ {A : Around} {stk : List SE} {fL : Addr} {en : Mine.Env} {env : SE} {s : Shared} {w : Wd} {σ : Store} {e : PE} {x : Ex}, Ok cf P b A n stk fL en env s w σ → Er cf env.scope e x → Tr cf P b M A fL (eval e env) s w (r (.e en x σ))
noncomputable def SndL : Prop := ∀ {A : Around} {stk : List SE} {fL : Addr} {en : Mine.Env} {env : SE} {s : Shared} {w : Wd} {σ : Store} {pos : Pos} {e : List PE} {x : List Ex}, Ok cf P b A n stk fL en env s w σ → ErL cf env.scope e x → TrL cf P b M A fL (spliced (backTo pos (starEach e env))) s w (r (.es en x σ))
noncomputable def LenR : Prop := ∀ en xs σ vs σ', r (.es en xs σ) = .oks vs σ' → vs.length = xs.length
noncomputable def SndT : Prop := ∀ {A : Around} {stk : List SE} {fL : Addr} {en : Mine.Env} {env : SE} {s : Shared} {w : Wd} {σ : Store} {e : PE} {x : Ex}, Ok cf P b A n stk fL en env s w σ → Er cf env.scope e x → TrT cf P b M A fL (isTrue e env (eval e env)) s w (r (.t en x σ))
end
theorem name_raw {A' : Around} {x : Nat} {v : V} {pos : Pos} {Q E : VP} (B : Bs cf K p loose mean mg mb wd.params b G) (S : St cf b s.heap w) (hk : env.scope.kind = .function) (hg : env.globals = mainGlobals) (hb : env.builtins = builtinsNs) (hd : Nat.beq x dbgN = false) (hx : env.kindOf (strOf x) = some .globalImplicit) (hv : glo G x = some v)
  (h : ∀ val, DenW cf wd.params b w v val → Q val s) : wpAny (model prog wd) A' (eval (.Name (strOf x) pos) env) Q E s := by
 obtain ⟨val, hw, d⟩ := B.glo x v hv
 have d' : DenW cf wd.params b w v val := Den.mono (fun z_ q => absurd q List.not_mem_nil) (fun z_ z_ q => by simp at q) d
 have T := B.T.keeps S.stays
 have X := B.X.keeps S.stays
 refine Name_function_global hk hx ?_ (notDbg hd)
 rcases hw with hw | ⟨h0, h1, h2⟩
 ·exact loadGlobal_global (env := env) (show s.heap.Ns env.globals mg from hg ▸ T.g) (mg_of X T.g hw) (h val d')
 ·exact loadGlobal_builtin (env := env) (show s.heap.Ns env.globals mg from hg ▸ T.g) (mg_none_of X T.g h0) (show s.heap.Ns env.builtins mb from hb ▸ T.b) ((T.builtins _ h2).trans h1) (h val d')
theorem name_glo {A' : Around} {x : Nat} {v : V} {pos : Pos} {Q E : VP} (B : Bs cf K p loose mean mg mb wd.params b G) (O : Ok cf wd.params b A n stk fL en env s w σ) (hd : Nat.beq x dbgN = false) (hx : env.kindOf (strOf x) = some .globalImplicit) (hv : glo G x = some v)
  (h : ∀ val, DenW cf wd.params b w v val → Q val s) : wpAny (model prog wd) A' (eval (.Name (strOf x) pos) env) Q E s := name_raw B O.st O.eo.k O.eo.g O.eo.bt hd hx hv h
theorem oko_ok {P : Params} {o : Option V} {Q E : VP} (f : Fin cf P b fL s w (oko o σ) Q E) : ∃ v, o = some v ∧ Fin cf P b fL s w (.ok v σ) Q E := by
 cases o with
 | none => exact False.elim f
 | some v => exact ⟨v, rfl, f⟩
theorem e_v {k : VK} {x : Nat} {e : PE} (B : Bs cf K p loose mean mg mb wd.params b G) (O : Ok cf wd.params b A n stk fL en env s w σ) (R : Er cf env.scope e (.v k x)) :
  Tr cf wd.params b (model prog wd) A fL (eval e env) s w (oko (look G en k x) σ) := fun Q E f => by
 obtain ⟨pos, rfl, hd, hl⟩ := R.inv
 obtain ⟨v, hv, f2⟩ := oko_ok f
 clear f R
 cases k with
 | loc =>
  obtain ⟨o, m, hm, hn, hl'⟩ := O.eo.loc
  obtain ⟨val, h1, h2⟩ := hl' x v hv
  exact wpAny_Name (wpAny_loadName_local O.eo.k hl (hn.ns (O.st.mu hm)) h1 (Fin.ok f2 O.st (.refl _ _) O.lv h2)) (notDbg hd)
 | cel =>
  obtain ⟨c, o, val, h1, h2, h3, h4⟩ := O.eo.cel x v hv hl
  exact wpAny_Name (wpAny_loadName_cell O.eo.k hl h1 ⟨_, O.st.mu h2, h3⟩ (Fin.ok f2 O.st (.refl _ _) O.lv h4)) (notDbg hd)
 | glo => exact name_glo B O hd hl hv fun val d => Fin.ok f2 O.st (.refl _ _) O.lv d
theorem e_neg {e : PE} {x : Ex} {pos : Pos} (H : SndE cf wd.params b (model prog wd) n r) (O : Ok cf wd.params b A (n + 1) stk fL en env s w σ) (R : Er cf env.scope e x) :
  Tr cf wd.params b (model prog wd) A fL (eval (.UnaryOp .USub e pos) env) s w (step G r (.e en (.neg x) σ)) := fun Q E f =>
 UnaryOp_ (Tr.bind (H O.down R) f fun v σ1 w1 h1 tk1 val S e L d f => by
  obtain ⟨i, e, f⟩ := f.need
  obtain rfl := intV_eq e
  obtain ⟨t, rfl⟩ := d.inv
  exact neg_int (Fin.ok f S (.refl _ _) L (.int _ _)))
theorem new_tuple {vs : List V} {vals : List Value} {Q E : VP} (S : St cf b s.heap w) (L : Live cf wd.params b w σ) (d : DenLW cf wd.params b w vs vals) (hl : vals.length ≤ 1000000) (f : Fin cf wd.params b fL s w (.ok (.tup vs) σ) Q E) :
  wpAny (model prog wd) A (newTuple vals) Q E s := by
 have hk : ∀ a o, s.heap.get? a = some o → (s.heap.push { cls := .type "tuple", data := .seq vals.toArray }).get? a = some o := fun a o e => gps _ e
 have hn := Heap.get?_push_size s.heap (o := { cls := .type "tuple", data := .seq vals.toArray }) rfl
 have hD : s.heap.get? s.heap.objs.size = none := size_none _
 refine wpAny_newTuple (Fin.ok f (S.addF hk hD hn) ext_addF L.addF ?_) (Nat.le_trans hl (by decide))
 exact .tup (n := 0) (.inl (.head _)) (d.ext (own := []) ext_addF)
theorem new_lst {vs : List V} {vals : List Value} {Q E : VP} (S : St cf b s.heap w) (L : Live cf wd.params b w σ) (d : DenLW cf wd.params b w vs vals) (hl : vals.length ≤ 1000000) (f : Fin cf wd.params b fL s w (.ok (.lst vs) σ) Q E) :
  wpAny (model prog wd) A (newList vals) Q E s := by
 have hk : ∀ a o, s.heap.get? a = some o → (s.heap.push { cls := .type "list", data := .seq vals.toArray }).get? a = some o := fun a o e => gps _ e
 have hn := Heap.get?_push_size s.heap (o := { cls := .type "list", data := .seq vals.toArray }) rfl
 have hD : s.heap.get? s.heap.objs.size = none := size_none _
 refine wpAny_newList (Fin.ok f (S.addF hk hD hn) ext_addF L.addF ?_) (Nat.le_trans hl (by decide))
 exact .lst (n := 0) (.inl (.head _)) (d.ext (own := []) ext_addF)
theorem new_ref {vs : List V} {vals : List Value} {Q E : VP} (S : St cf b s.heap w) (L : Live cf wd.params b w σ) (d : DenLW cf wd.params b w vs vals) (hl : vals.length ≤ 1000000) (f : Fin cf wd.params b fL s w (.ok (.ref σ.length) (σ ++ [.lst vs])) Q E) :
  wpAny (model prog wd) A (newList vals) Q E s := by
 have hk : ∀ a o, s.heap.get? a = some o → (s.heap.push { cls := .type "list", data := .seq vals.toArray }).get? a = some o := fun a o e => gps _ e
 have hn := Heap.get?_push_size s.heap (o := { cls := .type "list", data := .seq vals.toArray }) rfl
 have hD : s.heap.get? s.heap.objs.size = none := size_none _
 have E1 := ext_addL (own := []) (o := { cls := .type "list", data := .seq vals.toArray }) S hD
 have X : ObjOk cf wd.params b w (.lst vs) { cls := .type "list", data := .seq vals.toArray } := ⟨vals, 0, rfl, d⟩
 refine wpAny_newList (Fin.ok f (S.addL hk hD hn (fun z_ q => nomatch q)) E1 (L.addL S hD X) ?_) (Nat.le_trans hl (by decide))
 exact .ref (by show (w.rho ++ [s.heap.objs.size])[σ.length]? = _; rw [← L.len]; simp)
theorem e_tup {es : List PE} {xs : List Ex} {k : Nat} {pos : Pos} (H : SndL cf wd.params b (model prog wd) n r) (hr : LenR r) (O : Ok cf wd.params b A (n + 1) stk fL en env s w σ) (R : ErL cf env.scope es xs) (hl : es.length ≤ 100) :
  Tr cf wd.params b (model prog wd) A fL (eval (.Tuple es k pos) env) s w (step G r (.e en (.tup xs) σ)) := fun Q E f =>
 Tuple_ (TrL.binds (H O.down R) f fun v σ1 w1 h1 tk1 val q S e L d f => new_tuple S L d (by rw [d.length, hr _ _ _ _ _ q, ← R.length]; omega) f)
theorem e_lst {es : List PE} {xs : List Ex} {m : Bool} {pos : Pos} (H : SndL cf wd.params b (model prog wd) n r) (hr : LenR r) (O : Ok cf wd.params b A (n + 1) stk fL en env s w σ) (R : ErL cf env.scope es xs) (hl : es.length ≤ 100) :
  Tr cf wd.params b (model prog wd) A fL (eval (.List es pos) env) s w (step G r (.e en (.lst m xs) σ)) := fun Q E f =>
 List_ (TrL.binds (H O.down R) f fun v σ1 w1 h1 tk1 val q S e L d f => by
  have hl' : val.length ≤ 1000000 := by rw [d.length, hr _ _ _ _ _ q, ← R.length]; omega
  cases m with
  | true => exact new_ref S L d hl' f
  | false => exact new_lst S L d hl' f)
theorem es_ (H : SndE cf wd.params b (model prog wd) n r) (HL : SndL cf wd.params b (model prog wd) n r) {pos : Pos} {es : List PE} {xs : List Ex} (O : Ok cf wd.params b A (n + 1) stk fL en env s w σ) (R : ErL cf env.scope es xs) :
  TrL cf wd.params b (model prog wd) A fL (spliced (backTo pos (starEach es env))) s w (step G r (.es en xs σ)) := fun Q E f => by
 cases R with
 | nil => exact spliced_nil (FinL.ok f O.st (.refl _ _) O.lv .nil)
 | @cons e x es xs he hes =>
  rw [he.star]
  refine spliced_cons (Tr.bindL (H O.down he) f fun v σ1 w1 h1 tk1 val S e1 L d f => ?_)
  refine TrL.bindsL (HL (O.down.to S e1 L) hes) f fun vs σ2 w2 h2 tk2 vals q S2 e2 L2 d2 f => ?_
  exact FinL.ok f S2 (.refl _ _) L2 (.cons (d.ext e2) d2)
theorem e_and (H : SndE cf wd.params b (model prog wd) n r) {es : List PE} {xs : List Ex} {pos : Pos} (O : Ok cf wd.params b A (n + 1) stk fL en env s w σ) (R : ErL cf env.scope es xs) :
  Tr cf wd.params b (model prog wd) A fL (eval (.BoolOp .And es pos) env) s w (step G r (.e en (.and_ xs) σ)) := fun Q E f => by
 cases R with
 | nil => exact False.elim f
 | cons he hes =>
  cases hes with
  | nil => exact BoolOp_one (H O.down he Q E f)
  | cons he2 hes2 =>
   refine BoolOp_and (Tr.bind (H O.down he) f fun v σ1 w1 h1 tk1 val S e L d f => ?_)
   obtain ⟨t, e0, f⟩ := f.need
   obtain rfl := boolV_eq e0
   obtain rfl := d.inv
   cases t with
   | false => exact wpAny_truthy_bool (Fin.ok f S (.refl _ _) L (.bool _))
   | true => exact wpAny_truthy_bool (H (O.down.to S e L) (.and_ (.cons he2 hes2)) Q E f)
theorem e_or (H : SndE cf wd.params b (model prog wd) n r) {es : List PE} {xs : List Ex} {pos : Pos} (O : Ok cf wd.params b A (n + 1) stk fL en env s w σ) (R : ErL cf env.scope es xs) :
  Tr cf wd.params b (model prog wd) A fL (eval (.BoolOp .Or es pos) env) s w (step G r (.e en (.or_ xs) σ)) := fun Q E f => by
 cases R with
 | nil => exact False.elim f
 | cons he hes =>
  cases hes with
  | nil => exact BoolOp_one (H O.down he Q E f)
  | cons he2 hes2 =>
   refine BoolOp_or (Tr.bind (H O.down he) f fun v σ1 w1 h1 tk1 val S e L d f => ?_)
   obtain ⟨t, e0, f⟩ := f.need
   obtain rfl := boolV_eq e0
   obtain rfl := d.inv
   cases t with
   | true => exact wpAny_truthy_bool (Fin.ok f S (.refl _ _) L (.bool _))
   | false => exact wpAny_truthy_bool (H (O.down.to S e L) (.or_ (.cons he2 hes2)) Q E f)
theorem e_not (H : SndE cf wd.params b (model prog wd) n r) {e : PE} {x : Ex} {pos : Pos} (O : Ok cf wd.params b A (n + 1) stk fL en env s w σ) (R : Er cf env.scope e x) :
  Tr cf wd.params b (model prog wd) A fL (eval (.UnaryOp .Not e pos) env) s w (step G r (.e en (.not_ x) σ)) := fun Q E f =>
 UnaryOp_ (Tr.bind (H O.down R) f fun v σ1 w1 h1 tk1 val S e L d f => by
  obtain ⟨t, e0, f⟩ := f.need
  obtain rfl := boolV_eq e0
  obtain rfl := d.inv
  exact not_of (wpAny_truthy_bool (Fin.ok f S (.refl _ _) L (.bool _))))
theorem e_ite (H : SndE cf wd.params b (model prog wd) n r) (HT : SndT cf wd.params b (model prog wd) n r) {c a o : PE} {x y z : Ex} {pos : Pos} (O : Ok cf wd.params b A (n + 1) stk fL en env s w σ) (R : Er cf env.scope c x) (R1 : Er cf env.scope a y) (R2 : Er cf env.scope o z) :
  Tr cf wd.params b (model prog wd) A fL (eval (.IfExp c a o pos) env) s w (step G r (.e en (.ite x y z) σ)) := fun Q E f =>
 IfExp_ (TrT.bind (HT O.down R) f (fun v σ h => nobool h) fun v σ1 w1 h1 tk1 S e L f => by
  cases v with
  | true => exact H (O.down.to S e L) R1 Q E f
  | false => exact H (O.down.to S e L) R2 Q E f)
theorem t_plain (H : SndE cf wd.params b (model prog wd) n r) {e : PE} {x : Ex} (O : Ok cf wd.params b A (n + 1) stk fL en env s w σ) (R : Er cf env.scope e x)
  (he : isTrue e env (eval e env) = (do let v ← eval e env; standAt e.pos; holding [v] (truthy v))) :
  TrT cf wd.params b (model prog wd) A fL (isTrue e env (eval e env)) s w ((r (.e en x σ)).bind fun v σ => needO (boolV v) fun c => .ok (.bool c) σ) := fun Q E f =>
 isTrue_plain (Tr.bindT (H O.down R) f fun v σ1 w1 h1 tk1 val S e L d f => by
  obtain ⟨t, e0, f⟩ := f.need
  obtain rfl := boolV_eq e0
  obtain rfl := d.inv
  exact wpAny_truthy_bool (FinT.ok f S (.refl _ _) L)) he
theorem t_not (HT : SndT cf wd.params b (model prog wd) n r) {e : PE} {x : Ex} {pos : Pos} (O : Ok cf wd.params b A (n + 1) stk fL en env s w σ) (R : Er cf env.scope e x) :
  TrT cf wd.params b (model prog wd) A fL (isTrue (.UnaryOp .Not e pos) env (eval (.UnaryOp .Not e pos) env)) s w (step G r (.t en (.not_ x) σ)) := fun Q E f =>
 isTrue_not (TrT.bindT (HT O.down R) f (fun v σ h => nobool h) fun v σ1 w1 h1 tk1 S e L f => FinT.ok f S (.refl _ _) L)
theorem t_and (HT : SndT cf wd.params b (model prog wd) n r) {es : List PE} {xs : List Ex} {pos : Pos} (O : Ok cf wd.params b A (n + 1) stk fL en env s w σ) (R : ErL cf env.scope es xs) :
  TrT cf wd.params b (model prog wd) A fL (isTrue (.BoolOp .And es pos) env (eval (.BoolOp .And es pos) env)) s w (step G r (.t en (.and_ xs) σ)) := fun Q E f => by
 cases R with
 | nil => exact isTrue_and_nil (FinT.ok f O.st (.refl _ _) O.lv)
 | cons he hes =>
  refine isTrue_and (TrT.bindT (HT O.down he) f (fun v σ h => nobool h) fun v σ1 w1 h1 tk1 S e L f => ?_)
  cases v with
  | false => exact FinT.ok f S (.refl _ _) L
  | true => exact HT (e := .BoolOp .And _ pos) (O.down.to S e L) (.and_ hes) Q E f
theorem t_or (HT : SndT cf wd.params b (model prog wd) n r) {es : List PE} {xs : List Ex} {pos : Pos} (O : Ok cf wd.params b A (n + 1) stk fL en env s w σ) (R : ErL cf env.scope es xs) :
  TrT cf wd.params b (model prog wd) A fL (isTrue (.BoolOp .Or es pos) env (eval (.BoolOp .Or es pos) env)) s w (step G r (.t en (.or_ xs) σ)) := fun Q E f => by
 cases R with
 | nil => exact isTrue_or_nil (FinT.ok f O.st (.refl _ _) O.lv)
 | cons he hes =>
  refine isTrue_or (TrT.bindT (HT O.down he) f (fun v σ h => nobool h) fun v σ1 w1 h1 tk1 S e L f => ?_)
  cases v with
  | true => exact FinT.ok f S (.refl _ _) L
  | false => exact HT (e := .BoolOp .Or _ pos) (O.down.to S e L) (.or_ hes) Q E f
section
variable {h : Heap}
theorem dctAt_eq {j : Nat} {kvs : List (Nat × V)} (e : dctAt σ j = some kvs) : σ[j]? = some (.dct kvs) := by
 unfold dctAt at e
 cases h : σ[j]? with
 | none => rw [h] at e; exact noS e
 | some so => cases so with
  | lst => rw [h] at e; exact noS e
  | dct => rw [h] at e; obtain rfl := sI e; rfl
theorem lstAt_eq {j : Nat} {xs : List V} (e : lstAt σ j = some xs) : σ[j]? = some (.lst xs) := by
 unfold lstAt at e
 cases h : σ[j]? with
 | none => rw [h] at e; exact noS e
 | some so => cases so with
  | lst => rw [h] at e; obtain rfl := sI e; rfl
  | dct => rw [h] at e; exact noS e
theorem isLst_inv {v : V} {xs : List V} (e : isLst σ v = some xs) : v = .lst xs ∨ ∃ j, v = .ref j ∧ σ[j]? = some (.lst xs) := by
 cases v <;> try (exact noS e)
 ·obtain rfl := sI e; exact .inl rfl
 ·exact .inr ⟨_, rfl, lstAt_eq e⟩
theorem dctOf_inv {v : V} {kvs : List (Nat × V)} (e : dctOf σ v = some kvs) : v = .dct kvs ∨ ∃ j, v = .ref j ∧ σ[j]? = some (.dct kvs) := by
 cases v <;> try (exact noS e)
 ·obtain rfl := sI e; exact .inl rfl
 ·exact .inr ⟨_, rfl, dctAt_eq e⟩
theorem attOf_inv {v : V} {kvs : List (Nat × V)} (e : attOf σ v = some kvs) : ∃ c, v = .fob c kvs ∨ ∃ j, v = .obj c j ∧ σ[j]? = some (.dct kvs) := by
 cases v <;> try (exact noS e)
 ·obtain rfl := sI e; exact ⟨_, .inl rfl⟩
 ·exact ⟨_, .inr ⟨_, rfl, dctAt_eq e⟩⟩
theorem seqOf_inv {v : V} {xs : List V} (e : seqOf σ v = some xs) : v = .tup xs ∨ isLst σ v = some xs := by
 cases v <;> first | exact .inr e | (obtain rfl := sI e; exact .inl rfl)
theorem tlen_inv {v : V} {m : Nat} (e : tlen v = some m) : (∃ x, v = .str x ∧ slen x = m) ∨ v = .txt m := by
 cases v <;> first | (exact noS e) | (cases e; first | exact .inl ⟨_, rfl, rfl⟩ | exact .inr rfl)
section
variable (cf : Cfg) (P : Params) (b h : Heap) (w : Wd)
inductive LRef (so : SO) (val : Value) : Prop
 | mk (a : Addr) (o : Obj) (e : val = .ref a) (m : (a, o) ∈ w.mu) (g : h.get? a = some o) (x : ObjOk cf P b w so o)
inductive LLst (xs : List V) (val : Value) : Prop
 | mk (a : Addr) (vs : List Value) (k : Nat) (e : val = .ref a) (g : h.get? a = some (listOf (List.toArray vs) k)) (l : DenLW cf P b w xs vs)
inductive LSeq (xs : List V) (val : Value) : Prop
 | mk (a : Addr) (vs : List Value) (k : Nat) (e : val = .ref a) (g : h.get? a = some (listOf (List.toArray vs) k) ∨ h.get? a = some (tupOf (List.toArray vs) k)) (l : DenLW cf P b w xs vs)
inductive LDct (kvs : List (Nat × V)) (val : Value) : Prop
 | mk (a : Addr) (es : List DictEntry) (k : Nat) (e : val = .ref a) (g : (a == sysModules) = false) (h : h.get? a = some (dictOf es k)) (l : DenDW cf P b w kvs es)
inductive LAtt (kvs : List (Nat × V)) (v : V) (val : Value) : Prop
 | mk (c : Nat) (C x dx : Addr) (es : List DictEntry) (k : Nat) (e : val = .ref x) (i : cf.ia c = some C) (g : h.get? x = some (instObj C dx)) (g2 : h.get? dx = some (dictOf es k)) (l : DenDW cf P b w kvs es) (q : clsOf v = some c)
end
theorem Live.ref (S : St cf b h w) (L : Live cf P b w σ) {j : Nat} {so : SO} {val : Value} (d : DenW cf P b w (.ref j) val) (hj : σ[j]? = some so) : LRef cf P b h w so val := by
 obtain ⟨a, rfl, q⟩ := d.inv
 obtain ⟨a', o, h1, h2, h3⟩ := L.at_ j _ hj
 rw [q] at h1
 obtain rfl := sI h1
 exact ⟨a, o, rfl, h2, S.mu h2, h3⟩
theorem isLst_at {v : V} {val : Value} {xs : List V} (S : St cf b h w) (L : Live cf P b w σ) (d : DenW cf P b w v val) (e : isLst σ v = some xs) :
  LLst cf P b h w xs val := by
 rcases isLst_inv e with rfl | ⟨j, rfl, hj⟩
 ·obtain ⟨a, vs, k, h1, h2, h3⟩ := d.inv
  exact ⟨a, vs, k, h1, S.at_ h2, h3⟩
 ·obtain ⟨a, o, h1, _, h2, vs, k, rfl, h3⟩ := L.ref S d hj
  exact ⟨a, vs, k, h1, h2, h3⟩
theorem seqOf_at {v : V} {val : Value} {xs : List V} (S : St cf b h w) (L : Live cf P b w σ) (d : DenW cf P b w v val) (e : seqOf σ v = some xs) :
  LSeq cf P b h w xs val := by
 rcases seqOf_inv e with rfl | e
 ·obtain ⟨a, vs, k, h1, h2, h3⟩ := d.inv
  exact ⟨a, vs, k, h1, .inr (S.at_ h2), h3⟩
 ·obtain ⟨a, vs, k, h1, h2, h3⟩ := isLst_at S L d e
  exact ⟨a, vs, k, h1, .inl h2, h3⟩
theorem dctOf_at {v : V} {val : Value} {kvs : List (Nat × V)} (S : St cf b h w) (L : Live cf P b w σ) (hs : ∃ o, b.get? sysModules = some o) (d : DenW cf P b w v val) (e : dctOf σ v = some kvs) :
  LDct cf P b h w kvs val := by
 rcases dctOf_inv e with rfl | ⟨j, rfl, hj⟩
 ·obtain ⟨a, es, k, h1, g, h2, h3⟩ := d.inv
  exact ⟨a, es, k, h1, g, S.at_ h2, h3⟩
 ·obtain ⟨a, o, h1, hm, h2, es, k, rfl, h3⟩ := L.ref S d hj
  refine ⟨a, es, k, h1, ?_, h2, h3⟩
  cases q : a == sysModules with
  | false => rfl
  | true =>
   obtain ⟨o', ho⟩ := hs
   have := S.new _ (mem_mu hm)
   rw [show a = sysModules from eq_of_beq q, ho] at this
   injection this
theorem attOf_at {v : V} {val : Value} {kvs : List (Nat × V)} (S : St cf b h w) (L : Live cf P b w σ) (d : DenW cf P b w v val) (e : attOf σ v = some kvs) :
  LAtt cf P b h w kvs v val := by
 obtain ⟨c, rfl | ⟨j, rfl, hj⟩⟩ := attOf_inv e
 ·obtain ⟨x, C, dx, es, k, h1, g, q, q2, l⟩ := d.inv
  exact ⟨c, C, x, dx, es, k, h1, g, S.at_ q, S.at_ q2, l, rfl⟩
 ·obtain ⟨x, C, dx, h1, g, q, q2⟩ := d.inv
  obtain ⟨a, o, h2, hm, h3, es, k, rfl, h4⟩ := L.ref S (.ref q2) hj
  injection h2 with h2; subst h2
  exact ⟨c, C, x, dx, es, k, h1, g, S.at_ q, h3, h4, rfl⟩
theorem tlen_at {v : V} {val : Value} {m : Nat} (d : DenW cf P b w v val) (e : tlen v = some m) : ∃ x t, val = .str x t ∧ x.length ≤ m := by
 rcases tlen_inv e with ⟨x, rfl, rfl⟩ | rfl
 ·obtain ⟨t, h1⟩ := den_str d
  exact ⟨_, t, h1, Nat.le_of_eq (strOf_length _)⟩
 ·exact d.inv
theorem room_of (B : Bs cf K p loose mean mg mb wd.params b G) (O : Ok cf wd.params b A n stk fL en env s w σ) (ht : prog.given.tree = none) {s' : Shared} (S : St cf b s'.heap w) : PylongRoom (model prog wd) A s' := by
 obtain ⟨e0, r0, hs, _⟩ := O.cx.top
 have hst := O.so e0 (by rw [hs]; exact .head _)
 exact PylongRoom.of (B.T.nolimit.keeps S.stays) (by have := O.cx.dp; show A.depth + 100 < 1000; omega) (SeerAt.of (env := e0) (l := r0) (B.seer.keeps S.stays) ht (by rw [O.cx.fr, hs]) hst.1.2.1 hst.1.2.2.1 hst.1.2.2.2.1 hst.1.2.2.2.2)
theorem intBits_le {y : Int} (h : y.natAbs < 9223372036854775808) : Builtin.Int.intBits y ≤ 64 := by
 unfold Builtin.Int.intBits
 by_cases q : y = 0
 ·rw [if_pos (by first | exact q | (rw [q]; rfl))]; exact Nat.zero_le _
 ·rw [if_neg (by first | exact q | (intro h; exact q (eq_of_beq h)))]
  have q' : y.natAbs ≠ 0 := by intro e; apply q; omega
  have := (Nat.log2_lt q').mpr (show y.natAbs < 2 ^ 63 from h)
  omega
theorem add_at {x y : V} {u v : Value} {Q E : VP} (O : Ok cf wd.params b A n stk fL en env s w σ) (dx : DenW cf wd.params b w x u) (dy : DenW cf wd.params b w y v)
  (f : Fin cf wd.params b fL s w (bin .add x y σ) Q E) : wpAny (model prog wd) A (binaryOp .Add u v) Q E s := by
 have S := O.st
 have L := O.lv
 have big : (10000 : Nat) ≤ sizeLine := by decide
 rcases f.else_ with ⟨i, e, f⟩ | ⟨_, f⟩
 ·obtain ⟨j, e2, f⟩ := f.need
  obtain rfl := intV_eq e; obtain rfl := intV_eq e2
  obtain ⟨t, rfl⟩ := den_int dx
  obtain ⟨t', rfl⟩ := den_int dy
  exact add_int (Fin.ok f S (.refl _ _) L (.int _ _))
 rcases f.else_ with ⟨i, e, f⟩ | ⟨_, f⟩
 ·obtain ⟨j, e2, f⟩ := f.need
  rcases f.else_ with ⟨p, hp, f⟩ | ⟨_, f⟩
  ·obtain ⟨a, h1, hp⟩ := obe hp
   obtain ⟨c, h2, rfl⟩ := Option.map_eq_some_iff.mp hp
   obtain rfl := strV_eq h1; obtain rfl := strV_eq h2
   obtain ⟨c, f⟩ := f.okIf
   obtain ⟨t, rfl⟩ := den_str dx
   obtain ⟨t', rfl⟩ := den_str dy
   refine add_str (fun t' tk => ?_) (Nat.le_trans (by rw [strOf_length, strOf_length]; exact nle c) big)
   exact Fin.ok f S (.refl _ _) L (by rw [← strOf_append]; exact .str _ _)
  ·obtain ⟨c, f⟩ := f.okIf
   have c := nle c
   obtain ⟨a, t, rfl, h1⟩ := tlen_at dx e
   obtain ⟨a', t', rfl, h2⟩ := tlen_at dy e2
   refine add_str (fun t' tk => ?_) (Nat.le_trans (by omega) big)
   refine Fin.ok f S (.refl _ _) L (.txt ?_)
   have e : (a ++ a').length = a.length + a'.length := by show (a.cps ++ a'.cps).size = _; rw [Array.size_append]; rfl
   omega
 rcases f.else_ with ⟨xs, e, f⟩ | ⟨_, f⟩
 ·obtain ⟨ys, e2, f⟩ := f.need
  obtain rfl := tupV_eq e; obtain rfl := tupV_eq e2
  obtain ⟨c, f⟩ := f.okIf
  have c := nle c
  obtain ⟨a, vs, k, rfl, q1, l1⟩ := den_tup dx
  obtain ⟨a', vs', k', rfl, q2, l2⟩ := den_tup dy
  have g1 := S.at_ q1
  have g2 := S.at_ q2
  have hz : vs.length + vs'.length ≤ 16384 := by rw [l1.length, l2.length]; omega
  obtain ⟨oL, mL, hm, hn, _⟩ := O.eo.loc
  have Fr0 := S.frm hm hn O.eo.lge
  by_cases hv : vs = []
  ·subst hv
   cases l1
   exact W.kde_addT0 Fr0 S.news ⟨_, g1, rfl, _, rfl⟩ ⟨_, g2, rfl, _, rfl⟩ rfl hz (Fin.ok f S (.refl _ _) L (.tup q2 l2))
  ·by_cases hw : vs' = []
   ·subst hw
    cases l2
    exact W.kde_addT1 Fr0 S.news ⟨_, g1, rfl, _, rfl⟩ ⟨_, g2, rfl, _, rfl⟩ hv rfl hz (Fin.ok f S (.refl _ _) L (.tup (xs := xs ++ []) q1 (by rw [List.append_nil]; exact l1)))
   ·refine P.add_tuple g1 g2 (by simpa using hv) (by simpa using hw) (Fin.ok f (S.addF (fun a o e => gps _ e) (size_none _) (Heap.get?_push_size s.heap (o := tupOf (vs.toArray ++ vs'.toArray) 0) rfl)) ext_addF L.addF ?_) (by simp only [List.size_toArray]; exact Nat.le_trans hz (by decide))
    refine .tup (n := 0) (vs := vs ++ vs') (.inl ?_) (DenL.append (DenLW.ext (own := []) l1 ext_addF) (DenLW.ext (own := []) l2 ext_addF))
    rw [List.append_toArray]
    exact .head _
 obtain ⟨xs, e1, f⟩ := f.need
 obtain ⟨ys, e2, f⟩ := f.need
 obtain ⟨c, f⟩ := f.okIf
 obtain ⟨a, vs, k, rfl, h1, h2⟩ := isLst_at S L dx e1
 obtain ⟨a', vs', k', rfl, h1', h2'⟩ := isLst_at S L dy e2
 refine P.add_list h1 h1' (Fin.ok f (S.addF (fun a o e => gps _ e) (size_none _) (Heap.get?_push_size s.heap (o := listOf (vs.toArray ++ vs'.toArray) 0) rfl)) ext_addF L.addF ?_) ?_
 ·refine .lst (n := 0) (vs := vs ++ vs') (.inl ?_) (DenL.append (h2.ext (own := []) ext_addF) (h2'.ext (own := []) ext_addF))
  rw [List.append_toArray]
  exact .head _
 ·have c := nle c
  rw [← h2.length, ← h2'.length] at c
  simp only [List.size_toArray]
  exact Nat.le_trans c (by decide)
theorem mul_at {x y : V} {u v : Value} {Q E : VP} (O : Ok cf wd.params b A n stk fL en env s w σ) (dx : DenW cf wd.params b w x u) (dy : DenW cf wd.params b w y v)
  (f : Fin cf wd.params b fL s w (bin .mul x y σ) Q E) : wpAny (model prog wd) A (binaryOp .Mult u v) Q E s := by
 have S := O.st
 have L := O.lv
 obtain ⟨k, e, f⟩ := f.need
 obtain rfl := intV_eq e
 obtain ⟨t, rfl⟩ := den_int dy
 rcases f.else_ with ⟨i, e, f⟩ | ⟨_, f⟩
 ·obtain rfl := intV_eq e
  obtain ⟨t', rfl⟩ := den_int dx
  obtain ⟨c, f⟩ := f.okIf
  exact mul_int (Fin.ok f S (.refl _ _) L (.int _ _)) (.of_right (intBits_le (of_decide_eq_true c)))
 obtain ⟨xs, e1, f⟩ := f.need
 obtain ⟨c, f⟩ := f.okIf
 have hc := of_decide_eq_true c
 obtain ⟨a, vs, kk, rfl, h1, h2⟩ := isLst_at S L dx e1
 obtain ⟨oL, mL, hm, hn, _⟩ := O.eo.loc
 have hl := h2.length
 have hz : vs.toArray.size * k.toNat ≤ 2 ^ 24 := by
  have a1 : vs.toArray.size ≤ 1000 := by rw [List.size_toArray, hl]; exact hc.2.2
  have a2 : k.toNat ≤ 8 := by omega
  exact Nat.le_trans (Nat.mul_le_mul a1 a2) (by decide)
 refine mul_list (S.frm hm hn O.eo.lge) S.news h1 (by omega) (by omega) hz fun h' F' N' => ?_
 rw [listMul_foldl_if] at N'
 obtain ⟨w', S', E', L', hD⟩ := S.byNewsF L hm O.eo.lnr hn F' N' (size_none _)
 refine Fin.ok f S' E' L' (.lst (n := 0) (.inl hD) ?_)
 have h3 : DenLW cf wd.params b w' xs vs := h2.ext E'
 clear hz hc c f hD hl N'
 induction k.toNat with
 | zero => exact .nil
 | succ j ih => rw [List.replicate_succ, List.replicate_succ, List.flatten_cons, List.flatten_cons]; exact DenL.append h3 ih
theorem pow_at {x y : Nat} {t t' : Tok} {Q E : VP} (h1 : x ≤ 10) (h2 : y ≤ 600) (h : ∀ t k, Q (.int (x ^ y : Nat) t) { s with toks := k }) : wpAny (model prog wd) A (binaryOp .Pow (.int x t) (.int y t')) Q E s := by
 refine pow_int (Int.natCast_nonneg _) ?_ ?_
 ·have hb := intBits_le (y := (x : Int)) (by omega)
  have h1 : (Builtin.Int.intBits (x : Int) : Int) ≤ 64 := by omega
  have h2 : (y : Int) ≤ 600 := by omega
  have h3 : (Builtin.Int.intBits (x : Int) : Int) * (y : Int) ≤ 64 * 600 := Int.mul_le_mul h1 h2 (Int.natCast_nonneg _) (by decide)
  show (Builtin.Int.intBits (x : Int) : Int) * (y : Int) ≤ 2 ^ 27
  omega
 ·have : ((x : Int) ^ (Int.ofNat y).toNat) = ((x ^ y : Nat) : Int) := by rw [Int.natCast_pow]; rfl
  show Q (.int ((x : Int) ^ (Int.ofNat y).toNat) _) { s with toks := s.toks + 1 }
  rw [this]
  exact h _ _
theorem bin_ {op : Bop} {x y : V} {u v : Value} {Q E : VP} (B : Bs cf K p loose mean mg mb wd.params b G) (ht : prog.given.tree = none) (O : Ok cf wd.params b A n stk fL en env s w σ) (dx : DenW cf wd.params b w x u) (dy : DenW cf wd.params b w y v)
  (f : Fin cf wd.params b fL s w (bin op x y σ) Q E) : wpAny (model prog wd) A (binaryOp (opOf op) u v) Q E s := by
 by_cases h1 : op = .add
 ·subst h1; exact add_at O dx dy f
 by_cases h2 : op = .mul
 ·subst h2; exact mul_at O dx dy f
 have key : ∃ i j, x = .int i ∧ y = .int j := by
  cases op <;> first | exact absurd rfl h1 | exact absurd rfl h2 | skip
  all_goals
   obtain ⟨i, e, f⟩ := f.need
   obtain ⟨j, e2, f⟩ := f.need
   exact ⟨i, j, intV_eq e, intV_eq e2⟩
 obtain ⟨i, j, rfl, rfl⟩ := key
 obtain ⟨t, rfl⟩ := den_int dx
 obtain ⟨t', rfl⟩ := den_int dy
 have q : ∀ {z σ'}, Fin cf wd.params b fL s w (.ok (.int z) σ') Q E → σ' = σ → ∀ t k, Q (.int z t) { s with toks := k } := fun f h t k => Fin.ok f O.st (.refl _ _) (h ▸ O.lv) (.int _ t)
 cases op with
 | add => exact absurd rfl h1
 | mul => exact absurd rfl h2
 | sub => exact sub_int (q f rfl _ _)
 | fdiv =>
  obtain ⟨c, f⟩ := Fin.okIf f
  have c := of_decide_eq_true c
  exact floordiv_int (by omega) (q f rfl _ _) (.inr (room_of B O ht O.st))
 | mod =>
  obtain ⟨c, f⟩ := Fin.okIf f
  have c := of_decide_eq_true c
  exact mod_int (by omega) (q f rfl _ _)
 | pow =>
  obtain ⟨x, e, f⟩ := Fin.need f
  obtain ⟨y, e2, f⟩ := f.need
  obtain rfl := natI_eq e; obtain rfl := natI_eq e2
  obtain ⟨c, f⟩ := f.okIf
  obtain ⟨c1, c2⟩ := Bool.and_eq_true_iff.mp c
  exact pow_at (nle c1) (nle c2) (q f rfl)
end
section
variable {h : Heap} {fz : Led} {rho : List Addr}
theorem At.inj (S : St cf b h w) {a : Addr} {o o' : Obj} (x : At b w.fz a o) (y : At b w.fz a o') : o = o' := by
 have := (S.at_ x).symm.trans (S.at_ y)
 injection this
theorem tup_inj {vs vs' : List Value} {n n' : Nat} (e : tupOf vs.toArray n = tupOf vs'.toArray n') : vs = vs' := by
 injection e with _ _ e _
 injection e with e _
 simpa using e
theorem eqL_ne {f : Nat} {xs ys : List V} {c : Bool} : eqL (f + 1) xs ys = some c → (xs = [] ∧ ys = [] ∧ c = true) ∨ (xs = [] ∧ ys ≠ [] ∧ c = false) ∨ (xs ≠ [] ∧ ys = [] ∧ c = false) ∨
  ∃ x xr y yr a d, xs = x :: xr ∧ ys = y :: yr ∧ eqV f x y = some a ∧ eqL f xr yr = some d ∧ c = (a && d) := by
 intro h
 cases xs with
 | nil =>
  cases ys with
  | nil => obtain rfl := sI h; exact .inl ⟨rfl, rfl, rfl⟩
  | cons => obtain rfl := sI h; exact .inr (.inl ⟨rfl, (fun q => nomatch q), rfl⟩)
 | cons x xr =>
  cases ys with
  | nil => obtain rfl := sI h; exact .inr (.inr (.inl ⟨(fun q => nomatch q), rfl, rfl⟩))
  | cons y yr =>
   have h' : (match eqV f x y, eqL f xr yr with | some a, some b => some (a && b) | _, _ => none) = some c := h
   cases h1 : eqV f x y with
   | none => rw [h1] at h'; exact noS h'
   | some a =>
    cases h2 : eqL f xr yr with
    | none => rw [h1, h2] at h'; exact noS h'
    | some d => rw [h1, h2] at h'; obtain rfl := sI h'; exact .inr (.inr (.inr ⟨x, xr, y, yr, a, d, rfl, rfl, h1, h2, rfl⟩))
inductive EqSh (f : Nat) : V → V → Bool → Prop
 | none : EqSh f .none .none true
 | bool (x y : Bool) : EqSh f (.bool x) (.bool y) (x == y)
 | int (x y : Int) : EqSh f (.int x) (.int y) (x == y)
 | str (x y : Nat) : EqSh f (.str x) (.str y) (Nat.beq x y)
 | bytes (x y : List Nat) : EqSh f (.bytes x) (.bytes y) (x == y)
 | tup {xs ys : List V} {c : Bool} : eqL f xs ys = some c → EqSh f (.tup xs) (.tup ys) c
 | st (x : Nat) (y : List V) : EqSh f (.str x) (.tup y) false
 | ts (y : List V) (x : Nat) : EqSh f (.tup y) (.str x) false
 | tok (t : Bool) (i : Nat) : 12 ≤ f → EqSh f (.tok t i) (.tok t i) true
 | sk (x i : Nat) : EqSh f (.str x) (.tok true i) false
 | ks (i x : Nat) : EqSh f (.tok true i) (.str x) false
theorem eqV_inv {f : Nat} {x y : V} {c : Bool} (e : eqV (f + 1) x y = some c) : EqSh f x y c := by
 cases x <;> try (exact noS e)
 all_goals (cases y <;> try (exact noS e))
 ·obtain rfl := sI e; exact .none
 ·obtain rfl := sI e; exact .bool _ _
 ·obtain rfl := sI e; exact .int _ _
 ·obtain rfl := sI e; exact .str _ _
 ·obtain rfl := sI e; exact .st _ _
 ·cases t with
  | true => obtain rfl := sI e; exact .sk _ _
  | false => exact noS e
 ·obtain rfl := sI e; exact .bytes _ _
 ·obtain rfl := sI e; exact .ts _ _
 ·exact .tup e
 ·cases t with
  | true => obtain rfl := sI e; exact .ks _ _
  | false => exact noS e
 ·have e' : (match Nat.beq i i_1 && (Nat.ble 12 f && t == t_1) with | true => some true | false => Option.none) = some c := e
  cases h1 : Nat.beq i i_1 && (Nat.ble 12 f && t == t_1) with
  | false => rw [h1] at e'; exact noS e'
  | true =>
   rw [h1] at e'
   obtain rfl := sI e'
   simp only [Bool.and_eq_true] at h1
   obtain rfl := nbe h1.1
   obtain rfl := eq_of_beq h1.2.2
   exact .tok _ _ (nle h1.2.1)
theorem str_eq {n m : Nat} {t : Tok} {v : Value} (d : Den cf P b fz rho (.str m) v) (e : v = .str (strOf n) t) : n = m := by
 obtain ⟨t', q⟩ := den_str d
 rw [q] at e
 injection e with e _
 exact (strOf_inj e).symm
theorem bytes_eq {l l' : List Nat} {v : Value} (d : Den cf P b fz rho (.bytes l) v) (d' : Den cf P b fz rho (.bytes l') v) : l = l' := by
 obtain ⟨t, rfl, h1⟩ := den_bytes d
 obtain ⟨t', q, h2⟩ := den_bytes d'
 injection q with q _
 exact bytes_inj h1 h2 (congrArg Array.toList q)
theorem tup_eq (S : St cf b h w) {xs ys : List V} {v : Value} (d : DenW cf P b w (.tup xs) v) (d' : DenW cf P b w (.tup ys) v) : ∃ vs, DenLW cf P b w xs vs ∧ DenLW cf P b w ys vs := by
 obtain ⟨a, vs, n, rfl, q1, l1⟩ := den_tup d
 obtain ⟨a', vs', n', q, q2, l2⟩ := den_tup d'
 injection q with q
 subst q
 rw [tup_inj (At.inj S q2 q1)] at l2
 exact ⟨vs, l1, l2⟩
theorem str_no {n i : Nat} {v : Value} (d : Den cf P b fz rho (.str n) v) (d' : Den cf P b fz rho (.tok true i) v) : False := by
 obtain ⟨t, rfl⟩ := den_str d
 obtain ⟨_, _, _, q, _⟩ := d'.inv.2.1 rfl
 injection q
theorem str_tup {n : Nat} {xs : List V} {v : Value} (d : Den cf P b fz rho (.str n) v) (d' : Den cf P b fz rho (.tup xs) v) : False := by
 obtain ⟨t, rfl⟩ := den_str d
 obtain ⟨_, _, _, q, _⟩ := den_tup d'
 injection q
theorem bool_eq {x y : Bool} {v : Value} (d : Den cf P b fz rho (.bool x) v) (d' : Den cf P b fz rho (.bool y) v) : x = y := by
 have e := d.inv.symm.trans d'.inv
 injection e
theorem int_eq {x y : Int} {v : Value} (d : Den cf P b fz rho (.int x) v) (d' : Den cf P b fz rho (.int y) v) : x = y := by
 obtain ⟨t, rfl⟩ := den_int d
 obtain ⟨t', q⟩ := den_int d'
 injection q
theorem eqV_same (S : St cf b h w) : ∀ (f : Nat), (∀ x y v c, DenW cf P b w x v → DenW cf P b w y v → eqV f x y = some c → c = true) ∧ (∀ xs ys vs c, DenLW cf P b w xs vs → DenLW cf P b w ys vs → eqL f xs ys = some c → c = true) := by
 intro f
 induction f with
 | zero => exact ⟨fun z_ z_ z_ z_ z_ z_ e => (nomatch e), fun z_ z_ z_ z_ z_ z_ e => (nomatch e)⟩
 | succ f ih =>
  refine ⟨fun x y v c dx dy e => ?_, fun xs ys vs c dx dy e => ?_⟩
  ·cases eqV_inv e with
   | none | tok => rfl
   | bool => rw [bool_eq dx dy]; exact beq_self_eq_true _
   | int => rw [int_eq dx dy]; exact beq_self_eq_true _
   | str =>
    obtain ⟨t, q⟩ := den_str dx
    rw [str_eq dy q]
    exact Nat.beq_refl _
   | bytes => rw [bytes_eq dx dy]; exact beq_self_eq_true _
   | tup q =>
    obtain ⟨vs, l1, l2⟩ := tup_eq S dx dy
    exact ih.2 _ _ _ _ l1 l2 q
   | st => exact (str_tup dx dy).elim
   | ts => exact (str_tup dy dx).elim
   | sk => exact (str_no dx dy).elim
   | ks => exact (str_no dy dx).elim
  ·rcases eqL_ne e with ⟨rfl, rfl, q⟩ | ⟨rfl, q, _⟩ | ⟨q, rfl, _⟩ | ⟨x, xr, y, yr, a, d, rfl, rfl, h1, h2, q⟩
   ·exact q
   ·rw [dx.nil_inv] at dy; exact absurd (List.length_eq_zero_iff.mp dy.length.symm) q
   ·rw [dy.nil_inv] at dx; exact absurd (List.length_eq_zero_iff.mp dx.length.symm) q
   ·obtain ⟨v, r, rfl, d1, l1⟩ := dx.cons_inv
    obtain ⟨v', r', e', d2, l2⟩ := dy.cons_inv
    injection e' with e1 e2
    subst e1 e2
    rw [q, ih.1 _ _ _ _ d1 d2 h1, ih.2 _ _ _ _ l1 l2 h2]; rfl
theorem all_step {n m : Nat} {e : Nat → Bool} {a d : Bool} (hd : d = ((List.range (min n m)).all e && n == m)) :
  (a && d) = ((List.range (min (n + 1) (m + 1))).all (fun j => match j with | 0 => a | j + 1 => e j) && (n + 1) == (m + 1)) := by
 have : min (n + 1) (m + 1) = min n m + 1 := by omega
 rw [this, List.range_succ_eq_map, List.all_cons, List.all_map, hd]
 have e1 : ((fun j => match j with | 0 => a | j + 1 => e j) ∘ Nat.succ) = e := rfl
 rw [e1]
 have e2 : ((n + 1 == m + 1) : Bool) = (n == m) := by
  cases h : (n == m) with
  | true => have := eq_of_beq h; subst this; simp
  | false =>
   cases h' : (n + 1 == m + 1) with
   | false => rfl
   | true =>
    have := eq_of_beq h'
    have : n = m := by omega
    subst this; simp at h
 rw [e2, Bool.and_assoc]
noncomputable def TokEq (cf : Cfg) (P : Params) (b : Heap) : Prop := ∀ (s : Shared) (w : Wd) (A : Around) (t : Bool) (i : Nat) (u v : Value), St cf b s.heap w → A.units + 12 < cLine → cf.tokD t i P b w.fz u → cf.tokD t i P b w.fz v → EqAt A s u v true
theorem beq_strOf (x y : Nat) : (strOf x == strOf y) = Nat.beq x y := by
 cases q : Nat.beq x y with
 | true => rw [nbe q]; exact beq_self_eq_true _
 | false => exact beq_eq_false_iff_ne.mpr fun e => by rw [strOf_inj e, Nat.beq_refl] at q; injection q
theorem beq_bytes {x y : List Nat} (h1 : ∀ c ∈ x, c < 256) (h2 : ∀ c ∈ y, c < 256) : decide ((x.map UInt8.ofNat).toArray.toList = (y.map UInt8.ofNat).toArray.toList) = (x == y) := by
 cases q : (x == y) with
 | true => rw [eq_of_beq q]; exact decide_eq_true rfl
 | false => exact decide_eq_false fun q' => by rw [bytes_inj h1 h2 q', beq_self_eq_true] at q; injection q
theorem eqL_at {s : Shared} {A : Around} {f : Nat} (ih : ∀ x y u v c, DenW cf P b w x u → DenW cf P b w y v → eqV f x y = some c → EqAt A s u v c)
  (ihL : ∀ xs ys us vs c, DenLW cf P b w xs us → DenLW cf P b w ys vs → eqL f xs ys = some c → ∃ e : Nat → Bool, (∀ (j : Nat) (h1 : j < us.length) (h2 : j < vs.length), EqAt A s us[j] vs[j] (e j)) ∧ c = ((List.range (min us.length vs.length)).all e && us.length == vs.length))
  {xs ys : List V} {us vs : List Value} {c : Bool} (dx : DenLW cf P b w xs us) (dy : DenLW cf P b w ys vs) (e : eqL (f + 1) xs ys = some c) :
   ∃ e : Nat → Bool, (∀ (j : Nat) (h1 : j < us.length) (h2 : j < vs.length), EqAt A s us[j] vs[j] (e j)) ∧ c = ((List.range (min us.length vs.length)).all e && us.length == vs.length) := by
 cases xs with
 | nil =>
  obtain rfl := dx.nil_inv
  refine ⟨fun z_ => true, fun j h1 z_ => absurd h1 (Nat.not_lt_zero _), ?_⟩
  cases ys with
  | nil => obtain rfl := dy.nil_inv; exact (Option.some.inj e).symm
  | cons => obtain ⟨v, r, rfl, _⟩ := dy.cons_inv; rw [← Option.some.inj e, List.length_nil, Nat.zero_min]; rfl
 | cons x xs =>
  obtain ⟨u, us, rfl, d1, l1⟩ := dx.cons_inv
  cases ys with
  | nil =>
   obtain rfl := dy.nil_inv
   exact ⟨fun z_ => true, fun j z_ h1 => absurd h1 (Nat.not_lt_zero _), (Option.some.inj e).symm⟩
  | cons y ys =>
   obtain ⟨v, vs, rfl, d2, l2⟩ := dy.cons_inv
   rcases eqL_ne e with ⟨q, _⟩ | ⟨q, _⟩ | ⟨_, q, _⟩ | ⟨_, _, _, _, a, d, e1, e2, h1, h2, q⟩
   ·injection q
   ·injection q
   ·injection q
   ·injection e1 with e1 e1'
    injection e2 with e2 e2'
    subst e1 e1' e2 e2' q
    obtain ⟨ee, g1, g2⟩ := ihL _ _ _ _ d l1 l2 h2
    refine ⟨fun j => match j with | 0 => a | j + 1 => ee j, fun j k1 k2 => ?_, all_step g2⟩
    cases j with
    | zero => exact ih _ _ _ _ _ d1 d2 h1
    | succ j => exact g1 j (Nat.lt_of_succ_lt_succ k1) (Nat.lt_of_succ_lt_succ k2)
theorem eqV_at {s : Shared} (TE : TokEq cf P b) (S : St cf b s.heap w) : ∀ (f : Nat), (∀ (A : Around) x y u v c, A.units + f < cLine → DenW cf P b w x u → DenW cf P b w y v → eqV f x y = some c → EqAt A s u v c) ∧
  (∀ (A : Around) xs ys us vs c, A.units + f < cLine → DenLW cf P b w xs us → DenLW cf P b w ys vs → eqL f xs ys = some c →
   ∃ e : Nat → Bool, (∀ (j : Nat) (h1 : j < us.length) (h2 : j < vs.length), EqAt A s us[j] vs[j] (e j)) ∧ c = ((List.range (min us.length vs.length)).all e && us.length == vs.length)) := by
 intro f
 induction f with
 | zero => exact ⟨fun z_ z_ z_ z_ z_ z_ z_ z_ z_ e => (nomatch e), fun z_ z_ z_ z_ z_ z_ z_ z_ z_ e => (nomatch e)⟩
 | succ f ih =>
  refine ⟨fun A x y u v c hu dx dy e => ?_, fun A xs ys us vs c hu dx dy e => eqL_at (ih.1 A · · · · · (by omega)) (ih.2 A · · · · · (by omega)) dx dy e⟩
  have hu0 : A.units < cLine := by omega
  cases eqV_inv e with
  | none => obtain rfl := dx.inv; obtain rfl := dy.inv; exact EqAt.same _
  | bool => obtain rfl := dx.inv; obtain rfl := dy.inv; exact EqAt.bool_bool _ _
  | int =>
   obtain ⟨t, rfl⟩ := den_int dx
   obtain ⟨t', rfl⟩ := den_int dy
   exact EqAt.int_int _ _ _ _
  | str x y =>
   obtain ⟨t, rfl⟩ := den_str dx
   obtain ⟨t', rfl⟩ := den_str dy
   rw [← beq_strOf]
   exact EqAt.str_str _ _ _ _
  | st =>
   obtain ⟨t, rfl⟩ := den_str dx
   obtain ⟨a, vs, n, rfl, q1, l1⟩ := den_tup dy
   exact EqAt.str_tuple _ _ ⟨_, S.at_ q1, rfl, _, rfl⟩ hu0
  | sk =>
   obtain ⟨t, rfl⟩ := den_str dx
   obtain ⟨a, vs, n, rfl, q1⟩ := dy.inv.2.1 rfl
   exact EqAt.str_tuple _ _ ⟨_, S.at_ q1, rfl, _, rfl⟩ hu0
  | bytes x y =>
   obtain ⟨t, rfl, h1⟩ := den_bytes dx
   obtain ⟨t', rfl, h2⟩ := den_bytes dy
   rw [← beq_bytes h1 h2]
   exact fun prog wd E Q hq => W.eqBool_bytes hq
  | ts =>
   obtain ⟨t, rfl⟩ := den_str dy
   obtain ⟨a, vs, n, rfl, q1, l1⟩ := den_tup dx
   exact EqAt.tuple_str _ _ ⟨_, S.at_ q1, rfl, _, rfl⟩ hu0
  | ks =>
   obtain ⟨t, rfl⟩ := den_str dy
   obtain ⟨a, vs, n, rfl, q1⟩ := dx.inv.2.1 rfl
   exact EqAt.tuple_str _ _ ⟨_, S.at_ q1, rfl, _, rfl⟩ hu0
  | tok t i hf => exact TE s w A _ i u v S (by omega) dx.inv.1 dy.inv.1
  | tup e' =>
   obtain ⟨a, vs, n, rfl, q1, l1⟩ := den_tup dx
   obtain ⟨a', vs', n', rfl, q2, l2⟩ := den_tup dy
   by_cases hne : a = a'
   ·subst hne
    rw [(eqV_same S (f + 1)).1 _ _ _ _ dx dy e]
    exact EqAt.same _
   ·obtain ⟨ee, h1, h2⟩ := ih.2 A.in1 _ _ _ _ c (by show A.units + 1 + f < cLine; omega) l1 l2 e'
    rw [h2]
    exact EqAt.of_refs hne (RcAt.tuples (items := vs.toArray) (items2 := vs'.toArray) (e := ee) ⟨_, S.at_ q1, rfl, _, rfl⟩ ⟨_, S.at_ q2, rfl, _, rfl⟩ hu0 h1)
end
theorem Ok.lim (O : Ok cf P b A n stk fL en env s w σ) : A.units + 50 < cLine := by have := O.cx.un; have : cLine = 9900 := rfl; omega
theorem nilE_inv {xs ys : List V} {c : Bool} (e : nilE xs ys = some c) : (xs = [] ∧ ys = [] ∧ c = true) ∨ (xs.length ≠ ys.length ∧ c = false) := by
 cases xs with
 | nil => cases ys with
  | nil => exact .inl ⟨rfl, rfl, (Option.some.inj e).symm⟩
  | cons => exact .inr ⟨by simp, (Option.some.inj e).symm⟩
 | cons => cases ys with
  | nil => exact .inr ⟨by simp, (Option.some.inj e).symm⟩
  | cons => exact noS e
theorem cmpL_at (S : St cf b s.heap w) (L : Live cf P b w σ) {x y : V} {u v : Value} {xs ys : List V} {c : Bool} (hu0 : A.units < cLine) (dx : DenW cf P b w x u) (dy : DenW cf P b w y v) (e1 : isLst σ x = some xs) (e2 : isLst σ y = some ys) (e : nilE xs ys = some c) : RcAt A s u v c ∧ RcNeAt A s u v (!c) := by
 obtain ⟨a, vs, k, rfl, h1, h2⟩ := isLst_at S L dx e1
 obtain ⟨a', vs', k', rfl, h1', h2'⟩ := isLst_at S L dy e2
 have I1 : s.heap.IsList a vs.toArray := ⟨_, h1, rfl, _, rfl⟩
 have I2 : s.heap.IsList a' vs'.toArray := ⟨_, h1', rfl, _, rfl⟩
 rcases nilE_inv e with ⟨rfl, rfl, rfl⟩ | ⟨q, rfl⟩
 ·obtain rfl := h2.nil_inv
  obtain rfl := h2'.nil_inv
  exact ⟨RcAt.lists (e := fun z_ => true) I1 I2 rfl hu0 (fun j h1 z_ => absurd h1 (Nat.not_lt_zero _)), RcNeAt.lists (e := fun z_ => true) I1 I2 rfl hu0 (fun j h1 z_ => absurd h1 (Nat.not_lt_zero _))⟩
 ·rw [← h2.length, ← h2'.length] at q
  have q' : (vs.toArray.size != vs'.toArray.size) = true := bne_iff_ne.mpr q
  exact ⟨RcAt.lists_lengths I1 I2 q' hu0, RcNeAt.lists_lengths I1 I2 q' hu0⟩
theorem cmpE_at (TE : TokEq cf P b) (S : St cf b s.heap w) (L : Live cf P b w σ) {x y : V} {u v : Value} {c : Bool} (hu : A.units + 50 < cLine) (dx : DenW cf P b w x u) (dy : DenW cf P b w y v) (e : cmpE x y σ = some c) : RcAt A s u v c ∧ RcNeAt A s u v (!c) := by
 have hu0 : A.units < cLine := by omega
 unfold cmpE at e
 cases e1 : isLst σ x with
 | some xs =>
  rw [e1] at e
  obtain ⟨ys, e2, e⟩ := obe e
  exact cmpL_at S L hu0 dx dy e1 e2 e
 | none =>
 rw [e1] at e
 replace e : (match plainV x && plainV y with
  | true => eqV 40 x y
  | false => none) = some c := e
 cases hp : plainV x && plainV y with
 | false => rw [hp] at e; exact noS e
 | true =>
  rw [hp] at e
  replace e : eqV 40 x y = some c := e
  obtain ⟨p1, p2⟩ := Bool.and_eq_true_iff.mp hp
  clear hp e1 L
  cases eqV_inv e with
  | none => obtain rfl := dx.inv; obtain rfl := dy.inv; exact ⟨RcAt.none_none, RcNeAt.none_none⟩
  | bool => obtain rfl := dx.inv; obtain rfl := dy.inv; exact ⟨RcAt.bool_bool _ _, RcNeAt.bool_bool _ _⟩
  | int =>
   obtain ⟨t, rfl⟩ := den_int dx
   obtain ⟨t', rfl⟩ := den_int dy
   exact ⟨RcAt.int_int _ _ _ _, RcNeAt.int_int _ _ _ _⟩
  | str =>
   obtain ⟨t, rfl⟩ := den_str dx
   obtain ⟨t', rfl⟩ := den_str dy
   rw [← beq_strOf]
   exact ⟨RcAt.str_str _ _ _ _, RcNeAt.str_str _ _ _ _⟩
  | st =>
   obtain ⟨t, rfl⟩ := den_str dx
   obtain ⟨a, vs, n, rfl, q1, _⟩ := den_tup dy
   exact ⟨RcAt.str_tuple _ _ ⟨_, S.at_ q1, rfl, _, rfl⟩ hu0, RcNeAt.str_tuple _ _ ⟨_, S.at_ q1, rfl, _, rfl⟩ hu0⟩
  | ts =>
   obtain ⟨t, rfl⟩ := den_str dy
   obtain ⟨a, vs, n, rfl, q1, _⟩ := den_tup dx
   exact ⟨RcAt.tuple_str _ _ ⟨_, S.at_ q1, rfl, _, rfl⟩ hu0, RcNeAt.tuple_str _ _ ⟨_, S.at_ q1, rfl, _, rfl⟩ hu0⟩
  | tup e' =>
   obtain ⟨a, vs, n, rfl, q1, l1⟩ := den_tup dx
   obtain ⟨a', vs', n', rfl, q2, l2⟩ := den_tup dy
   obtain ⟨ee, h1, h2⟩ := (eqV_at TE S 39).2 A.in1 _ _ _ _ c (by show A.units + 1 + 39 < cLine; omega) l1 l2 e'
   rw [h2]
   exact ⟨RcAt.tuples (items := vs.toArray) (items2 := vs'.toArray) (e := ee) ⟨_, S.at_ q1, rfl, _, rfl⟩ ⟨_, S.at_ q2, rfl, _, rfl⟩ hu0 h1,
    RcNeAt.tuples (items := vs.toArray) (items2 := vs'.toArray) (e := ee) ⟨_, S.at_ q1, rfl, _, rfl⟩ ⟨_, S.at_ q2, rfl, _, rfl⟩ hu0 h1⟩
  | bytes => exact noB p1
  | tok => exact noB p1
  | sk => exact noB p2
  | ks => exact noB p1
noncomputable def askV (k : Nat) : Value → Bool
 | .str s _ => s == strOf k
 | _ => false
theorem strE_at (S : St cf b s.heap w) {k : Nat} {t : Tok} {x : V} {u : Value} {c : Bool} (hu : A.units < cLine) (d : DenW cf P b w x u) (e : strE k x = some c) : askV k u = c ∧ EqAt A s u (.str (strOf k) t) c := by
 have tp : ∀ {a vs n}, u = .ref a → At b w.fz a (tupOf (List.toArray vs) n) → c = false → askV k u = c ∧ EqAt A s u (.str (strOf k) t) c := fun h1 h2 h3 => by
  subst h1 h3
  exact ⟨rfl, EqAt.tuple_str _ _ ⟨_, S.at_ h2, rfl, _, rfl⟩ hu⟩
 cases x <;> try (exact noS e)
 ·obtain ⟨t', rfl⟩ := den_str d
  rw [← Option.some.inj e, ← beq_strOf]
  exact ⟨rfl, EqAt.str_str _ _ _ _⟩
 ·obtain ⟨a, vs, n, h1, h2, _⟩ := den_tup d
  exact tp h1 h2 (Option.some.inj e).symm
 ·cases t_1 with
  | false => exact noS e
  | true =>
   obtain ⟨a, vs, n, h1, h2⟩ := d.inv.2.1 rfl
   exact tp h1 h2 (Option.some.inj e).symm
theorem anyS_at (S : St cf b s.heap w) {k : Nat} (t : Tok) (hu : A.units < cLine) {xs : List V} {vs : List Value} {c : Bool} (d : DenLW cf P b w xs vs) (e : anyS k xs = some c) : vs.any (askV k) = c ∧ ∀ y ∈ vs, EqAt A s y (.str (strOf k) t) (askV k y) := by
 induction xs generalizing vs c with
 | nil => obtain rfl := d.nil_inv; exact ⟨Option.some.inj e, fun z_ h => nomatch h⟩
 | cons x xs ih =>
  obtain ⟨v, r, rfl, h, l⟩ := d.cons_inv
  cases h1 : strE k x with
  | none => unfold anyS at e; rw [h1] at e; exact noS e
  | some a =>
   unfold anyS at e
   rw [h1] at e
   obtain ⟨c', e', rfl⟩ := Option.map_eq_some_iff.mp e
   obtain ⟨g1, g2⟩ := ih l e'
   obtain ⟨g3, g4⟩ := strE_at (t := t) S hu h h1
   refine ⟨by rw [List.any_cons, g1, g3], fun y hy => ?_⟩
   rcases List.mem_cons.mp hy with rfl | hy
   ·rw [g3]; exact g4
   ·exact g2 y hy
theorem inE_at (hs : ∃ o, b.get? sysModules = some o) (S : St cf b s.heap w) (L : Live cf wd.params b w σ) {x y : V} {u v : Value} {c : Bool} (hu : A.units + 50 < cLine) (dx : DenW cf wd.params b w x u) (dy : DenW cf wd.params b w y v) (e : inE x y σ = some c) {Q E : VP} :
  ((∀ k, Q (.bool c) { s with toks := k }) → wpAny (model prog wd) A (compareOp .In u v) Q E s) ∧ ((∀ k, Q (.bool (!c)) { s with toks := k }) → wpAny (model prog wd) A (compareOp .NotIn u v) Q E s) := by
 obtain ⟨k, e2, e3⟩ := obe e
 clear e
 obtain rfl := strV_eq e2
 clear e2
 have e := e3
 clear e3
 obtain ⟨t, rfl⟩ := den_str dx
 cases e1 : dctOf σ y with
 | none =>
  rw [e1] at e
  obtain ⟨xs, e2, e⟩ := obe e
  obtain ⟨a, vs, m, rfl, h1, h2⟩ := seqOf_at S L dy e2
  obtain ⟨ha, he⟩ := anyS_at (A := A.in1) S t (by show A.units + 1 < cLine; omega) h2 e
  rw [← List.any_toArray] at ha
  rw [← ha]
  have he : ∀ z, z ∈ vs.toArray → EqAt A.in1 s z (.str (strOf k) t) (askV k z) := fun z hz => he z (List.mem_toArray.mp hz)
  rcases h1 with h1 | h1
  ·exact ⟨fun q => in_listAt _ ⟨_, h1, rfl, _, rfl⟩ he (q s.toks), fun q => notIn_listAt _ ⟨_, h1, rfl, _, rfl⟩ he (q s.toks)⟩
  ·exact ⟨fun q => in_tupleAt _ ⟨_, h1, rfl, _, rfl⟩ he (q s.toks), fun q => notIn_tupleAt _ ⟨_, h1, rfl, _, rfl⟩ he (q s.toks)⟩
 | some kvs =>
  rw [e1] at e
  obtain ⟨a, es, m, rfl, lo, h1, h2⟩ := dctOf_at S L hs dy e1
  obtain ⟨kv, p1, p2⟩ := h2.dictOf (prog := prog) (w := wd) (n := m) rfl
  have hv := p1.valueAt (k := k)
  have hc : (PySem.valueAt kv (strOf k)).isSome = c := by
   rw [← Option.some.inj e]
   cases q : lookN k kvs with
   | none => rw [q] at hv; dsimp only at hv; rw [hv]; rfl
   | some z => rw [q] at hv; dsimp only at hv; obtain ⟨z', g, _⟩ := hv; rw [g]; rfl
  rw [← hc]
  have D : s.heap.DictOf (strKind prog wd) a kv := Heap.dictOf_iff.mpr ⟨_, h1, p2⟩
  exact ⟨fun q => wpAny_in_of (strKind_is prog wd _ _) lo D.mapOf (q _), fun q => wpAny_notIn_of (strKind_is prog wd _ _) lo D.mapOf (q _)⟩
theorem den_nh {fz : Led} {rho : List Addr} {x : V} {u : Value} (d : Den cf P b fz rho x u) : handedIn u = true ∧ (isN x = some false → (u == Value.none) = false) := by
 cases d with
 | none => exact ⟨rfl, fun e => nomatch e⟩
 | tok _ _ g => exact ⟨g, fun e => nomatch e⟩
 | blt x => cases x <;> exact ⟨by first | rfl | decide, fun z_ => rfl⟩
 | typ x => cases x <;> exact ⟨rfl, fun z_ => rfl⟩
 | _ => exact ⟨rfl, fun z_ => rfl⟩
theorem isN_at {x : V} {u : Value} {c : Bool} (d : DenW cf P b w x u) (e : isN x = some c) : (u == Value.none) = c := by
 cases c with
 | true =>
  have : x = .none := by cases x <;> first | rfl | cases e
  subst this
  obtain rfl := d.inv
  rfl
 | false => exact (den_nh d).2 e
theorem map_not {o : Option Bool} {c : Bool} (e : o.map not = some c) : ∃ d, o = some d ∧ c = !d := by
 cases o with
 | none => exact noS e
 | some d => exact ⟨d, rfl, (Option.some.inj e).symm⟩
theorem int2_at {x y : V} {u v : Value} {c : Bool} {k : Int → Int → Bool} (dx : DenW cf P b w x u) (dy : DenW cf P b w y v) (e : int2 x y k = some c) : ∃ i j t t', u = .int i t ∧ v = .int j t' ∧ k i j = c := by
 obtain ⟨i, e1, e⟩ := obe e
 obtain ⟨j, e2, e⟩ := obe e
 obtain rfl := intV_eq e1
 obtain rfl := intV_eq e2
 obtain ⟨t, h1⟩ := den_int dx
 obtain ⟨t', h2⟩ := den_int dy
 exact ⟨i, j, t, t', h1, h2, Option.some.inj e⟩
theorem cmp_at (TE : TokEq cf wd.params b) (hs : ∃ o, b.get? sysModules = some o) (S : St cf b s.heap w) (L : Live cf wd.params b w σ) {op : CmpOp} {x y : V} {u v : Value} {c : Bool} (hu : A.units + 50 < cLine) (dx : DenW cf wd.params b w x u) (dy : DenW cf wd.params b w y v) (e : cmp op x y σ = some c) {Q E : VP}
  (q : ∀ k, Q (.bool c) { s with toks := k }) : wpAny (model prog wd) A (compareOp op u v) Q E s := by
 have q0 := q s.toks
 cases op with
 | Eq => exact (cmpE_at TE S L hu dx dy e).1 prog wd E Q q0
 | NotEq =>
  obtain ⟨d, h, rfl⟩ := map_not e
  exact (cmpE_at TE S L hu dx dy h).2 prog wd E Q q0
 | In => exact (inE_at hs S L hu dx dy e).1 q
 | NotIn =>
  obtain ⟨d, h, rfl⟩ := map_not e
  exact (inE_at hs S L hu dx dy h).2 q
 | Is =>
  obtain ⟨_, e1, e⟩ := obe e
  obtain rfl := noneV_eq e1
  obtain rfl := dy.inv
  rw [← isN_at dx e] at q0
  exact is_none q0
 | IsNot =>
  obtain ⟨_, e1, e⟩ := obe e
  obtain rfl := noneV_eq e1
  obtain rfl := dy.inv
  obtain ⟨d, h, rfl⟩ := map_not e
  rw [← isN_at dx h] at q0
  exact isNot_none q0
 | Lt => obtain ⟨i, j, t, t', rfl, rfl, rfl⟩ := int2_at dx dy e; exact lt_int q0
 | LtE => obtain ⟨i, j, t, t', rfl, rfl, rfl⟩ := int2_at dx dy e; exact le_int q0
 | Gt => obtain ⟨i, j, t, t', rfl, rfl, rfl⟩ := int2_at dx dy e; exact gt_int q0
 | GtE => obtain ⟨i, j, t, t', rfl, rfl, rfl⟩ := int2_at dx dy e; exact ge_int q0
theorem map_bool {o : Option Bool} {v : V} (h : o.map V.bool = some v) : ∃ c, o = some c ∧ v = .bool c := by
 cases o with
 | none => exact noS h
 | some c => exact ⟨c, rfl, (Option.some.inj h).symm⟩
theorem cmp_fin (TE : TokEq cf wd.params b) (hs : ∃ o, b.get? sysModules = some o) (O : Ok cf wd.params b A n stk fL en env s w σ) {op : CmpOp} {x y : V} {u v : Value} (dx : DenW cf wd.params b w x u) (dy : DenW cf wd.params b w y v) {Q E : VP}
  (f : Fin cf wd.params b fL s w (oko ((cmp op x y σ).map .bool) σ) Q E) : wpAny (model prog wd) A (compareOp op u v) Q E s := by
 obtain ⟨z, e, f⟩ := oko_ok f
 obtain ⟨c, h, rfl⟩ := map_bool e
 exact cmp_at TE hs O.st O.lv O.lim dx dy h fun k => Fin.ok f O.st (.refl _ _) O.lv (.bool _)
theorem mark_of {op : CmpOp} {e : PE} {sc : Scope} {x : Ex} (h : Er cf sc e x) : behindInMarks op e = false := pl_mark h.pl
theorem e_bin (H : SndE cf wd.params b (model prog wd) n r) (B : Bs cf K p loose mean mg mb wd.params b G) (ht : prog.given.tree = none) {op : Bop} {l e : PE} {x y : Ex} {pos : Pos} (O : Ok cf wd.params b A (n + 1) stk fL en env s w σ) (R1 : Er cf env.scope l x) (R2 : Er cf env.scope e y) :
  Tr cf wd.params b (model prog wd) A fL (eval (.BinOp l (opOf op) e pos) env) s w (step G r (.e en (.bin op x y) σ)) := fun Q E f =>
 wpAny_BinOp (Tr.bind (H O.down R1) f fun v σ1 w1 h1 tk1 val S e1 L d f => Tr.bind (H (O.down.to S e1 L) R2) f fun v2 σ2 w2 h2 tk2 val2 S2 e2 L2 d2 f => bin_ B ht ((O.to S e1 L).to S2 e2 L2) (d.ext e2) d2 f)
theorem e_cmp (TE : TokEq cf wd.params b) (H : SndE cf wd.params b (model prog wd) n r) (hs : ∃ o, b.get? sysModules = some o) {op : CmpOp} {l e : PE} {x y : Ex} {pos : Pos} (O : Ok cf wd.params b A (n + 1) stk fL en env s w σ) (R1 : Er cf env.scope l x) (R2 : Er cf env.scope e y) :
  Tr cf wd.params b (model prog wd) A fL (eval (.Compare l [op] [e] pos) env) s w (step G r (.e en (.cmp op x y) σ)) := fun Q E f =>
 wpAny_Compare1 (Tr.bind (H O.down R1) f fun v σ1 w1 h1 tk1 val S e1 L d f => Tr.bind (H (O.down.to S e1 L) R2) f fun v2 σ2 w2 h2 tk2 val2 S2 e2 L2 d2 f => cmp_fin TE hs ((O.to S e1 L).to S2 e2 L2) (d.ext e2) d2 f) (mark_of R2)
theorem oko_okT {o : Option V} {Q : Bool → Shared → Prop} {E : VP} (f : FinT cf P b fL s w (oko o σ) Q E) : ∃ v, o = some v ∧ FinT cf P b fL s w (.ok v σ) Q E := by
 cases o with
 | none => exact False.elim f
 | some v => exact ⟨v, rfl, f⟩
theorem t_cmp (TE : TokEq cf wd.params b) (H : SndE cf wd.params b (model prog wd) n r) (hs : ∃ o, b.get? sysModules = some o) {op : CmpOp} {l e : PE} {x y : Ex} {pos : Pos} (O : Ok cf wd.params b A (n + 1) stk fL en env s w σ) (R1 : Er cf env.scope l x) (R2 : Er cf env.scope e y) :
  TrT cf wd.params b (model prog wd) A fL (isTrue (.Compare l [op] [e] pos) env (eval (.Compare l [op] [e] pos) env)) s w (step G r (.e en (.cmp op x y) σ)) := fun Q E f =>
 wpAny_isTrue_Compare1 (Tr.bindT (H O.down R1) f fun v σ1 w1 h1 tk1 val S e1 L d f => Tr.bindT (H (O.down.to S e1 L) R2) f fun v2 σ2 w2 h2 tk2 val2 S2 e2 L2 d2 f => by
  obtain ⟨z, e, f⟩ := oko_okT f
  obtain ⟨c, h, rfl⟩ := map_bool e
  exact cmp_at TE hs S2 L2 O.lim (d.ext e2) d2 h fun k => wpAny_truthy_bool (FinT.ok f S2 (.refl _ _) L2)) (mark_of R2)
theorem e_cmp2 (TE : TokEq cf wd.params b) (H : SndE cf wd.params b (model prog wd) n r) (hs : ∃ o, b.get? sysModules = some o) {o p : CmpOp} {l m e : PE} {x y z : Ex} {pos : Pos} (O : Ok cf wd.params b A (n + 1) stk fL en env s w σ) (R1 : Er cf env.scope l x) (R2 : Er cf env.scope m y) (R3 : Er cf env.scope e z) :
  Tr cf wd.params b (model prog wd) A fL (eval (.Compare l [o, p] [m, e] pos) env) s w (step G r (.e en (.cmp2 o p x y z) σ)) := fun Q E f =>
 Compare_chain (rs := []) (ops := []) (Tr.bind (H O.down R1) f fun v σ1 w1 h1 tk1 val S e1 L d f => chain_link (Tr.bind (H (O.down.to S e1 L) R2) f fun v2 σ2 w2 h2 tk2 val2 S2 e2 L2 d2 f => by
  obtain ⟨c, h, f⟩ := f.need
  refine cmp_at TE hs S2 L2 O.lim (d.ext e2) d2 h fun k => wpAny_truthy_bool ?_
  cases c with
  | false => exact Fin.ok f S2 (.refl _ _) L2 (.bool _)
  | true => exact chain_last (Tr.bind (H ((O.down.to (tk1 := tk1) S e1 L).to S2 e2 L2) R3) f fun v3 σ3 w3 h3 tk3 val3 S3 e3 L3 d3 f => cmp_fin TE hs (((O.to (tk1 := tk1) S e1 L).to (tk1 := tk2) S2 e2 L2).to S3 e3 L3) (d2.ext e3) d3 f))) (by
  have := mark_of (op := p) R3
  show lastMarks [o, p] [m, e] = false
  simpa [lastMarks] using this)
theorem idx_pos {i : Int} {n k : Nat} (h : seqIndex? i n = some k) (h0 : 0 ≤ i) : k = i.toNat := by
 have hn : ¬ (i < 0) := by omega
 simp only [seqIndex?, hn, if_false] at h
 split at h
 ·obtain rfl := sI h; rfl
 ·exact noS h
theorem pick_invL {α : Type} {c : Bool} {x k : α} (h : (match c with | true => some x | false => none) = some k) : c = true ∧ x = k := by
 cases c with
 | true => exact ⟨rfl, Option.some.inj h⟩
 | false => exact noS h
theorem place_at {i : Int} {n k : Nat} (h : place i n = some k) : -(2 ^ 63) ≤ i ∧ i < 2 ^ 63 ∧ seqIndex? i n = some k ∧ k < n := by
 have key : ∃ j, j < n ∧ j < 1000000 ∧ ((i = (j : Int) ∧ k = j) ∨ (i = -((j : Int) + 1) ∧ k = n - (j + 1))) := by
  cases i with
  | ofNat j =>
   obtain ⟨h1, rfl⟩ := pick_invL h
   obtain ⟨h1, h2⟩ := Bool.and_eq_true_iff.mp h1
   exact ⟨j, nle h1, nle h2, .inl ⟨rfl, rfl⟩⟩
  | negSucc j =>
   obtain ⟨h1, rfl⟩ := pick_invL h
   obtain ⟨h1, h2⟩ := Bool.and_eq_true_iff.mp h1
   exact ⟨j, nle h1, nle h2, .inr ⟨rfl, rfl⟩⟩
 obtain ⟨j, h1, h2, key⟩ := key
 have hr : -(2 ^ 63) ≤ i ∧ i < 2 ^ 63 ∧ (if i < 0 then i + n else i) = (k : Int) ∧ k < n := by split <;> omega
 refine ⟨hr.1, hr.2.1, ?_, hr.2.2.2⟩
 unfold seqIndex?
 dsimp only
 rw [hr.2.2.1, if_pos (by rw [decide_eq_true (Int.natCast_nonneg k), decide_eq_true (Int.ofNat_lt.mpr hr.2.2.2)]; rfl), Int.toNat_natCast]
theorem plain_sub {o i : Value} {slice : PE} (h : isSlice slice = false) : subscripted slice false o i = operate [o, i] (getItem o i) := by cases slice <;> first | rfl | injection h
theorem chr1_inv {o : Option Nat} {z : V} (e : chr1 o = some z) : ∃ d, o = some (d + 1) ∧ z = .str (d + 1) := by
 cases o with
 | none => exact noS e
 | some d => cases d with
  | zero => exact noS e
  | succ d => exact ⟨d, rfl, (Option.some.inj e).symm⟩
theorem dec_one {d : Nat} (h : d + 1 < 256) : dec (d + 1) = [d + 1] :=
 dec_encL (l := [d + 1]) ⟨fun x hx => by rw [List.mem_singleton.mp hx]; exact h, fun x hx => by obtain rfl := sI hx; exact Nat.succ_ne_zero d⟩
theorem sub_str {c : Nat} {tt t : Tok} {i : Int} {k : Nat} {z : V} (e2 : place i (slen c) = some k) (e : chr1 (dec c)[k]? = some z) {value slice : PE} (hsl : isSlice slice = false) {Q E : VP}
  (q : ∀ k val, DenW cf wd.params b w z val → Q val { s with toks := k }) : wpAny (model prog wd) A (subscriptTail value slice (.str (strOf c) tt) (.int i t)) Q E s := by
 obtain ⟨d, hd, rfl⟩ := chr1_inv e
 obtain ⟨p1, p2, p3, p4⟩ := place_at e2
 have hdec := dec_one ((dec_canon c).1 _ (List.mem_of_getElem? hd))
 have hst : strOf (d + 1) = ⟨#[d + 1]⟩ := by unfold strOf; rw [hdec]
 refine subscriptTail_builtinR (T := "str") (typeIs_str s _ _) F.slot_str_getitem.lookup (PySem.P.getItem_str (Q := fun r s' => r = .str (strOf (d + 1)) s.toks ∧ Q r s') (c := d + 1) (by rw [decide_eq_false (Int.not_lt.mpr p1), decide_eq_false (Int.not_le.mpr p2)]; rfl) ?_ ⟨by rw [hst], by rw [← hst]; exact q _ _ (.str _ _)⟩) (plain_sub hsl)
 rw [strOf_length, p3]
 exact (List.getElem?_toArray ..).trans hd
theorem sub_seq (S : St cf b s.heap w) (L : Live cf wd.params b w σ) {x z : V} {u : Value} {t : Tok} {i : Int} {k : Nat} {xs : List V} (dx : DenW cf wd.params b w x u) (e1 : seqOf σ x = some xs) (e2 : place i xs.length = some k) (e : xs[k]? = some z) {value slice : PE} (hsl : isSlice slice = false) {Q E : VP}
  (q : ∀ k val, DenW cf wd.params b w z val → Q val { s with toks := k }) : wpAny (model prog wd) A (subscriptTail value slice u (.int i t)) Q E s := by
 obtain ⟨a, vs, m, rfl, h1, h2⟩ := seqOf_at S L dx e1
 obtain ⟨p1, p2, p3, p4⟩ := place_at e2
 obtain ⟨val, g1, g2⟩ := h2.get e
 rw [← h2.length] at p3
 have q' : (fun r s' => r = val ∧ Q r s') val s := ⟨rfl, q s.toks _ g2⟩
 have g1' : vs.toArray[k]? = some val := (List.getElem?_toArray ..).trans g1
 rcases h1 with h1 | h1
 ·have I : s.heap.IsList a vs.toArray := ⟨_, h1, rfl, _, rfl⟩
  refine subscriptTail_builtinR (x := val) I.typeIs slot_list_getitem.lookup ?_ (plain_sub hsl)
  by_cases h0 : 0 ≤ i
  ·obtain rfl := idx_pos p3 h0
   exact wpAny_getItem_list I h0 p2 g1' q'
  ·exact W.kde_getNeg I (Int.not_le.mp h0) p1 p3 g1 q'
 ·exact subscriptTail_builtinR (T := "tuple") ⟨_, h1, rfl⟩ F.slot_tuple_getitem.lookup (PySem.P.getItem_tuple h1 p1 p2 p3 g1' q') (plain_sub hsl)
theorem sub_at (hs : ∃ o, b.get? sysModules = some o) (S : St cf b s.heap w) (L : Live cf wd.params b w σ) {x y z : V} {u v : Value} (dx : DenW cf wd.params b w x u) (dy : DenW cf wd.params b w y v) (e : sub x y σ = some z) {value slice : PE} (hsl : isSlice slice = false) {Q E : VP}
  (q : ∀ k val, DenW cf wd.params b w z val → Q val { s with toks := k }) : wpAny (model prog wd) A (subscriptTail value slice u v) Q E s := by
 unfold sub at e
 cases ey : intV y with
 | some i =>
  rw [ey] at e
  dsimp only at e
  obtain rfl := intV_eq ey
  obtain ⟨t, rfl⟩ := den_int dy
  cases ex : strV x with
  | some c =>
   rw [ex] at e
   obtain rfl := strV_eq ex
   obtain ⟨tt, rfl⟩ := den_str dx
   obtain ⟨k, e2, e3⟩ := obe e
   exact sub_str e2 e3 hsl q
  | none =>
   rw [ex] at e
   obtain ⟨xs, e1, e2⟩ := obe e
   obtain ⟨k, e2, e3⟩ := obe e2
   exact sub_seq S L dx e1 e2 e3 hsl q
 | none =>
  rw [ey] at e
  obtain ⟨k, e1, e2⟩ := obe e
  obtain ⟨kvs, e2, e3⟩ := obe e2
  obtain rfl := strV_eq e1
  obtain ⟨a, es, m, rfl, lo, h1, h2⟩ := dctOf_at S L hs dx e2
  obtain ⟨kv, p1, p2⟩ := h2.dictOf (prog := prog) (w := wd) (n := m) rfl
  obtain ⟨t, rfl⟩ := den_str dy
  have hv := p1.valueAt (k := k)
  rw [e3] at hv
  obtain ⟨val, g1, g2⟩ := hv
  have D : s.heap.DictOf (strKind prog wd) a kv := Heap.dictOf_iff.mpr ⟨_, h1, p2⟩
  exact subscriptTail_builtinR (T := "dict") D.typeIs slot_dict_getitem.lookup (wpAny_getItem_of (Q := fun r s' => r = val ∧ Q r s') (strKind_is prog wd _ _) D.mapOf g1 ⟨rfl, q _ _ g2⟩) (plain_sub hsl)
theorem e_sub (H : SndE cf wd.params b (model prog wd) n r) (hs : ∃ o, b.get? sysModules = some o) {o i : PE} {x y : Ex} {pos : Pos} (O : Ok cf wd.params b A (n + 1) stk fL en env s w σ) (R1 : Er cf env.scope o x) (R2 : Er cf env.scope i y) (hsl : isSlice i = false) :
  Tr cf wd.params b (model prog wd) A fL (eval (.Subscript o i pos) env) s w (step G r (.e en (.sub x y) σ)) := fun Q E f =>
 Subscript_ (Tr.bind (H O.down R1) f fun v σ1 w1 h1 tk1 val S e1 L d f => Tr.bind (H (O.down.to S e1 L) R2) f fun v2 σ2 w2 h2 tk2 val2 S2 e2 L2 d2 f => by
  obtain ⟨z, e, f⟩ := oko_ok f
  exact sub_at hs S2 L2 (d.ext e2) d2 e hsl fun k val dv => Fin.ok f S2 (.refl _ _) L2 dv)
noncomputable def clipO (d : Nat) (n : Nat) : Option Int → Nat
 | none => d
 | some i => clipAt n i
theorem adjust_plain (lo hi : Option Int) (n : Nat) : Builtin.Slice.sliceAdjust lo hi 1 (n : Int) = (((clipO 0 n lo : Nat) : Int), ((clipO n n hi : Nat) : Int)) := by
 unfold Builtin.Slice.sliceAdjust
 have h1 : ¬ ((1 : Int) < 0) := by omega
 simp only [h1, if_false]
 congr 1
 ·cases lo with
  | none => rfl
  | some i =>
   show _ = ((clipAt n i : Nat) : Int)
   rw [clipAt_cast]
   dsimp only
   split <;> omega
 ·cases hi with
  | none => rfl
  | some i =>
   show _ = ((clipAt n i : Nat) : Int)
   rw [clipAt_cast]
   dsimp only
   split <;> omega
theorem places_plain (a c : Nat) : Builtin.Slice.slicePlaces (a : Int) (c : Int) 1 = c - a := by
 unfold Builtin.Slice.slicePlaces
 have h1 : (1 : Int) > 0 := by omega
 simp only [h1, if_true, Int.ediv_one]
 split <;> omega
theorem pick_plain (xs : Array Value) (a k : Nat) : ((List.range k).filterMap fun (j : Nat) => xs[((a : Int) + (j : Int) * 1).toNat]?).toArray = ((xs.toList.drop a).take k).toArray := by
 have e : (fun (j : Nat) => xs[((a : Int) + (j : Int) * 1).toNat]?) = fun j => xs[a + j]? := by
  funext j
  have : ((a : Int) + (j : Int) * 1).toNat = a + j := by omega
  rw [this]
 rw [e]
 have := pick_run xs a k
 rw [List.filterMap_map] at this
 exact congrArg List.toArray this
theorem part_at {v : Value} {o : Option Int} {Q : Option Int → Shared → Prop} (h : IsPart v o) (q : Q o s) : wpAny (model prog wd) A (Builtin.Slice.slicePartIndex v) Q E s := by
 cases h with
 | none => exact slicePart_none q
 | int i t => exact slicePart_int q
theorem applied_plain {sl : Addr} {vl vu : Value} {lo hi : Option Int} {n : Nat} {Q : Int × Int × Nat → Shared → Prop} (hs : s.heap.IsSliceOf sl vl vu .none) (pl : IsPart vl lo) (pu : IsPart vu hi) (h : Q (((clipO 0 n lo : Nat) : Int), 1, clipO n n hi - clipO 0 n lo) s) :
  wpAny (model prog wd) A (Builtin.Slice.sliceApplied (.ref sl) (pure (n : Int))) Q E s := by
 obtain ⟨os, hos, hcs, hds⟩ := id hs
 unfold Builtin.Slice.sliceApplied Builtin.Slice.sliceFields
 refine wpAny_bind (wpAny_bind (wpAny_field hos hds (x := vl) rfl (wpAny_bind (wpAny_field hos hds (x := vu) rfl (wpAny_bind (wpAny_field hos hds (x := .none) rfl (wpAny_pure ?_)))))))
 refine wpAny_bind (slicePart_none ?_)
 show wpAny _ _ (if ((1 : Int) == 0) = true then _ else _) _ _ s
 rw [if_neg (by decide)]
 refine wpAny_bind (part_at pl (wpAny_bind (part_at pu (wpAny_bind (wpAny_pure ?_)))))
 show wpAny _ _ (match Builtin.Slice.sliceAdjust lo hi 1 (n : Int) with | (lo, hi) => pure (lo, (1 : Int), Builtin.Slice.slicePlaces lo hi 1)) _ _ s
 rw [adjust_plain]
 show wpAny _ _ (pure (_, (1 : Int), Builtin.Slice.slicePlaces _ _ 1)) _ _ s
 rw [places_plain]
 exact wpAny_pure h
theorem tuple_slice {t sl : Addr} {items : Array Value} {vl vu : Value} {lo hi : Option Int} {Q : VP} (ht : IsTup s.heap t items) (hs : s.heap.IsSliceOf sl vl vu .none) (pl : IsPart vl lo) (pu : IsPart vu hi)
  (h1 : (items.toList.drop (clipO 0 items.size lo)).take (clipO items.size items.size hi - clipO 0 items.size lo) = items.toList → Q (.ref t) s)
  (h2 : Q (.ref s.heap.objs.size) { s with heap := s.heap.push { cls := .type "tuple", data := .seq ((items.toList.drop (clipO 0 items.size lo)).take (clipO items.size items.size hi - clipO 0 items.size lo)).toArray } })
  (hsz : items.size ≤ sizeLine) : wpAny (model prog wd) A (getItem (.ref t) (.ref sl)) Q E s := by
 generalize ha : clipO 0 items.size lo = a at h1 h2
 generalize hk : clipO items.size items.size hi - a = k at h1 h2
 have hdrop : sizeOk (.seq ((items.toList.drop a).take k).toArray) := by
  show ((items.toList.drop a).take k).toArray.size ≤ sizeLine
  rw [List.size_toArray, List.length_take, List.length_drop, Array.length_toList]
  omega
 obtain ⟨os, hos, hcs, hds⟩ := id hs
 have hTs : s.TypeIs (.ref sl) "slice" := ⟨os, hos, hcs⟩
 unfold getItem
 try with_reducible refine wpAny_holding ?_
 first | refine wpAny_bind (wpAny_pure ?_) | skip
 refine wpAny_bind (wpAny_sequenceKey ht.typeIs (by decide) ?_)
 refine wpAny_bind (wpAny_callSpecial?_slot (name := Str.ofString "__getitem__") ht.typeIs slot_tuple_getitem
  (wpAny_call_entry slot_tuple_getitem ht.typeIs entry_tuple_getitem ?_ (args_tuple_getitem _ _)))
 show wpAny _ _ (Builtin.Tuple.tupleItemsOf (.ref t) >>= _) _ _ s
 refine wpAny_bind (tupleItemsOf_ ht ?_)
 refine wpAny_bind (wpAny_typeOf hTs ?_)
 rw [if_pos (by decide)]
 refine wpAny_bind (applied_plain hs pl pu ?_)
 rw [ha, hk]
 show wpAny _ _ (if ((a : Int) == 0 && (1 : Int) == 1 && k == items.size) = true then _ else _) _ _ s
 by_cases hw : ((a : Int) == 0 && (1 : Int) == 1 && k == items.size) = true
 ·rw [if_pos hw]
  have hw' := hw
  simp only [Bool.and_eq_true, beq_iff_eq] at hw'
  have ha0 : a = 0 := by omega
  have hk0 : k = items.size := hw'.2
  have hQ := h1 (by rw [ha0, hk0, List.drop_zero]; exact List.take_of_length_le (by simp))
  unfold Builtin.Tuple.tupleIsExact
  refine wpAny_bind (wpAny_bind (wpAny_typeOf ht.typeIs (wpAny_pure ?_)))
  show wpAny _ _ (if ((Value.type "tuple") == Value.type "tuple") = true then _ else _) _ _ s
  rw [if_pos (by decide)]
  first
   | exact wpAny_bind (wpAny_rule (wpAny_pure ⟨_, rfl, wpAny_pure hQ⟩))
   | exact wpAny_bind (wpAny_rule (wpAny_bind (wpAny_pure (wpAny_pure ⟨_, rfl, wpAny_pure hQ⟩))))
   | exact wpAny_bind (wpAny_rule (wpAny_pure (wpAny_pure ⟨_, rfl, wpAny_pure hQ⟩)))
 ·rw [if_neg hw, pick_plain items a k]
  first
   | exact wpAny_bind (m := Builtin.Tuple.tupleExact _) (wpAny_newObj_type (wpAny_pure ⟨_, rfl, wpAny_pure h2⟩) hdrop)
   | exact wpAny_bind (m := Builtin.Tuple.tupleExact _) (wpAny_newObj_type (wpAny_bind (wpAny_pure (wpAny_pure ⟨_, rfl, wpAny_pure h2⟩))) hdrop)
   | exact wpAny_bind (wpAny_bind (m := Builtin.Tuple.tupleExact _) (wpAny_newObj_type (wpAny_pure (wpAny_pure ⟨_, rfl, wpAny_pure h2⟩)) hdrop))
   | exact wpAny_bind (wpAny_bind (m := Builtin.Tuple.tupleExact _) (wpAny_newObj_type (wpAny_pure ⟨_, rfl, wpAny_pure h2⟩) hdrop))
theorem tail_slice {value : PE} {l u : Option PE} {pp : Pos} {o i : Value} {T id : String} {Q : VP} (hT : s.TypeIs o T)
  (hl : typeLookup (.type T) "__getitem__" = pure (some (.builtin id))) (h : wpAny (model prog wd) A (getItem o i) Q E s) :
  wpAny (model prog wd) A (subscriptTail value (.Slice l u none pp) o i) Q E s := by
 unfold subscriptTail
 refine wpAny_bind ?_
 rw [getitemInPython_of_ne hT.not_modules]
 refine wpAny_bind (wpAny_specialOf hT hl ?_)
 have fin : wpAny (model prog wd) A (subscripted (.Slice l u none pp) false o i) (fun r s₃ => wpAny (model prog wd) A (letTemporaryGo value o r >>= fun z_ => pure r) Q E s₃) E s := by
  show wpAny (model prog wd) A (operate [i, o] (getItem o i)) _ E s
  exact wpAny_operating (wpAny_mono h (fun r s₃ h₃ => wpAny_bind (wpAny_letTemporaryGo (wpAny_pure h₃))) fun z_ z_ x => x)
 first
  | exact wpAny_pure (wpAny_bind fin)
  | exact wpAny_bind (wpAny_pure (wpAny_bind fin))
  | exact wpAny_bind fin
theorem first_index {len : Nat} (h : 1 ≤ len) : Builtin.Str.strSliceIndices none (some 1) 1 len = [0] := by
 unfold Builtin.Str.strSliceIndices
 have h1 : (1 : Int) > 0 := by omega
 have h2 : ¬ ((1 : Int) < 0) := by omega
 have h3 : max 0 (min (1 : Int) (len : Int)) = ((1 : Nat) : Int) := by omega
 simp only [h1, h2, if_true, if_false, h3]
 have := sliceRange_one 0 1
 simpa using this
theorem clip_bnd (n : Nat) (i : Int) : clipAt n i = bnd i n := by
 cases i with
 | ofNat k => exact clipAt_nat n k
 | negSucc k =>
  have e : Int.negSucc k = -((k + 1 : Nat) : Int) := by rw [Int.negSucc_eq]; omega
  rw [e, clipAt_neg n (k + 1) (by omega)]
  rw [← e]
  rfl
theorem lo_of (n : Nat) (o : Option Int) : clipO 0 n o = lo_ o n := by cases o <;> first | rfl | exact clip_bnd _ _
theorem hi_of (n : Nat) (o : Option Int) : clipO n n o = hi_ o n := by cases o <;> first | rfl | exact clip_bnd _ _
theorem pick_lo_hi (items : Array Value) (lo hi : Option Int) : slicePick items lo hi none = ((items.toList.drop (lo_ lo items.size)).take (hi_ hi items.size - lo_ lo items.size)).toArray := by
 rw [slicePick_plain, ← lo_of, ← hi_of]
 cases lo <;> cases hi <;> rfl
theorem cutV_some {l h : Option Int} {xs ys : List V} (e : cutV l h xs = some ys) : xs.length ≤ 1000000 ∧ (xs.drop (lo_ l xs.length)).take (hi_ h xs.length - lo_ l xs.length) = ys := by
 obtain ⟨hc, h⟩ := pick_invL e
 exact ⟨nle hc, h⟩
theorem one1_eq {l h : Option Int} (e : one1 l h = true) : l = none ∧ h = some 1 := by
 cases l with
 | some => exact noB e
 | none => cases h with
  | none => exact noB e
  | some i => exact ⟨rfl, congrArg some (of_decide_eq_true e)⟩
theorem part_of {v : V} {val : Value} {o : Option Int} (d : DenW cf P b w v val) (e : bndV v = some o) : IsPart val o := by
 cases v <;> try (exact noS e)
 ·obtain rfl := sI e; obtain rfl := d.inv; exact .none
 ·obtain rfl := sI e; obtain ⟨t, rfl⟩ := den_int d; exact .int _ _
noncomputable def SlQ (cf : Cfg) (P : Params) (b : Heap) (s : Shared) (w : Wd) (σ : Store) (z : V) (Q : VP) : Prop :=
 ∀ k w' h' val, St cf b h' w' → Ext [] w w' → Live cf P b w' σ → DenW cf P b w' z val → Q val { s with heap := h', toks := k }
theorem slc_lst (S : St cf b s.heap w) (L : Live cf wd.params b w σ) {x : V} {xs ys : List V} {u vl vu : Value} {lo hi : Option Int} {sl : Addr} (dx : DenW cf wd.params b w x u) (e1 : isLst σ x = some xs) (e2 : cutV lo hi xs = some ys)
  (hs : s.heap.IsSliceOf sl vl vu .none) (pl : IsPart vl lo) (pu : IsPart vu hi) {value : PE} {l1 u1 : Option PE} {pp : Pos} {Q E : VP} (q : SlQ cf wd.params b s w σ (.lst ys) Q) :
  wpAny (model prog wd) A (subscriptTail value (.Slice l1 u1 none pp) u (.ref sl)) Q E s := by
 obtain ⟨hz, rfl⟩ := cutV_some e2
 obtain ⟨a, vs, m, rfl, h1, h2⟩ := isLst_at S L dx e1
 have I : s.heap.IsList a vs.toArray := ⟨_, h1, rfl, _, rfl⟩
 have hl := h2.length
 rw [← hl] at hz q
 refine tail_slice I.typeIs list_getitem_lookup (wpAny_getItem_list_slice I hs pl pu .none (by simp) ?_ (Nat.le_trans hz (by decide)))
 rw [pick_lo_hi]
 exact q s.toks _ _ _ (S.addF (fun z_ z_ e => gps _ e) (size_none _) (Heap.get?_push_size s.heap rfl)) ext_addF L.addF (.lst (n := 0) (.inl (.head _)) (DenL.take _ (DenL.drop _ (DenLW.ext (own := []) h2 ext_addF))))
theorem slc_tup (S : St cf b s.heap w) (L : Live cf wd.params b w σ) {xs ys : List V} {u vl vu : Value} {lo hi : Option Int} {sl : Addr} (dx : DenW cf wd.params b w (.tup xs) u) (e2 : cutV lo hi xs = some ys)
  (hs : s.heap.IsSliceOf sl vl vu .none) (pl : IsPart vl lo) (pu : IsPart vu hi) {value : PE} {l1 u1 : Option PE} {pp : Pos} {Q E : VP} (q : SlQ cf wd.params b s w σ (.tup ys) Q) :
  wpAny (model prog wd) A (subscriptTail value (.Slice l1 u1 none pp) u (.ref sl)) Q E s := by
 obtain ⟨hz, rfl⟩ := cutV_some e2
 obtain ⟨a, vs, m, rfl, h1, h2⟩ := den_tup dx
 have I : IsTup s.heap a vs.toArray := ⟨_, S.at_ h1, rfl, _, rfl⟩
 have hl := h2.length
 have hD := DenL.take (hi_ hi xs.length - lo_ lo xs.length) (DenL.drop (lo_ lo xs.length) h2)
 rw [← hl] at hz q hD
 refine tail_slice (T := "tuple") I.typeIs F.slot_tuple_getitem.lookup (tuple_slice I hs pl pu (fun hw => ?_) ?_ (Nat.le_trans hz (by decide)))
 ·rw [lo_of, hi_of] at hw
  rw [show List.take (hi_ hi vs.length - lo_ lo vs.length) (List.drop (lo_ lo vs.length) vs) = vs from hw] at hD
  exact q _ _ _ _ S (.refl _ _) L (.tup h1 hD)
 ·rw [lo_of, hi_of]
  exact q s.toks _ _ _ (S.addF (fun z_ z_ e => gps _ e) (size_none _) (Heap.get?_push_size s.heap rfl)) ext_addF L.addF (.tup (n := 0) (.inl (.head _)) (DenLW.ext (own := []) hD ext_addF))
theorem dec_first {c d : Nat} (hc : c % 256 = d + 1) : dec c = (d + 1) :: dec (c / 256) := by
 cases c with
 | zero => cases hc
 | succ c =>
  have e0 : dec (c + 1) = (c + 1) % 256 :: decF (c + 1) ((c + 1) / 256) := rfl
  rw [e0, hc]
  have lt : (c + 1) / 256 < c + 1 := Nat.div_lt_self (Nat.succ_pos c) (by decide)
  rw [← dec_encL (decF_canon (c + 1) ((c + 1) / 256) lt), encL_decF (c + 1) ((c + 1) / 256) lt]
theorem slc_str (S : St cf b s.heap w) (L : Live cf wd.params b w σ) {c : Nat} {t : Tok} {vl vu : Value} {sl : Addr} {z : V} (e : chr1 (some (c % 256)) = some z)
  (hs : s.heap.IsSliceOf sl vl vu .none) (pl : IsPart vl none) (pu : IsPart vu (some 1)) {value : PE} {l1 u1 : Option PE} {pp : Pos} {Q E : VP} (q : SlQ cf wd.params b s w σ z Q) :
  wpAny (model prog wd) A (subscriptTail value (.Slice l1 u1 none pp) (.str (strOf c) t) (.ref sl)) Q E s := by
 obtain ⟨d, hc, rfl⟩ := chr1_inv e
 have hc := Option.some.inj hc
 cases pl
 cases pu with
 | int _ tu =>
 have hdec := dec_one (d := d) (hc ▸ Nat.mod_lt c (by decide))
 have hst : strOf (d + 1) = ⟨#[d + 1]⟩ := by unfold strOf; rw [hdec]
 have hcs := dec_first hc
 have hcc : (strOf c).cps = ((d + 1) :: dec (c / 256)).toArray := by unfold strOf; rw [hcs]
 have hlen : (strOf c).length = (dec (c / 256)).length + 1 := by rw [strOf_length]; unfold slen; rw [hcs]; rfl
 refine tail_slice (T := "str") (typeIs_str s _ _) F.slot_str_getitem.lookup (wpAny_getItem_str_slice (l := none) (u := some (1, tu)) (st := none) hs rfl ?_)
 unfold sliceMade slicePicked
 show Made.post (if (((1 : Int) == 1) && (Builtin.Str.strSliceIndices none (some 1) 1 (strOf c).length).length == (strOf c).length) = true then _ else .str ⟨((Builtin.Str.strSliceIndices none (some 1) 1 (strOf c).length).filterMap ((strOf c).cps[·]?)).toArray⟩) Q s
 rw [first_index (hlen ▸ Nat.succ_pos _)]
 by_cases hw : (((1 : Int) == 1) && ([0] : List Nat).length == (strOf c).length) = true
 ·rw [if_pos hw]
  have hlen1 := eq_of_beq (Bool.and_eq_true_iff.mp hw).2
  have hnil : dec (c / 256) = [] := List.length_eq_zero_iff.mp (Nat.succ.inj (hlen1.trans hlen)).symm
  have : strOf c = strOf (d + 1) := by unfold strOf; rw [hcs, hnil, hdec]
  rw [this]
  exact q _ _ _ _ S (.refl _ _) L (.str _ _)
 ·rw [if_neg hw, hcc]
  have : (⟨(([0] : List Nat).filterMap (((d + 1) :: dec (c / 256)).toArray[·]?)).toArray⟩ : Str) = strOf (d + 1) := hst.symm
  rw [this]
  exact ⟨by rw [hst]; show 1 ≤ sizeLine; decide, q _ _ _ _ S (.refl _ _) L (.str _ _)⟩
theorem slc_at (S : St cf b s.heap w) (L : Live cf wd.params b w σ) {x z : V} {u vl vu : Value} {lo hi : Option Int} {sl : Addr} (dx : DenW cf wd.params b w x u) (e : slc x lo hi σ = some z)
  (hs : s.heap.IsSliceOf sl vl vu .none) (pl : IsPart vl lo) (pu : IsPart vu hi) {value : PE} {l1 u1 : Option PE} {pp : Pos} {Q E : VP} (q : SlQ cf wd.params b s w σ z Q) :
  wpAny (model prog wd) A (subscriptTail value (.Slice l1 u1 none pp) u (.ref sl)) Q E s := by
 unfold slc at e
 cases ex : strV x with
 | some c =>
  rw [ex] at e
  obtain rfl := strV_eq ex
  obtain ⟨t, rfl⟩ := den_str dx
  dsimp only at e
  cases e1 : one1 lo hi with
  | false => rw [e1] at e; exact noS e
  | true =>
   rw [e1] at e
   obtain ⟨rfl, rfl⟩ := one1_eq e1
   exact slc_str S L e hs pl pu q
 | none =>
  rw [ex] at e
  dsimp only at e
  cases et : tupV x with
  | some xs =>
   rw [et] at e
   obtain rfl := tupV_eq et
   obtain ⟨ys, e1, rfl⟩ := Option.map_eq_some_iff.mp e
   exact slc_tup S L dx e1 hs pl pu q
  | none =>
   rw [et] at e
   obtain ⟨xs, e1, e⟩ := obe e
   obtain ⟨ys, e2, rfl⟩ := Option.map_eq_some_iff.mp e
   exact slc_lst S L dx e1 e2 hs pl pu q
theorem part_tr (H : SndE cf wd.params b (model prog wd) n r) {l : Option PE} {x : Option Ex} (O : Ok cf wd.params b A n stk fL en env s w σ) (R : ErO cf env.scope l x) :
  Tr cf wd.params b (model prog wd) A fL (evalPart l env) s w (optE r en x σ) := fun Q E f => by
 cases l with
 | none => cases x with
  | none => exact wpAny_pure (Fin.ok f O.st (.refl _ _) O.lv .none)
  | some => cases R.length
 | some e => cases x with
  | none => cases R.length
  | some x =>
   obtain ⟨_, _, q, R, _⟩ := R.cons_inv
   injection q with j1 j2; subst j1; subst j2
   exact H O R Q E f
theorem e_slc (H : SndE cf wd.params b (model prog wd) n r) {o : PE} {l u : Option PE} {x : Ex} {y z : Option Ex} {pp pos : Pos} (O : Ok cf wd.params b A (n + 1) stk fL en env s w σ) (R1 : Er cf env.scope o x) (R2 : ErO cf env.scope l y) (R3 : ErO cf env.scope u z) :
  Tr cf wd.params b (model prog wd) A fL (eval (.Subscript o (.Slice l u none pp) pos) env) s w (step G r (.e en (.slc x y z) σ)) := fun Q E f => by
 refine Subscript_ (Tr.bind (H O.down R1) f fun v σ1 w1 h1 tk1 val S e1 L d f => wpAny_Slice ?_)
 refine Tr.bind (part_tr @H (O.down.to S e1 L) R2) f fun v2 σ2 w2 h2 tk2 val2 S2 e2 L2 d2 f => ?_
 refine Tr.bind (part_tr @H ((O.down.to (tk1 := tk1) S e1 L).to S2 e2 L2) R3) f fun v3 σ3 w3 h3 tk3 val3 S3 e3 L3 d3 f => ?_
 have hk : ∀ (o : Obj) a o', h3.get? a = some o' → (h3.push o).get? a = some o' := fun o a o' e => gps _ e
 rw [evalPart_none]
 refine wpAny_pure ?_
 obtain ⟨lo, e4, f⟩ := f.need
 obtain ⟨hi, e5, f⟩ := f.need
 obtain ⟨zz, e, f⟩ := oko_ok f
 exact slc_at (s := { s with heap := h3.push { cls := .type "slice", data := .fields #[val2, val3, .none] }, toks := tk3 }) (S3.keeps (hk _)) L3 ((d.ext e2).ext e3) e (Heap.IsSliceOf.new h3 _ _ _) (part_of (d2.ext e3) e4) (part_of d3 e5) fun k w' h' val S5 e5 L5 d5 => Fin.ok f S5 e5 L5 d5
theorem isStr_ne {k y : Nat} {t : Tok} (h : Nat.beq k y = false) : Value.isStr (.str (strOf y) t) (strOf k) = false := by
 show (strOf y == strOf k) = false
 exact beq_eq_false_iff_ne.mpr fun e => by rw [strOf_inj e, Nat.beq_refl] at h; injection h
theorem isStr_eq {k : Nat} {t : Tok} : Value.isStr (.str (strOf k) t) (strOf k) = true := beq_self_eq_true (strOf k)
noncomputable def LookF (cf : Cfg) (P : Params) (b : Heap) (fz : Led) (rho : List Addr) (k : Nat) (es : List DictEntry) : Option V → Prop
 | some x => ∃ v, getL (strOf k) es = some (some v) ∧ Den cf P b fz rho x v
 | none => getL (strOf k) es = some none ∧ es.any (·.refKey) = false ∧ es.find? (·.key.isStr (strOf k)) = none
theorem getL_den {fz : Led} {rho : List Addr} {kvs : List (Nat × V)} {es : List DictEntry} {k : Nat} (h : DenD cf P b fz rho kvs es) : LookF cf P b fz rho k es (lookN k kvs) := by
 induction kvs generalizing es with
 | nil => obtain rfl := h.nil_inv; exact ⟨rfl, rfl, rfl⟩
 | cons p r ih =>
  obtain ⟨t, v, r', rfl, f, d, l⟩ := h.cons_inv
  have ih := ih l
  unfold lookN
  cases hk : Nat.beq k p.1 with
  | true =>
   rw [nbe hk]
   exact ⟨v, by unfold getL; rw [List.find?_cons, isStr_eq], d⟩
  | false =>
   have e1 : (⟨PyData.keyHash P (strOf p.1), .str (strOf p.1) t, v⟩ :: r' : List DictEntry).find? (·.key.isStr (strOf k)) = r'.find? (·.key.isStr (strOf k)) := by
    rw [List.find?_cons, isStr_ne hk]
   have e3 : getL (strOf k) (⟨PyData.keyHash P (strOf p.1), .str (strOf p.1) t, v⟩ :: r') = getL (strOf k) r' := by
    unfold getL
    rw [e1]; rfl
   revert ih
   dsimp only
   cases lookN k r with
   | some x' => exact fun ⟨v', q1, q2⟩ => ⟨v', e3.trans q1, q2⟩
   | none => exact fun ⟨q1, q2, q3⟩ => ⟨e3.trans q1, q2, e1.trans q3⟩
theorem denD_of {fz : Led} {rho : List Addr} (hw : wd.params = P) {kvs : List (Nat × V)} {kv : List (Str × Value)} {es : List DictEntry} (h : PV cf P b fz rho kvs kv) (hp : Pairs (strKind prog wd) es kv)
  (hk : ∀ e ∈ es, ∃ k, (strKind prog wd).is k e.key = true ∧ e.hash = (strKind prog wd).hash k) (hn : (kvs.map (·.1)).Nodup) : DenD cf P b fz rho kvs es := by
 induction hp generalizing kvs with
 | nil => cases kvs with
  | nil => exact .nil
  | cons => exact h.elim
 | @cons e kv' es' r' h1 h2 h3 ih => cases kvs with
  | nil => exact h.elim
  | cons p r =>
  obtain ⟨h0, d, h⟩ := h
  rw [h0] at h1
  rw [← h2] at d
  obtain ⟨t, ht⟩ := Value.isStrOf_shape h1
  obtain ⟨k', g1, g2⟩ := hk _ (.head _)
  have hn := List.nodup_cons.mp hn
  obtain rfl := Value.isStrOf_inj _ _ _ g1 h1
  have : e = ⟨PyData.keyHash P (strOf p.1), .str (strOf p.1) t, e.val⟩ := by
   rw [← ht, ← hw, ← show e.hash = PyData.keyHash wd.params (strOf p.1) from g2]
  rw [this]
  exact .cons (fun q hp q' => hn.1 (List.mem_map.mpr ⟨q, hp, q'⟩)) d (ih h (fun e he => hk e (.tail _ he)) hn.2)
theorem denD_len {fz : Led} {rho : List Addr} {kvs : List (Nat × V)} {es : List DictEntry} (h : DenD cf P b fz rho kvs es) : es.length = kvs.length := by
 induction kvs generalizing es with
 | nil => obtain rfl := h.nil_inv; rfl
 | cons z r ih => obtain ⟨_, _, _, rfl, _, _, l⟩ := h.cons_inv; exact congrArg (· + 1) (ih l)
theorem dict_obj {h : Heap} {d : Addr} {kvs : List (Nat × V)} {kv : List (Str × Value)} {fz : Led} {rho : List Addr} (hw : wd.params = P) (D : h.DictOf (strKind prog wd) d kv) (p : PV cf P b fz rho kvs kv) (hn : (kvs.map (·.1)).Nodup) :
  ∃ es m, h.get? d = some (dictOf es m) ∧ DenD cf P b fz rho kvs es := by
 obtain ⟨o, es, ep, ho, ⟨h1, h2, h3⟩, hd, hk, hp, _⟩ := D
 obtain ⟨c, dd, dt, sl⟩ := o
 dsimp only at h1 h2 h3 hd
 subst h1 h2 h3 hd
 exact ⟨es.toList, ep, by rw [ho], denD_of hw p hp (fun e he => hk e (by simpa using he)) hn⟩
inductive KV : List Nat → List (Value × Value) → Prop
 | nil : KV [] []
 | cons {k : Nat} {t : Tok} {v : Value} {ks : List Nat} {kvs : List (Value × Value)} : KV ks kvs → KV (k :: ks) ((.str (strOf k) t, v) :: kvs)
theorem KV.zip {fz : Led} {rho : List Addr} {ks : List Nat} {kvs : List (Value × Value)} {vs : List V} (h : KV ks kvs) (d : DenL cf P b fz rho vs (kvs.map (·.2))) :
  ∃ kv, PV cf P b fz rho (ks.zip vs) kv ∧ Carries (strKind prog wd) kvs kv ∧ kv.map (·.1) = ks.map strOf ∧ ks.length = vs.length := by
 induction h generalizing vs with
 | nil => cases vs with
  | nil => exact ⟨[], trivial, trivial, rfl, rfl⟩
  | cons => obtain ⟨_, _, q, _⟩ := d.cons_inv; injection q
 | cons h ih => cases vs with
  | nil => injection d.nil_inv
  | cons x vs =>
  obtain ⟨_, _, q, d1, d2⟩ := d.cons_inv
  injection q with j1 j2; subst j1; subst j2
  obtain ⟨kv, h1, h2, h3, h4⟩ := ih d2
  exact ⟨(_, _) :: kv, ⟨rfl, d1, h1⟩, ⟨strKind_is prog wd _ _, rfl, h2⟩, congrArg (_ :: ·) h3, congrArg (· + 1) h4⟩
noncomputable def SndP (cf : Cfg) (prog : Program) (wd : World) (b : Heap) (n : Nat) (r : Task → Res) : Prop := ∀ {A : Around} {stk : List SE} {fL : Addr} {en : Mine.Env} {env : SE} {s : Shared} {w : Wd} {σ : Store} {pos : Pos} {ks : List (Option PE)} {ns : List Nat} {es : List PE} {xs : List Ex},
 Ok cf wd.params b A n stk fL en env s w σ → KeysEr ks ns → ErL cf env.scope es xs → ks.length = es.length →
 ∀ Q E, FinL cf wd.params b fL s w (r (.es en xs σ)) Q E → wpAny (model prog wd) A (evalPairs (pairTrees ks es env pos)) (fun kvs s' => KV ns kvs ∧ Q (kvs.map (·.2)) s') E s
theorem ps_ (H : SndE cf wd.params b (model prog wd) n r) (HP : SndP cf prog wd b n r) {pos : Pos} {ks : List (Option PE)} {ns : List Nat} {es : List PE} {xs : List Ex} (O : Ok cf wd.params b A (n + 1) stk fL en env s w σ) (R0 : KeysEr ks ns) (R : ErL cf env.scope es xs) (hl : ks.length = es.length)
  {Q : List Value → Shared → Prop} {E : VP} (f : FinL cf wd.params b fL s w (step G r (.es en xs σ)) Q E) : wpAny (model prog wd) A (evalPairs (pairTrees ks es env pos)) (fun kvs s' => KV ns kvs ∧ Q (kvs.map (·.2)) s') E s := by
 cases R with
 | nil =>
  cases R0 with
  | nil => exact pairTrees_nil_walk ⟨.nil, FinL.ok f O.st (.refl _ _) O.lv .nil⟩
  | cons _ => cases hl
 | cons he hes =>
  cases R0 with
  | nil => cases hl
  | cons hk =>
  refine pairTrees_cons_walk (Constant_str ?_)
  have O' : Ok cf wd.params b A n stk fL en env { s with heap := s.heap, toks := s.toks + 1 } w σ := O.down.to O.st (.refl _ _) O.lv
  refine Tr.bindL (H O' he) (FinL.move (h1 := s.heap) (tk1 := s.toks + 1) f (.refl [] w)) fun v σ1 w1 h1 tk1 val S e1 L d f => ?_
  have g := HP (pos := pos) (O'.to (tk1 := tk1) S e1 L) hk hes (Nat.succ.inj hl)
  have hq := g (fun vals s' => Q (val :: vals) s') E
  refine wpAny_mono (hq ?_) (fun kvs s' h => ⟨.cons h.1, h.2⟩) fun z_ z_ x => x
  revert f
  generalize r (.es en _ σ1) = res
  intro f
  cases res with
  | oks vs σ2 => exact fun w' h' tk' S' e' L' vals d' => FinL.ok f S' e' L' (.cons (d.ext e') d')
  | exc c σ2 => exact f
  | _ => exact f.elim
theorem zip_keys {ns : List Nat} {vs : List V} (h : ns.length = vs.length) : (ns.zip vs).map (·.1) = ns := List.map_fst_zip (Nat.le_of_eq h)
theorem keys_all {ks : List (Option PE)} {ns : List Nat} (h : KeysEr ks ns) : ks.all (·.isSome) = true ∧ ks.length = ns.length := by
 induction h with
 | nil => exact ⟨rfl, rfl⟩
 | cons _ ih => exact ⟨by rw [List.all_cons, ih.1]; rfl, congrArg (· + 1) ih.2⟩
theorem e_dct (HP : SndP cf prog wd b n r) (hs : ∃ o, b.get? sysModules = some o) {ks : List (Option PE)} {ns : List Nat} {es : List PE} {xs : List Ex} {m : Bool} {pos : Pos} (O : Ok cf wd.params b A (n + 1) stk fL en env s w σ) (R0 : KeysEr ks ns) (R : ErL cf env.scope es xs)
  (hl : ks.length = es.length) (hn : ns.Nodup) (h15 : ns.length ≤ 15) :
  Tr cf wd.params b (model prog wd) A fL (eval (.Dict ks es pos) env) s w (step G r (.e en (.dct m ns xs) σ)) := fun Q E f => by
 have hk : ∀ (h : Heap) (o : Obj) a o', h.get? a = some o' → (h.push o).get? a = some o' := fun h o a o' e => gps _ e
 have lo : (s.heap.objs.size == sysModules) = false := by
  cases q : s.heap.objs.size == sysModules with
  | false => rfl
  | true =>
   obtain ⟨o, ho⟩ := hs
   have := O.st.stays _ _ ho
   rw [← eq_of_beq q, size_none] at this
   exact noS this
 have fin : ∀ {kvs : List (Nat × V)} {σ1 : Store} {w1 : Wd} {h1 : Heap} {tk1 : Nat} {es : List DictEntry} {mm : Nat}, St cf b h1 w1 → Ext [] w w1 → Live cf wd.params b w1 σ1 → h1.get? s.heap.objs.size = some (dictOf es mm) → s.heap.objs.size ∉ (w1.all cf).map (·.1) → DenDW cf wd.params b w1 kvs es →
   Fin cf wd.params b fL s w (mkDct m kvs σ1) Q E → Q (.ref s.heap.objs.size) { s with heap := h1, toks := tk1 } := by
  intro kvs σ1 w1 h1 tk1 es mm S e L g hk d f
  have hb : b.get? s.heap.objs.size = none := O.st.fresh_b (size_none _)
  cases m with
  | true =>
   refine Fin.ok f (S.tellL g hb hk (fun z_ q => nomatch q)) (e.trans (ext_tellL hk)) (Live.tellL (so := .dct kvs) hk L ⟨es, mm, rfl, d⟩) (.ref ?_)
   show (w1.rho ++ [s.heap.objs.size])[σ1.length]? = _
   rw [← L.len]; simp
  | false => exact Fin.ok f (S.tellF g hb hk) (e.trans ext_addF) L.addF (.dct (n := mm) lo (.inl (.head _)) (d.ext (own := []) ext_addF))
 have k15 : ks.length ≤ 15 := by rw [(keys_all R0).2]; exact h15
 cases R with
 | nil =>
  cases R0 with
  | cons _ => cases hl
  | nil => exact wpAny_Dict_empty (fin (kvs := []) (es := []) (mm := 0) (O.st.keeps (hk _ _)) (.refl _ _) O.lv (Heap.get?_push_size s.heap rfl) (O.st.fresh (size_none _)) .nil f)
 | @cons e x es xs he hes =>
 have hne : ks ≠ [] := fun q => by rw [q] at hl; cases hl
 have f0 : Fin cf wd.params b fL s w ((r (.es en (x :: xs) σ)).binds fun vs σ => mkDct m (ns.zip vs) σ) Q E := f
 clear f
 have D0 : (s.heap.push { cls := .type "dict", data := .dict #[] }).get? s.heap.objs.size = some (dictOf [] 0) := Heap.get?_push_size s.heap rfl
 have S0 := O.st.addX (hk s.heap { cls := .type "dict", data := .dict #[] }) (size_none _) D0
 have O0 : Ok cf wd.params b A n stk fL en env { s with heap := s.heap.push { cls := .type "dict", data := .dict #[] }, toks := s.toks } { w with xt := (s.heap.objs.size, dictOf [] 0) :: w.xt } σ := O.down.to S0 ext_addX O.lv.addX
 refine wpAny_Dict_walk (knd := strKind prog wd) (keys_all R0).1 hl hne k15 ?_
 refine wpAny_mono (HP O0 R0 (.cons he hes) hl (fun vals s' => ∀ kvs, KV ns kvs → kvs.map (·.2) = vals → ∃ kv, Carries (strKind prog wd) kvs kv ∧ s'.heap.DictOf (strKind prog wd) s.heap.objs.size [] ∧
   ∀ h', h'.DictOf (strKind prog wd) s.heap.objs.size (merged [] kv) → Heap.SameBut s.heap.objs.size s'.heap h' → Q (.ref s.heap.objs.size) { s' with heap := h', toks := s'.toks + kvs.length }) E ?_) (fun kvs s' h => h.2 kvs h.1 rfl) fun z_ z_ x => x
 have hD : s.heap.objs.size ∉ w.xt.map (·.1) := fun q => by
  obtain ⟨p, hp, e⟩ := mmp q
  exact O.st.fresh (size_none _) (e ▸ mmo (mem_xt hp))
 revert f0
 generalize r (.es en (x :: xs) σ) = res
 intro f0
 cases res with
 | oks vs σ1 =>
  intro w1 h1 tk1 S1 e1 L1 vals d1 kvs hkv hval
  subst hval
  obtain ⟨kv, p1, p2, p3, p4⟩ := KV.zip (prog := prog) (wd := wd) hkv d1
  have hm : (s.heap.objs.size, dictOf [] 0) ∈ w1.xt := e1.xt _ (.head _)
  have hgd := S1.kn _ (mem_xt hm)
  have hnd : (kv.map (·.1)).Nodup := by
   rw [p3]
   have := nodup_strOf (kvs := ns.zip vs) (by rw [zip_keys p4]; exact hn)
   have e : (ns.zip vs).map (fun p => strOf p.1) = ns.map strOf := by
    have q := congrArg (List.map strOf) (zip_keys (vs := vs) p4)
    rw [List.map_map] at q
    exact q
   rwa [e] at this
  refine ⟨kv, p2, ⟨_, #[], 0, hgd, ⟨rfl, rfl, rfl⟩, rfl, (fun z_ h => by simp at h), .nil, by simp⟩, fun h' hd hsb => ?_⟩
  rw [merged_nil_of_nodup _ hnd] at hd
  have S2 := S1.dropX hm (h' := h') fun a o hne e => (hsb.2 a hne).trans e
  have L2 : Live cf wd.params b { w1 with xt := w1.xt.filter fun q => !decide (q.1 = s.heap.objs.size) } σ1 := L1.dropX
  obtain ⟨es', mm, g, dd⟩ := dict_obj (cf := cf) (b := b) (fz := w1.fz) (rho := w1.rho) rfl hd p1 (by rw [zip_keys p4]; exact hn)
  exact fin S2 (ext_dropX (ext_addX.trans e1) hD) L2 g (dropX_key S1 hm) dd f0
 | exc c σ1 => exact fun w' h' tk' ex S e L X => f0 w' h' tk' ex S (ext_addX.trans e) L X
 | _ => exact False.elim f0
theorem lookup_zip {ps : List Str} {vs : List Value} {i : Nat} {n : Str} (nd : ps.Nodup) (h : ps[i]? = some n) : (ps.zip vs).lookup n = vs[i]? := by
 induction ps generalizing vs i with
 | nil => exact noS h
 | cons p ps ih =>
  have nd := List.nodup_cons.mp nd
  cases vs with
  | nil => rfl
  | cons v vs =>
   rw [List.zip_cons_cons, List.lookup_cons]
   cases i with
   | zero => obtain rfl := sI h; rw [beq_self_eq_true]; rfl
   | succ i =>
    have h' : ps[i]? = some n := h
    rw [beq_eq_false_iff_ne.mpr fun e : n = p => nd.1 (e ▸ List.mem_of_getElem? h')]
    exact ih nd.2 h'
theorem filterMap_zip {ps : List Str} {full : List Value} (f : Str → Option Value) (h : ∀ (i : Nat) (n : Str), ps[i]? = some n → f n = full[i]?) (e : ps.length = full.length) : (ps.filterMap fun n => (f n).map fun v => (n, v)) = ps.zip full := by
 induction ps generalizing full with
 | nil => rfl
 | cons p ps ih => cases full with
  | nil => cases e
  | cons v vs =>
   rw [List.filterMap_cons, h 0 p rfl]
   exact congrArg (_ :: ·) (ih (fun i n q => h (i + 1) n q) (Nat.succ.inj e))
theorem bd0 {v p d : Nat} (h2 : p ≤ v + d) (h3 : d ≤ p) : ∃ q k, p = d + q ∧ v = q + k := by
 obtain ⟨q, rfl⟩ := Nat.le.dest h3
 rw [Nat.add_comm v d] at h2
 obtain ⟨k, rfl⟩ := Nat.le.dest (Nat.le_of_add_le_add_left h2)
 exact ⟨q, k, rfl, rfl⟩
theorem bd3 (q k d : Nat) : q + k + d - (d + q) = k := by rw [Nat.add_right_comm, Nat.add_comm d q, Nat.add_sub_cancel_left]
theorem bd1 {v p d : Nat} (h1 : v ≤ p) (h2 : p ≤ v + d) (h3 : d ≤ p) : p = v + (d - (v + d - p)) := by
 obtain ⟨q, k, rfl, rfl⟩ := bd0 h2 h3
 rw [bd3, ← Nat.add_sub_assoc (Nat.le_of_add_le_add_left (a := q) (by rw [Nat.add_comm q d]; exact h1)), Nat.add_right_comm, Nat.add_sub_cancel, Nat.add_comm]
theorem bd2 {v p d i : Nat} (h2 : p ≤ v + d) (h3 : d ≤ p) (hv : v ≤ i) : p - d + (i - (p - d)) = i ∧ i - (p - d) = v + d - p + (i - v) := by
 obtain ⟨q, k, rfl, rfl⟩ := bd0 h2 h3
 obtain ⟨j, rfl⟩ := Nat.le.dest hv
 rw [bd3, Nat.add_sub_cancel_left, Nat.add_sub_cancel_left, Nat.add_assoc, Nat.add_sub_cancel_left]
 exact ⟨rfl, rfl⟩
theorem no_miss {ps : List Str} {vals ds : List Value} (nd : ps.Nodup) (h2 : ps.length ≤ vals.length + ds.length) : (ps.take (ps.length - ds.length)).filter (fun n => ((ps.zip vals).lookup n).isNone) = [] := by
 rw [List.filter_eq_nil_iff]
 intro n hn
 obtain ⟨i, hi⟩ := List.getElem?_of_mem hn
 have hlt : i < ps.length - ds.length := Nat.lt_of_lt_of_le (List.getElem?_eq_some_iff.mp hi).1 (List.length_take_le _ _)
 rw [List.getElem?_take_of_lt hlt] at hi
 rw [lookup_zip nd hi, List.getElem?_eq_getElem (Nat.lt_of_lt_of_le hlt (Nat.sub_le_iff_le_add.mpr h2))]
 exact Bool.false_ne_true
theorem all_told {ps : List Str} {vals ds : List Value} {sl : List (Str × Value)} (nd : ps.Nodup) (h1 : vals.length ≤ ps.length) (h2 : ps.length ≤ vals.length + ds.length) (h3 : ds.length ≤ ps.length)
  (h5 : ∀ n, sl.lookup n = ((ps.zip vals).lookup n).or (((ps.drop (ps.length - ds.length)).zip ds).lookup n)) :
  (ps.filterMap fun n => (sl.lookup n).map fun v => (n, v)) = ps.zip (vals ++ ds.drop (vals.length + ds.length - ps.length)) := by
 refine filterMap_zip _ (fun i n hi => ?_) (by rw [List.length_append, List.length_drop]; exact bd1 h1 h2 h3)
 rw [h5 n, lookup_zip nd hi]
 by_cases hv : i < vals.length
 ·rw [List.getElem?_append_left hv, List.getElem?_eq_getElem hv]; rfl
 ·have hv := Nat.le_of_not_lt hv
  obtain ⟨e1, e2⟩ := bd2 h2 h3 hv
  have hi' : (ps.drop (ps.length - ds.length))[i - (ps.length - ds.length)]? = some n := by rw [List.getElem?_drop, e1, hi]
  rw [List.getElem?_append_right hv, List.getElem?_eq_none hv, Option.none_or, lookup_zip (nd.sublist (List.drop_sublist _ _)) hi', List.getElem?_drop, e2]
theorem told_step {l0 sl done : List (Str × Value)} {name : Str} {d : Value} (h : ∀ n, sl.lookup n = (l0.lookup n).or (done.lookup n)) :
  (∀ n, (sl ++ [(name, d)]).lookup n = (l0.lookup n).or ((done ++ [(name, d)]).lookup n)) ∧ ((sl.lookup name).isNone = false → ∀ n, sl.lookup n = (l0.lookup n).or ((done ++ [(name, d)]).lookup n)) := by
 refine ⟨fun n => by rw [List.lookup_append, List.lookup_append, h n, Option.or_assoc], fun hc n => ?_⟩
 rw [List.lookup_append, ← Option.or_assoc, ← h n]
 cases q : sl.lookup n with
 | some v => rfl
 | none =>
  rw [Option.none_or, List.lookup_cons, beq_eq_false_iff_ne.mpr fun e : n = name => by rw [← e, q] at hc; injection hc]
  rfl
theorem wit {α : Type} {M : Model} {A : Around} {E : VP} {s : Shared} {Q : α → Shared → Prop} {c : Prop} [Decidable c] {t e : Sem α} (h : c) (w : wpAny M A t Q E s) : wpAny M A (ite c t e) Q E s := by rw [if_pos h]; exact w
theorem wif {α : Type} {M : Model} {A : Around} {E : VP} {s : Shared} {Q : α → Shared → Prop} {c : Prop} [Decidable c] {t e : Sem α} (h : ¬ c) (w : wpAny M A e Q E s) : wpAny M A (ite c t e) Q E s := by rw [if_neg h]; exact w
noncomputable def defZip (ps : List Str) (ds : List Value) : List (Str × Value) := (ps.drop (ps.length - (ds.drop (ds.length - ps.length)).length)).zip (ds.drop (ds.length - ps.length))
theorem defZip_eq {ps : List Str} {ds : List Value} (h3 : ds.length ≤ ps.length) : defZip ps ds = (ps.drop (ps.length - ds.length)).zip ds := by
 unfold defZip
 rw [Nat.sub_eq_zero_of_le h3, List.drop_zero]
theorem bind_gen {s : Shared} {fd : FuncData} {as_ : List Arg} {dd : List PE} {vals ds : List Value} (hp : fd.params = { posonlyargs := [], args := as_, vararg := none, kwonlyargs := [], kw_defaults := [], kwarg := none, defaults := dd })
  (hd : ∀ (M : Model) (A : Around) (E : VP) (Q : Option (Array Value) → Shared → Prop), (∀ o, (o.getD #[]).toList = ds → Q o s) → wpAny M A (seqItems? fd.defaults) Q E s)
  (nd : (as_.map (·.arg)).Nodup) (h1 : vals.length ≤ as_.length) (h2 : as_.length ≤ vals.length + ds.length) (h3 : ds.length ≤ as_.length) :
  BindsTo s fd ⟨vals, []⟩ ((as_.map (·.arg)).zip (vals ++ ds.drop (vals.length + ds.length - as_.length))) := by
 intro M A E Q hq
 obtain ⟨nm, qn, pm, bd, sc, gl, cl, df, _⟩ := fd
 obtain rfl := (show pm = _ from hp)
 rw [← List.length_map (f := (·.arg)) (as := as_)] at h1 h2 h3 hq
 refine wpAny_bind (m := seqItems? df) (hd M A E _ fun o ho => ?_)
 rw [← ho] at h2 h3 hq
 clear ho hd hp
 refine wif (fun c => ?_) (wif (fun c => ?_) (wpAny_bind (wpAny_forIn_list _ (fun rest sl s' => s' = s ∧ ∃ done, defZip (as_.map (·.arg)) (o.getD #[]).toList = done ++ rest ∧ ∀ n, sl.lookup n = (((as_.map (·.arg)).zip vals).lookup n).or (done.lookup n)) _ ?_ ?_ _ _ ⟨rfl, [], rfl, fun n => (Option.or_none).symm⟩)))
 ·exact Nat.not_lt.mpr h1 (of_decide_eq_true (Bool.and_eq_true_iff.mp c).1)
 ·have c' : (!(((as_.map (·.arg)).take ((as_.map (·.arg)).length - ((o.getD #[]).toList.drop ((o.getD #[]).toList.length - (as_.map (·.arg)).length)).length)).filter (fun n => (((as_.map (·.arg)).zip vals).lookup n).isNone)).isEmpty) = true := c
  rw [Nat.sub_eq_zero_of_le h3, List.drop_zero, no_miss nd h2] at c'
  exact noB c'
 ·rintro ⟨name, d⟩ rest sl s' ⟨rfl, done, h1, h2⟩
  have h1 := h1.trans (List.append_assoc done [(name, d)] rest).symm
  obtain ⟨g1, g2⟩ := told_step (name := name) (d := d) h2
  by_cases hc : (sl.lookup name).isNone = true
  ·exact wit hc (wpAny_pure ⟨rfl, done ++ [(name, d)], h1, g1⟩)
  ·exact wif hc (wpAny_pure ⟨rfl, done ++ [(name, d)], h1, g2 (Bool.eq_false_iff.mpr hc)⟩)
 ·rintro sl s' ⟨rfl, done, h4, h5⟩
  rw [List.append_nil, defZip_eq h3] at h4
  subst h4
  rw [← all_told nd h1 h2 h3 h5, ← List.append_nil (as_.map (·.arg))] at hq
  exact wpAny_pure hq
theorem base_plain {o : PE} {x : Str} {env : SE} (h : isCall o = false) : attributeBase o x env (eval o env) = eval o env := by cases o <;> first | rfl | injection h
theorem inst_at {x dx C : Addr} {es : List DictEntry} {k : Nat} {h : Heap} (h1 : h.get? x = some (instObj C dx)) (h2 : h.get? dx = some (dictOf es k)) : InstAt h x (instObj C dx) C (some (dictOf es k)) := ⟨h1, rfl, rfl, h2⟩
theorem e_att (H : SndE cf wd.params b (model prog wd) n r) (B : Bs cf K p loose mean mg mb wd.params b G) {o : PE} {x : Ex} {m : Nat} {pos : Pos} (O : Ok cf wd.params b A (n + 1) stk fL en env s w σ) (R : Er cf env.scope o x) (hc : isCall o = false) (hm : inL m cf.an = true) :
  Tr cf wd.params b (model prog wd) A fL (eval (.Attribute o (strOf m) pos) env) s w (step G r (.e en (.att x m) σ)) := fun Q E f => by
 refine Attribute_any_ (Tr.bind (H O.down R) f fun v σ1 w1 h1 tk1 val S e1 L d f => ?_) (by rw [arm_eval_Attribute, base_plain hc])
 obtain ⟨kvs, e, f⟩ := f.need
 obtain ⟨z, ez, f⟩ := oko_ok f
 obtain ⟨c, C, xx, dx, es, k, rfl, hC, g1, g2, l, _⟩ := attOf_at S L d e
 obtain ⟨p1, p2, ⟨attr, p3, p4⟩, _⟩ := B.att c C m hC hm
 have hg := getL_den (k := m) l
 rw [ez] at hg
 obtain ⟨val, q1, q2⟩ := hg
 exact get_value (s := { s with heap := h1, toks := tk1 }) (B.X.keeps S.stays) (inst_at g1 g2) (plainGet_of p1).1 (findObj_own p2 p3 p4 q1) (den_nh q2).1 (Fin.ok f S (.refl _ _) L q2)
noncomputable def ownE (env : SE) : List Addr := env.locals :: env.cells.map (·.2)
theorem lookup_mem {α : Type} {l : List (Str × α)} {x : Str} {a : α} (h : l.lookup x = some a) : (x, a) ∈ l := by
 induction l with
 | nil => exact noS h
 | cons p r ih =>
  rw [List.lookup_cons] at h
  cases hy : (x == p.1) with
  | true => rw [hy] at h; obtain rfl := sI h; rw [eq_of_beq hy]; exact .head _
  | false => rw [hy] at h; exact .tail _ (ih h)
theorem lookN_cons {x y : Nat} {v u : V} {l : List (Nat × V)} (h : lookN y ((x, v) :: l) = some u) : (y = x ∧ v = u) ∨ (y ≠ x ∧ lookN y l = some u) := by
 unfold lookN at h
 cases q : Nat.beq y x with
 | true => rw [q] at h; exact .inl ⟨nbe q, Option.some.inj h⟩
 | false => rw [q] at h; exact .inr ⟨fun e => (by rw [e, Nat.beq_refl] at q; injection q), h⟩
theorem own_cell {env : SE} {x : Str} {c : Addr} (h : env.cells.lookup x = some c) : c ∈ ownE env := .tail _ (mmo (f := (·.2)) (lookup_mem h))
section
variable (cf : Cfg) (P : Params) (b : Heap)
noncomputable def FinB (own : List Addr) (fL : Addr) (env : SE) (s : Shared) (w : Wd) (res : Res) (Q : Flow → Shared → Prop) (E : VP) : Prop := match res with
 | .nxt en' σ' => Pst cf P b s w own σ' fun w' s' => EnvOk cf P b en' env w' → Q .next s'
 | .ret v σ' => Pst cf P b s w own σ' fun w' s' => ∀ val, DenW cf P b w' v val → Q (.ret val) s'
 | .exc c σ' => EPst cf P b s w own σ' c fL E
 | _ => False
noncomputable def TrB (M : Model) (A : Around) (fL : Addr) (env : SE) (t : Sem Flow) (s : Shared) (w : Wd) (res : Res) : Prop := ∀ Q E, FinB cf P b (ownE env) fL env s w res Q E → wpAny M A t Q E s
end
section
variable {w1 : Wd} {own : List Addr} {res : Res} {h1 : Heap} {tk1 : Nat}
theorem FinB.move {Q : Flow → Shared → Prop} {E : VP} (h : FinB cf P b own fL env s w res Q E) (e : Ext own w w1) : FinB cf P b own fL env { s with heap := h1, toks := tk1 } w1 res Q E := by
 cases res with
 | nxt v σ => exact fun w' h' tk' S E L => h w' h' tk' S (e.trans E) L
 | ret v σ => exact fun w' h' tk' S E L => h w' h' tk' S (e.trans E) L
 | exc c σ => exact fun w' h' tk' ex S E L X => h w' h' tk' ex S (e.trans E) L X
 | _ => exact h
theorem FinB.ret {v : V} {σ' : Store} {Q : Flow → Shared → Prop} {E : VP} {s' : Shared} {val : Value} (f : FinB cf P b own fL env s w res Q E) (S : St cf b s'.heap w1) (e : Ext own w w1) (L : Live cf P b w1 σ') (d : DenW cf P b w1 v val)
  (hr : res = .ret v σ' := by rfl) (hs : s' = { s with heap := s'.heap, toks := s'.toks } := by rfl) : Q (.ret val) s' := by
 subst hr; rw [hs]; exact f w1 s'.heap s'.toks S e L val d
theorem FinB.nxt {en' : Mine.Env} {σ' : Store} {Q : Flow → Shared → Prop} {E : VP} {s' : Shared} (f : FinB cf P b own fL env s w res Q E) (S : St cf b s'.heap w1) (e : Ext own w w1) (L : Live cf P b w1 σ') (d : EnvOk cf P b en' env w1)
  (hr : res = .nxt en' σ' := by rfl) (hs : s' = { s with heap := s'.heap, toks := s'.toks } := by rfl) : Q .next s' := by
 subst hr; rw [hs]; exact f w1 s'.heap s'.toks S e L d
theorem Tr.bindB {t : Sem Value} {k : V → Store → Res} {Q : Flow → Shared → Prop} {E : VP} {X : VP} (h : Tr cf P b M A fL t s w res) (f : FinB cf P b own fL env s w (res.bind k) Q E)
  (n : ∀ v σ1 w1 h1 tk1 val, St cf b h1 w1 → Ext [] w w1 → Live cf P b w1 σ1 → DenW cf P b w1 v val → FinB cf P b own fL env { s with heap := h1, toks := tk1 } w1 (k v σ1) Q E → X val { s with heap := h1, toks := tk1 }) : wpAny M A t X E s := by
 cases res with
 | ok v σ1 => exact h X E fun w1 h1 tk1 S e L val d => n v σ1 w1 h1 tk1 val S e L d (FinB.move (res := k v σ1) f (e.weaken fun z_ q => nomatch q))
 | exc c σ1 => exact h X E fun w' h' tk' ex S e L X => f w' h' tk' ex S (e.weaken fun z_ q => nomatch q) L X
 | oks _ _ => exact f.elim
 | nxt _ _ => exact f.elim
 | ret _ _ => exact f.elim
 | bad => exact f.elim
theorem TrL.bindsB {t : Sem (List Value)} {k : List V → Store → Res} {Q : Flow → Shared → Prop} {E : VP} {X : List Value → Shared → Prop} (h : TrL cf P b M A fL t s w res) (f : FinB cf P b own fL env s w (res.binds k) Q E)
  (n : ∀ v σ1 w1 h1 tk1 val, res = .oks v σ1 → St cf b h1 w1 → Ext [] w w1 → Live cf P b w1 σ1 → DenLW cf P b w1 v val → FinB cf P b own fL env { s with heap := h1, toks := tk1 } w1 (k v σ1) Q E → X val { s with heap := h1, toks := tk1 }) : wpAny M A t X E s := by
 cases res with
 | oks v σ1 => exact h X E fun w1 h1 tk1 S e L val d => n v σ1 w1 h1 tk1 val rfl S e L d (FinB.move (res := k v σ1) f (e.weaken fun z_ q => nomatch q))
 | exc c σ1 => exact h X E fun w' h' tk' ex S e L X => f w' h' tk' ex S (e.weaken fun z_ q => nomatch q) L X
 | ok _ _ => exact f.elim
 | nxt _ _ => exact f.elim
 | ret _ _ => exact f.elim
 | bad => exact f.elim
theorem TrT.bindB {t : Sem Bool} {k : V → Store → Res} {Q : Flow → Shared → Prop} {E : VP} {X : Bool → Shared → Prop} (h : TrT cf P b M A fL t s w res) (f : FinB cf P b own fL env s w (res.bind k) Q E) (hb : ∀ v σ, (∀ t, v ≠ .bool t) → k v σ = .bad)
  (n : ∀ v σ1 w1 h1 tk1, St cf b h1 w1 → Ext [] w w1 → Live cf P b w1 σ1 → FinB cf P b own fL env { s with heap := h1, toks := tk1 } w1 (k (.bool v) σ1) Q E → X v { s with heap := h1, toks := tk1 }) : wpAny M A t X E s := by
 cases res with
 | ok v σ1 =>
  by_cases hv : ∃ t, v = .bool t
  ·obtain ⟨t, rfl⟩ := hv
   exact h X E fun w1 h1 tk1 S e L => n t σ1 w1 h1 tk1 S e L (FinB.move (res := k (.bool t) σ1) f (e.weaken fun z_ q => nomatch q))
  ·have f' : FinB cf P b own fL env s w (k v σ1) Q E := f
   rw [hb v σ1 fun t q => hv ⟨t, q⟩] at f'
   exact False.elim f'
 | exc c σ1 => exact h X E fun w' h' tk' ex S e L X => f w' h' tk' ex S (e.weaken fun z_ q => nomatch q) L X
 | oks _ _ => exact f.elim
 | nxt _ _ => exact f.elim
 | ret _ _ => exact f.elim
 | bad => exact f.elim
theorem FinB.need {α : Type} {o : Option α} {k : α → Res} {Q : Flow → Shared → Prop} {E : VP} (f : FinB cf P b own fL env s w (needO o k) Q E) : ∃ x, o = some x ∧ FinB cf P b own fL env s w (k x) Q E := needs (F := fun q => FinB cf P b own fL env s w q Q E) id f
theorem Ok.set (O : Ok cf P b A n stk fL en env s w σ) {en1 : Mine.Env} {σ1 : Store} (S : St cf b h1 w1) (e : Ext own w w1) (L : Live cf P b w1 σ1) (eo : EnvOk cf P b en1 env w1) : Ok cf P b A n stk fL en1 env { s with heap := h1, toks := tk1 } w1 σ1 :=
 ⟨O.cx, O.so.ext e, O.fr, eo, S, L⟩
theorem fun_kind (h : env.scope.kind = .function) : (env.scope.kind == .class || (env.scope.kind == .module && env.locals != env.globals)) = false := by rw [h]; rfl
theorem store_own {x : Nat} {v : V} {val : Value} {Q : Unit → Shared → Prop} {E : VP} (eo : EnvOk cf P b en env w) (S : St cf b s.heap w) (L : Live cf P b w σ) (hl : env.kindOf (strOf x) = some .local) (d : DenW cf P b w v val)
  (q : ∀ h' w' tk, St cf b h' w' → Ext [env.locals] w w' → Live cf P b w' σ → EnvOk cf P b (setV en .loc x v) env w' → w'.fz = w.fz → w'.rho = w.rho → Q () { s with heap := h', toks := tk }) : wpAny M A (storeName env (strOf x) val) Q E s := by
 obtain ⟨o, m, hm, hn, hloc⟩ := eo.loc
 refine wpAny_storeName_local hl (hn.ns (S.mu hm)) (fun h' hns hsb => ?_) (fun_kind eo.k)
 obtain ⟨o', g, hn'⟩ := ns_obj hns
 have hk : env.locals ∈ w.mu.map (·.1) := mmo (f := (·.1)) hm
 have S' := S.upd (o' := o') hk (fun a o hne e => (hsb.2 a hne).trans e) g (sim_nf hn')
 refine q _ _ _ S' (ext_upd (.inl (.head _))) (L.updO eo.lnr) ?_ rfl rfl
 refine ⟨⟨o', _, setM_here hk, hn', fun y u hy => ?_⟩, eo.lnr, eo.lge, fun y u hy hy2 => ?_, fun y c hc => ?_, eo.cnd, eo.g, eo.bt, eo.k, eo.chas, eo.lamc⟩
 ·rcases lookN_cons hy with ⟨rfl, rfl⟩ | ⟨hxy, hy⟩
  ·exact ⟨val, if_pos rfl, d⟩
  ·obtain ⟨val', h1, h2⟩ := hloc y u hy
   exact ⟨val', (if_neg fun q => hxy (strOf_inj q)).trans h1, h2⟩
 ·obtain ⟨c, oc, val', h1, h2, h3, h4⟩ := eo.cel y u hy hy2
  exact ⟨c, oc, val', h1, setM_there h2 (eo.cnr _ _ h1).2.1, h3, h4⟩
 ·obtain ⟨h1, h2, oc, xx, h3, h4⟩ := eo.cnr y c hc
  exact ⟨h1, h2, oc, xx, setM_there h3 h2, h4⟩
theorem store_loc {x : Nat} {v : V} {val : Value} {Q : Unit → Shared → Prop} {E : VP} (eo : EnvOk cf P b en env w) (S : St cf b s.heap w) (L : Live cf P b w σ) (hl : env.kindOf (strOf x) = some .local) (d : DenW cf P b w v val)
  (q : ∀ h' w' tk, St cf b h' w' → Ext (ownE env) w w' → Live cf P b w' σ → EnvOk cf P b (setV en .loc x v) env w' → w'.fz = w.fz → w'.rho = w.rho → Q () { s with heap := h', toks := tk }) : wpAny M A (storeName env (strOf x) val) Q E s :=
 store_own eo S L hl d fun h' w' tk a b c d e f => q h' w' tk a (b.weaken fun z_ h => by rw [List.mem_singleton.mp h]; exact .head _) c d e f
theorem store_cel {x : Nat} {v : V} {val : Value} {Q : Unit → Shared → Prop} {E : VP} (eo : EnvOk cf P b en env w) (S : St cf b s.heap w) (L : Live cf P b w σ) (hl : env.kindOf (strOf x) = some .cell) (d : DenW cf P b w v val)
  (q : ∀ h' w' tk, St cf b h' w' → Ext (ownE env) w w' → Live cf P b w' σ → EnvOk cf P b (setV en .cel x v) env w' → w'.fz = w.fz → w'.rho = w.rho → Q () { s with heap := h', toks := tk }) : wpAny M A (storeName env (strOf x) val) Q E s := by
 obtain ⟨c, hc⟩ := Option.isSome_iff_exists.mp (eo.chas _ hl)
 obtain ⟨k1, k2, oc, xx, k3, k4⟩ := eo.cnr _ _ hc
 refine wpAny_storeName_cell eo.k hl hc ⟨oc, S.mu k3, k4⟩ fun h' hcell hsb => ?_
 obtain ⟨o', g, hd⟩ := hcell
 have hk : c ∈ w.mu.map (·.1) := mmo (f := (·.1)) k3
 have S' := S.upd (o' := o') hk (fun a o hne e => (hsb.2 a hne).trans e) g (fun vs e => by rw [hd] at e; injection e)
 refine q h' _ s.toks S' (ext_upd (.inl (own_cell hc))) (L.updO k1) ?_ rfl rfl
 obtain ⟨o, m, hm, hn, hloc⟩ := eo.loc
 refine ⟨⟨o, m, setM_there hm (Ne.symm k2), hn, hloc⟩, eo.lnr, eo.lge, fun y u hy hy2 => ?_, fun y c' hc' => ?_, eo.cnd, eo.g, eo.bt, eo.k, eo.chas, eo.lamc⟩
 ·rcases lookN_cons hy with ⟨rfl, rfl⟩ | ⟨hxy, hy⟩
  ·exact ⟨c, o', val, hc, setM_here hk, hd, d⟩
  ·obtain ⟨c', oc', val', h1, h2, h3, h4⟩ := eo.cel y u hy hy2
   exact ⟨c', oc', val', h1, setM_there h2 fun (q : c' = c) => hxy (strOf_inj (eo.cnd _ _ _ h1 (q ▸ hc))), h3, h4⟩
 ·obtain ⟨h1, h2, oc', xx', h3, h4⟩ := eo.cnr y c' hc'
  by_cases hcc : c' = c
  ·subst hcc
   exact ⟨h1, h2, o', _, setM_here hk, hd⟩
  ·exact ⟨h1, h2, oc', xx', setM_there h3 hcc, h4⟩
end
noncomputable def isTup : PE → Bool
 | .Tuple .. => true
 | _ => false
inductive TgL (sc : Scope) : List PE → List (VK × Nat) → Prop
 | nil : TgL sc [] []
 | cons {k : VK} {x : Nat} {p : Pos} {es : List PE} {ts : List (VK × Nat)} : k ≠ .glo → sc.names.lookup (strOf x) = some (kV k) → TgL sc es ts → TgL sc (.Name (strOf x) p :: es) ((k, x) :: ts)
inductive SwapOk (sc : Scope) : List PE → PE → List (VK × Nat) → Prop
 | plain {es : List PE} {v : PE} {ts : List (VK × Nat)} : (∀ env : SE, env.scope = sc → sc.kind = .function → ∀ k p, swappedStores [.Tuple es k p] v env = pure none) → SwapOk sc es v ts
 | swap {es : List PE} {v : PE} {x y : Nat} : x ≠ y → (∀ env : SE, env.scope = sc → sc.kind = .function → ∀ k p, swappedStores [.Tuple es k p] v env = pure (some [strOf x, strOf y])) → sc.names.lookup (strOf x) = some .local → sc.names.lookup (strOf y) = some .local → SwapOk sc es v [(.loc, x), (.loc, y)]
mutual
inductive ErS (cf : Cfg) : Scope → PySem.Stmt → Sm → Prop
 | asgL {sc : Scope} {x : Nat} {e : PE} {v : Ex} {p pos : Pos} : sc.names.lookup (strOf x) = some .local → Er cf sc e v → isComp e = false → ErS cf sc (.Assign [.Name (strOf x) p] e pos) (.asg (.loc x) v)
 | asgX {sc sc2 : Scope} {x : Nat} {elt tar iter : PE} {ifs : List PE} {v : Ex} {p pos pos2 : Pos} : sc.names.lookup (strOf x) = some .local → ErC cf sc elt tar iter ifs sc2 v → p.line = pos2.line → (∀ y ∈ sc2.names, y.1 = strOf x → y.2 ≠ .local ∧ y.2 ≠ .cell) → ErS cf sc (.Assign [.Name (strOf x) p] (.ListComp elt [⟨tar, iter, ifs, 0⟩] sc2 pos2) pos) (.asg (.loc x) v)
 | asgC {sc : Scope} {x : Nat} {e : PE} {v : Ex} {p pos : Pos} : sc.names.lookup (strOf x) = some .cell → Er cf sc e v → isComp e = false → ErS cf sc (.Assign [.Name (strOf x) p] e pos) (.asg (.cel x) v)
 | asgA {sc : Scope} {o e : PE} {n : Nat} {x v : Ex} {p pos : Pos} : Er cf sc e v → isComp e = false → Er cf sc o x → inL n cf.an = true → ErS cf sc (.Assign [.Attribute o (strOf n) p] e pos) (.asg (.att x n) v)
 | asgS {sc : Scope} {o i e : PE} {x y v : Ex} {p pos : Pos} : Er cf sc e v → isComp e = false → Er cf sc o x → Er cf sc i y → ErS cf sc (.Assign [.Subscript o i p] e pos) (.asg (.sub x y) v)
 | asgT {sc : Scope} {es : List PE} {e : PE} {ts : List (VK × Nat)} {v : Ex} {k : Nat} {p pos : Pos} : TgL sc es ts → Er cf sc e v → isComp e = false → SwapOk sc es e ts → ErS cf sc (.Assign [.Tuple es k p] e pos) (.asg (.tup ts) v)
 | ret {sc : Scope} {e : PE} {v : Ex} {pos : Pos} : Er cf sc e v → ErS cf sc (.Return (some e) pos) (.ret v)
 | ret0 {sc : Scope} {pos : Pos} : ErS cf sc (.Return none pos) .ret0
 | ife {sc : Scope} {c : PE} {a o : List PySem.Stmt} {v : Ex} {x y : List Sm} {pos : Pos} : Er cf sc c v → ErB cf sc a x → ErB cf sc o y → ErS cf sc (.If c a o pos) (.ife v x y)
 | whl {sc : Scope} {c : PE} {a : List PySem.Stmt} {v : Ex} {x : List Sm} {pos : Pos} : Er cf sc c v → ErB cf sc a x → ErS cf sc (.While c a [] pos) (.whl v x)
 | for_ {sc : Scope} {tar iter : PE} {ts : List Nat} {tt : Bool} {src : Src} {a : List PySem.Stmt} {x : List Sm} {pos : Pos} : TarEr sc tar ts tt → ErSrc cf sc iter src → srcOk src tt = true → ErB cf sc a x → ErS cf sc (.For tar iter a [] pos) (.for_ ts tt src x)
 | exp {sc : Scope} {e : PE} {v : Ex} {pos : Pos} : Er cf sc e v → isComp e = false → ErS cf sc (.Expr e pos) (.exp v)
 | rse {sc : Scope} {c : Nat} {e : PE} {es : List PE} {xs : List Ex} {p q pos : Pos} : Nat.beq c dbgN = false → inL c cf.xs = true → sc.names.lookup (strOf c) = some .globalImplicit → ErL cf sc (e :: es) xs → es.length ≤ 1 → ErS cf sc (.Raise (some (.Call (.Name (strOf c) p) (e :: es) [] q)) none pos) (.rse c xs)
 | try1 {sc : Scope} {c k s : Nat} {a : List PySem.Stmt} {x : List Sm} {p q q1 q2 pos : Pos} : Nat.beq c dbgN = false → inL c cf.xs = true → sc.names.lookup (strOf c) = some .globalImplicit → ErB cf sc a x → ErS cf sc (.Try a [.ExceptHandler (some (.Name (strOf c) p)) none [.Return (some (.Constant (.str (strOf s)) k q1)) q2] q] [] [] pos) (.try_ x c none [.ret (.cs s)])
 | try2 {sc : Scope} {a : List PySem.Stmt} {x y : List Sm} {c m : Nat} {hd : PySem.ExceptHandler} {hs : List PySem.ExceptHandler} {pos : Pos} : ErB cf sc a x → ErS cf sc (.Try a (hd :: hs) [] [] pos) (.try_ x c (some m) y)
 | pass {sc : Scope} {pos : Pos} : ErS cf sc (.Pass pos) .pass
 | dead {sc : Scope} {st : PySem.Stmt} : ErS cf sc st .dead
inductive ErB (cf : Cfg) : Scope → List PySem.Stmt → List Sm → Prop
 | nil {sc : Scope} : ErB cf sc [] []
 | cons {sc : Scope} {st : PySem.Stmt} {x : Sm} {ss : List PySem.Stmt} {xs : List Sm} : ErS cf sc st x → ErB cf sc ss xs → ErB cf sc (st :: ss) (x :: xs)
end
theorem swaps_plain {v : PE} {t : Option PE} {l : Nat} {env : SE} (h : isComp v = false) : swapsWith v t l env = pure false := by cases v <;> first | rfl | injection h
theorem swapped_plain {es : List PE} {v : PE} {env : SE} {k : Nat} {p : Pos} (h : isTup v = false) : swappedStores [.Tuple es k p] v env = pure none := by cases v <;> first | rfl | injection h
noncomputable def SndB (cf : Cfg) (P : Params) (b : Heap) (M : Model) (n : Nat) (r : Task → Res) : Prop := ∀ {A : Around} {stk : List SE} {fL : Addr} {en : Mine.Env} {env : SE} {s : Shared} {w : Wd} {σ : Store} {ss : List PySem.Stmt} {xs : List Sm}, Ok cf P b A n stk fL en env s w σ → ErB cf env.scope ss xs → TrB cf P b M A fL env (execs ss env) s w (r (.b en xs σ))
theorem s_nil (O : Ok cf wd.params b A (n + 1) stk fL en env s w σ) : TrB cf wd.params b (model prog wd) A fL env (execs [] env) s w (step G r (.b en [] σ)) := fun Q E f =>
 wpAny_execs_nil (FinB.nxt f O.st (.refl _ _) O.lv O.eo)
theorem s_ret (H : SndE cf wd.params b (model prog wd) n r) {e : PE} {v : Ex} {pos : Pos} {ss : List PySem.Stmt} {xs : List Sm} (O : Ok cf wd.params b A (n + 1) stk fL en env s w σ) (R : Er cf env.scope e v) :
  TrB cf wd.params b (model prog wd) A fL env (execs (.Return (some e) pos :: ss) env) s w (step G r (.b en (.ret v :: xs) σ)) := fun Q E f =>
 wpAny_execs_cons (wpAny_Return_some (Tr.bindB (H O.down R) f fun v σ1 w1 h1 tk1 val S e L d f => FinB.ret f S (.refl _ _) L d))
theorem s_ret0 {pos : Pos} {ss : List PySem.Stmt} {xs : List Sm} (O : Ok cf wd.params b A (n + 1) stk fL en env s w σ) :
  TrB cf wd.params b (model prog wd) A fL env (execs (.Return none pos :: ss) env) s w (step G r (.b en (.ret0 :: xs) σ)) := fun Q E f =>
 wpAny_execs_cons (wpAny_Return_none (FinB.ret f O.st (.refl _ _) O.lv .none))
theorem s_pass (H : SndB cf wd.params b (model prog wd) n r) {pos : Pos} {ss : List PySem.Stmt} {xs : List Sm} (O : Ok cf wd.params b A (n + 1) stk fL en env s w σ) (R : ErB cf env.scope ss xs) :
  TrB cf wd.params b (model prog wd) A fL env (execs (.Pass pos :: ss) env) s w (step G r (.b en (.pass :: xs) σ)) := fun Q E f =>
 wpAny_execs_cons (wpAny_Pass (H O.down R Q E f))
theorem s_exp (HE : SndE cf wd.params b (model prog wd) n r) (H : SndB cf wd.params b (model prog wd) n r) {e : PE} {v : Ex} {pos : Pos} {ss : List PySem.Stmt} {xs : List Sm} (O : Ok cf wd.params b A (n + 1) stk fL en env s w σ) (R : Er cf env.scope e v) (hc : isComp e = false) (RB : ErB cf env.scope ss xs) :
  TrB cf wd.params b (model prog wd) A fL env (execs (.Expr e pos :: ss) env) s w (step G r (.b en (.exp v :: xs) σ)) := fun Q E f =>
 wpAny_execs_cons (wpAny_Expr_any (Tr.bindB (HE O.down R) f fun v σ1 w1 h1 tk1 val S e1 L d f => H (O.down.to S e1 L) RB Q E f) (by
  unfold interactive
  rw [O.eo.k]; rfl) (swaps_plain hc))
theorem s_asgL (HE : SndE cf wd.params b (model prog wd) n r) (H : SndB cf wd.params b (model prog wd) n r) {x : Nat} {e : PE} {v : Ex} {pp pos : Pos} {ss : List PySem.Stmt} {xs : List Sm} (O : Ok cf wd.params b A (n + 1) stk fL en env s w σ) (hl : env.scope.names.lookup (strOf x) = some .local) (R : Er cf env.scope e v) (hc : isComp e = false) (RB : ErB cf env.scope ss xs) :
  TrB cf wd.params b (model prog wd) A fL env (execs (.Assign [.Name (strOf x) pp] e pos :: ss) env) s w (step G r (.b en (.asg (.loc x) v :: xs) σ)) := fun Q E f =>
 wpAny_execs_cons (wpAny_Assign_Name (Tr.bindB (HE O.down R) f fun v σ1 w1 h1 tk1 val S e1 L d f => store_loc (O.to (tk1 := tk1) S e1 L).eo S L hl d fun h2 w2 tk2 S2 e2 L2 eo2 z_ z_ =>
  H ((O.down.to S e1 L).set S2 e2 L2 eo2) RB Q E (FinB.move f e2)) (swaps_plain hc))
theorem s_asgC (HE : SndE cf wd.params b (model prog wd) n r) (H : SndB cf wd.params b (model prog wd) n r) {x : Nat} {e : PE} {v : Ex} {pp pos : Pos} {ss : List PySem.Stmt} {xs : List Sm} (O : Ok cf wd.params b A (n + 1) stk fL en env s w σ) (hl : env.scope.names.lookup (strOf x) = some .cell) (R : Er cf env.scope e v) (hc : isComp e = false) (RB : ErB cf env.scope ss xs) :
  TrB cf wd.params b (model prog wd) A fL env (execs (.Assign [.Name (strOf x) pp] e pos :: ss) env) s w (step G r (.b en (.asg (.cel x) v :: xs) σ)) := fun Q E f =>
 wpAny_execs_cons (wpAny_Assign_Name (Tr.bindB (HE O.down R) f fun v σ1 w1 h1 tk1 val S e1 L d f => store_cel (O.to (tk1 := tk1) S e1 L).eo S L hl d fun h2 w2 tk2 S2 e2 L2 eo2 z_ z_ =>
  H ((O.down.to S e1 L).set S2 e2 L2 eo2) RB Q E (FinB.move f e2)) (swaps_plain hc))
noncomputable def goB (G : Glob) (r : Task → Res) (xs : List Sm) (q : Res) : Res := match q with
 | .nxt en σ => r (.b en xs σ)
 | .ret v σ => .ret v σ
 | .exc c σ => .exc c σ
 | _ => .bad
set_option backward.match.sparseCases true in
theorem go_then {t : Sem Flow} {q : Res} {xs : List Sm} {ss : List PySem.Stmt} {Q : Flow → Shared → Prop} {E : VP} (h : TrB cf wd.params b (model prog wd) A fL env t s w q) (H : SndB cf wd.params b (model prog wd) n r) (O : Ok cf wd.params b A n stk fL en env s w σ) (RB : ErB cf env.scope ss xs)
  (f : FinB cf wd.params b (ownE env) fL env s w (goB G r xs q) Q E) : wpAny (model prog wd) A t (fun f s' => match f with | .next => wpAny (model prog wd) A (execs ss env) Q E s' | f => Q f s') E s := by
 cases q with
 | nxt en1 σ1 => exact h _ E fun w1 h1 tk1 S e L eo => H (O.set S e L eo) RB Q E (FinB.move (res := r (.b en1 xs σ1)) f e)
 | ret v σ1 => exact h _ E fun w1 h1 tk1 S e L val d => f w1 h1 tk1 S e L val d
 | exc c σ1 => exact h _ E f
 | oks _ _ => exact f.elim
 | ok _ _ => exact f.elim
 | bad => exact f.elim
theorem s_ife (HT : SndT cf wd.params b (model prog wd) n r) (H : SndB cf wd.params b (model prog wd) n r) {c : PE} {a o ss : List PySem.Stmt} {v : Ex} {x y xs : List Sm} {pos : Pos} (O : Ok cf wd.params b A (n + 1) stk fL en env s w σ) (R : Er cf env.scope c v) (R1 : ErB cf env.scope a x) (R2 : ErB cf env.scope o y) (RB : ErB cf env.scope ss xs) :
  TrB cf wd.params b (model prog wd) A fL env (execs (.If c a o pos :: ss) env) s w (step G r (.b en (.ife v x y :: xs) σ)) := fun Q E f =>
 wpAny_execs_cons (wpAny_If (TrT.bindB (HT O.down R) f (fun v σ h => nobool h) fun v σ1 w1 h1 tk1 S e L f => by
  cases v with
  | true => exact go_then (G := G) (H (O.down.to S e L) R1) @H (O.down.to S e L) RB f
  | false => exact go_then (G := G) (H (O.down.to S e L) R2) @H (O.down.to S e L) RB f))
theorem nat_ne {k y : Nat} (q : Nat.beq k y = false) : k ≠ y := fun e => by rw [e, Nat.beq_refl] at q; injection q
theorem mem_putN {k : Nat} {v : V} {kvs : List (Nat × V)} {p : Nat × V} (h : p ∈ putN k v kvs) : p.1 = k ∨ ∃ q ∈ kvs, q.1 = p.1 := by
 induction kvs with
 | nil => rw [List.mem_singleton.mp h]; exact .inl rfl
 | cons z r ih =>
  unfold putN at h
  cases q : Nat.beq k z.1 with
  | true =>
   rw [q] at h
   rcases List.mem_cons.mp h with rfl | h
   ·exact .inr ⟨z, .head _, rfl⟩
   ·exact .inr ⟨p, .tail _ h, rfl⟩
  | false =>
   rw [q] at h
   rcases List.mem_cons.mp h with rfl | h
   ·exact .inr ⟨z, .head _, rfl⟩
   ·exact (ih h).imp id fun ⟨y, hy, e⟩ => ⟨y, .tail _ hy, e⟩
theorem nodup_putN {k : Nat} {v : V} {kvs : List (Nat × V)} (h : (kvs.map (·.1)).Nodup) : ((putN k v kvs).map (·.1)).Nodup := by
 induction kvs with
 | nil => exact List.nodup_cons.mpr ⟨List.not_mem_nil, List.nodup_nil⟩
 | cons z r ih =>
  have hc := List.nodup_cons.mp h
  unfold putN
  cases q : Nat.beq k z.1 with
  | true => exact h
  | false =>
   refine List.nodup_cons.mpr ⟨fun hm => ?_, ih hc.2⟩
   obtain ⟨p, hp, e⟩ := mmp hm
   rcases mem_putN hp with h1 | ⟨y, hy, e2⟩
   ·exact nat_ne q (h1.symm.trans e)
   ·exact hc.1 (List.mem_map.mpr ⟨y, hy, e2.trans e⟩)
theorem denD_put {fz : Led} {rho : List Addr} {k : Nat} {x : V} {v : Value} {t : Tok} (d : Den cf P b fz rho x v) {kvs : List (Nat × V)} {es : List DictEntry} (h : DenD cf P b fz rho kvs es) :
  DenD cf P b fz rho (putN k x kvs) (W.putL (strOf k) (PyData.keyHash P (strOf k)) (.str (strOf k) t) v es) ∧ (W.putL (strOf k) (PyData.keyHash P (strOf k)) (.str (strOf k) t) v es).length ≤ kvs.length + 1 := by
 induction kvs generalizing es with
 | nil => obtain rfl := h.nil_inv; exact ⟨.cons (fun z_ h => nomatch h) d .nil, Nat.le_refl _⟩
 | cons z r ih =>
  obtain ⟨t', v', es, rfl, f, d', l⟩ := h.cons_inv
  unfold putN W.putL
  cases q : Nat.beq k z.1 with
  | true =>
   rw [← nbe q] at f ⊢
   rw [if_pos isStr_eq]
   exact ⟨.cons f d l, Nat.le_trans (Nat.le_of_eq (congrArg (· + 1) (denD_len l))) (Nat.le_succ _)⟩
  | false =>
   rw [if_neg (by rw [isStr_ne q]; exact Bool.false_ne_true)]
   refine ⟨.cons (fun p hp e => ?_) d' (ih l).1, Nat.succ_le_succ (ih l).2⟩
   rcases mem_putN hp with h | ⟨z, hz, e2⟩
   ·exact nat_ne q (h.symm.trans e)
   ·exact f z hz (e2.trans e)
theorem pv_put {fz : Led} {rho : List Addr} {k : Nat} {x : V} {v : Value} (d : Den cf P b fz rho x v) {kvs : List (Nat × V)} {kv : List (Str × Value)} (h : PV cf P b fz rho kvs kv) (nd : (kv.map (·.1)).Nodup) : PV cf P b fz rho (putN k x kvs) (stored kv (strOf k) v) := by
 induction kvs generalizing kv with
 | nil => cases kv with
  | nil => exact ⟨rfl, d, trivial⟩
  | cons => exact h.elim
 | cons p r ih => cases kv with
  | nil => exact h.elim
  | cons z r' =>
  obtain ⟨e, d', h⟩ := h
  have hc := List.nodup_cons.mp nd
  have ih := ih h hc.2
  unfold putN
  unfold stored at ih ⊢
  cases q : Nat.beq k p.1 with
  | true =>
   have e' : z.1 = strOf k := by rw [e, nbe q]
   rw [if_pos (by rw [List.any_cons, decide_eq_true e']; rfl), List.map_cons, if_pos e', map_store_of_not_mem _ _ _ (e' ▸ hc.1)]
   exact ⟨e, d, h⟩
  | false =>
   have hne : ¬ (z.1 = strOf k) := fun e' => nat_ne q (strOf_inj (e.symm.trans e')).symm
   rw [List.any_cons, decide_eq_false hne, Bool.false_or]
   revert ih
   split
   ·rw [List.map_cons, if_neg hne]; exact fun ih => ⟨e, d', ih⟩
   ·exact fun ih => ⟨e, d', ih⟩
theorem objV_eq {v : V} {j : Nat} (e : objV v = some j) : ∃ c, v = .obj c j := by cases v <;> cases e; exact ⟨_, rfl⟩
theorem refV_eq {v : V} {j : Nat} (e : refV v = some j) : v = .ref j := by cases v <;> cases e; rfl
theorem upD_eq {j k : Nat} {v : V} {kvs : List (Nat × V)} {σ' : Store} (e : upD σ j k v kvs = some σ') : kvs.length ≤ 500 ∧ σ.set j (.dct (putN k v kvs)) = σ' := by
 obtain ⟨h1, h2⟩ := pick_invL e
 exact ⟨nle h1, h2⟩
theorem upd_at {h h' : Heap} {so : SO} {o' : Obj} {j : Nat} {a : Addr} (S : St cf b h w) (L : Live cf P b w σ) (hr : w.rho[j]? = some a) (hsb : Heap.SameBut a h h') (hg : h'.get? a = some o') (hf : ∀ vs, o'.data ≠ .fields vs) (X : ObjOk cf P b w so o') :
  ∃ w', St cf b h' w' ∧ Ext [] w w' ∧ Live cf P b w' (σ.set j so) :=
 ⟨_, S.upd (S.rho a (List.mem_of_getElem? hr)) (fun a o hne e => (hsb.2 a hne).trans e) hg hf, ext_upd (.inr (List.mem_of_getElem? hr)), L.updS S hr X⟩
theorem s_asgA (HE : SndE cf wd.params b (model prog wd) n r) (H : SndB cf wd.params b (model prog wd) n r) (B : Bs cf K p loose mean mg mb wd.params b G) {o e : PE} {m : Nat} {x v : Ex} {pp pos : Pos} {ss : List PySem.Stmt} {xs : List Sm} (O : Ok cf wd.params b A (n + 1) stk fL en env s w σ)
  (R : Er cf env.scope e v) (hc : isComp e = false) (R1 : Er cf env.scope o x) (hm : inL m cf.an = true) (RB : ErB cf env.scope ss xs) :
  TrB cf wd.params b (model prog wd) A fL env (execs (.Assign [.Attribute o (strOf m) pp] e pos :: ss) env) s w (step G r (.b en (.asg (.att x m) v :: xs) σ)) := fun Q E f => by
 refine wpAny_execs_cons (plainObj_wpAny_Assign_Attribute (Tr.bindB (HE O.down R) f fun v1 σ1 w1 h1 tk1 val1 S1 e1 L1 d1 f => Tr.bindB (HE (O.down.to S1 e1 L1) R1) f fun v2 σ2 w2 h2 tk2 val2 S2 e2 L2 d2 f => ?_) (swaps_plain hc))
 have O2 := (O.down.to (tk1 := tk1) S1 e1 L1).to (tk1 := tk2) S2 e2 L2
 obtain ⟨j, e5, f1⟩ := f.need
 obtain ⟨kvs, e6, f2⟩ := f1.need
 obtain ⟨σ4, e7, f3⟩ := f2.need
 clear f f1 f2
 obtain ⟨c, rfl⟩ := objV_eq e5
 have hj := dctAt_eq e6
 obtain ⟨hz, rfl⟩ := upD_eq e7
 clear e5 e6 e7
 obtain ⟨xx, C, dx, rfl, hC, q, hrho⟩ := d2.inv
 have g1 := S2.at_ q
 obtain ⟨a, o', h2', hmu, g2, es, k, rfl, l⟩ := L2.ref S2 (.ref hrho) hj
 injection h2' with h2'; subst h2'
 obtain ⟨p1, p2, p3, p4, p5, p6⟩ := B.att c C m hC hm
 obtain ⟨oL, mL, hmL, hnL, hlocL⟩ := O2.eo.loc
 have hdx : dx ≠ env.locals := fun q => O2.eo.lnr (q ▸ List.mem_of_getElem? hrho)
 have hg := getL_den (k := m) l
 have hgs : (getL (strOf m) es).isSome = true := by
  revert hg
  cases lookN m kvs with
  | none => exact fun hg => congrArg Option.isSome hg.1
  | some z => exact fun ⟨_, hg, _⟩ => congrArg Option.isSome hg
 have hmem : (dx, dictOf es k) ∈ (w2.all cf).filter fun p => !decide (p.1 = env.locals) := List.mem_filter.mpr ⟨mem_mu hmu, by simpa using hdx⟩
 refine set_dict (s := { s with heap := h2, toks := tk2 }) (S2.frm hmL hnL O2.eo.lge) B.X S2.news (inst_at g1 g2) rfl p4 p5 p6 p2 hgs rfl
  (upd_of (List.Nodup.sublist (List.Sublist.map _ List.filter_sublist) S2.nd) hmem) (Nat.le_trans (denD_put (d1.ext e2) l).2 (Nat.succ_le_succ (Nat.le_trans hz (by decide)))) fun h' F' N' => ?_
 obtain ⟨o', S3, e3, hn3⟩ := S2.byNewsU hmL hnL hdx hmu (fun z_ q => by injection q) rfl F' N'
 have e4 := (ext_upd (.inr (List.mem_of_getElem? hrho))).trans e3
 exact H (O2.to S3 e4 ((L2.updS S2 hrho (so := .dct (putN m v1 kvs)) ⟨_, _, rfl, (denD_put (d1.ext e2) l).1⟩).updO O2.eo.lnr)) RB Q E (FinB.move f3 (e4.weaken fun z_ q => absurd q List.not_mem_nil))
theorem setItem_raw {l : Addr} {items : Array Value} {q : Nat} {k : Int} {t : Tok} {v : Value} {Q : Unit → Shared → Prop} {E : VP} (ho : s.heap.get? l = some (listOf items q)) (h0 : 0 ≤ k) (hn : k < items.size) (hfit : k < 2 ^ 63)
  (hQ : ∀ h' q', h'.get? l = some (listOf (items.setIfInBounds k.toNat v) q') → Heap.SameBut l s.heap h' → Q () { s with heap := h' }) : wpAny (model prog wd) A (setItem (.ref l) (.int k t) v) Q E s := by
 have hl : s.heap.IsList l items := ⟨_, ho, rfl, _, rfl⟩
 unfold setItem
 try with_reducible refine wpAny_holding ?_
 first | refine wpAny_bind (wpAny_pure ?_) | skip
 refine wpAny_bind (wpAny_sequenceKey hl.typeIs (by decide) ?_)
 refine wpAny_bind (wpAny_callSpecial?_slot (name := Str.ofString "__setitem__") hl.typeIs slot_list_setitem
  (wpAny_call_entry slot_list_setitem hl.typeIs entry_list_setitem ?_ (args_list_setitem _ _ _)))
 show wpAny _ _ (Builtin.List.listSubscript? (.int k t) >>= _) _ _ s
 refine wpAny_bind (wpAny_listSubscript_int (fitsIndex_of h0 hfit) ?_)
 clear hfit
 obtain ⟨j, rfl⟩ := Int.eq_ofNat_of_zero_le h0
 have hj : j < items.size := by omega
 have hx' : items[j]? = some items[j] := Array.getElem?_eq_getElem hj
 have hd : (listOf items q).data = .seq items q := rfl
 show wpAny _ _ ((seqItemAt l j >>= fun r => pure (r.map (j, ·))) >>= _) _ _ s
 refine wpAny_bind (wpAny_bind (wpAny_seqItemAt ho hd (wpAny_pure ?_)))
 rw [hx']
 show wpAny _ _ (setSeqItemAt l j v >>= _) _ _ s
 have hfin : ∃ q', (s.heap.update l (Obj.mapSeq (·.setIfInBounds j v))).get? l = some (listOf (items.setIfInBounds j v) q') := by
  obtain ⟨n', hd'⟩ := Obj.data_mapSeq hd (·.setIfInBounds j v)
  refine ⟨n', (Heap.get?_update_self _ ho (Obj.isFreed_of_seq hd')).trans ?_⟩
  have e1 : (Obj.mapSeq (fun x => x.setIfInBounds j v) (listOf items q)).cls = .type "list" := Obj.cls_mapSeq ..
  have e2 : (Obj.mapSeq (fun x => x.setIfInBounds j v) (listOf items q)).dict = none := rfl
  have e3 : (Obj.mapSeq (fun x => x.setIfInBounds j v) (listOf items q)).slots = #[] := rfl
  generalize Obj.mapSeq (fun x => x.setIfInBounds j v) (listOf items q) = oo at *
  obtain ⟨a1, a2, a3, a4⟩ := oo
  dsimp only at e1 e2 e3 hd'
  subst e1 e2 e3 hd'
  rfl
 obtain ⟨q', hfin⟩ := hfin
 refine wpAny_bind (wpAny_setSeqItemAt ho hd ?_)
 first
  | exact wpAny_bind (wpAny_pure (wpAny_pure ⟨.none, rfl, wpAny_pure (hQ _ q' hfin (Heap.SameBut.update ..))⟩))
  | exact wpAny_pure ⟨.none, rfl, wpAny_pure (hQ _ q' hfin (Heap.SameBut.update ..))⟩
theorem upL_at {j i : Nat} {v : V} {val u : Value} {t : Tok} {xs : List V} {σ' : Store} {Q : Unit → Shared → Prop} {E : VP} (S : St cf b s.heap w) (L : Live cf wd.params b w σ) (d : DenW cf wd.params b w v val) (d2 : DenW cf wd.params b w (.ref j) u) (hj : lstAt σ j = some xs) (hu : upL σ j i v xs = some σ')
  (q : ∀ h' w' tk, St cf b h' w' → Ext [] w w' → Live cf wd.params b w' σ' → Q () { s with heap := h', toks := tk }) : wpAny (model prog wd) A (setItem u (.int i t) val) Q E s := by
 unfold upL at hu
 cases hp : place (.ofNat i) xs.length with
 | none => rw [hp] at hu; exact noS hu
 | some kk =>
 rw [hp] at hu
 cases hu
 obtain ⟨q1, q2, q3, q4⟩ := place_at hp
 cases idx_pos q3 (Int.natCast_nonneg i)
 obtain ⟨a, o, rfl, g2, g3, vs, m, rfl, g4⟩ := L.ref S d2 (lstAt_eq hj)
 obtain ⟨a', e, hr⟩ := d2.inv
 cases e
 refine setItem_raw g3 (Int.natCast_nonneg i) (by rw [List.size_toArray, g4.length]; exact Int.ofNat_lt.mpr q4) q2 fun h' q' hg hsb => ?_
 obtain ⟨w', S', e', L'⟩ := upd_at S L hr hsb hg (fun z_ q => nomatch q) (so := .lst (xs.set i v)) ⟨vs.set i val, q', by rw [Int.toNat_natCast, List.setIfInBounds_toArray], DenL.set i d g4⟩
 exact q h' w' s.toks S' e' L'
theorem up_at {j : Nat} {y v : V} {val u ky : Value} {σ' : Store} {Q : Unit → Shared → Prop} {E : VP} (S : St cf b s.heap w) (L : Live cf wd.params b w σ) (d : DenW cf wd.params b w v val) (d2 : DenW cf wd.params b w (.ref j) u) (d3 : DenW cf wd.params b w y ky) (hu : upS σ j y v = some σ')
  (q : ∀ h' w' tk, St cf b h' w' → Ext [] w w' → Live cf wd.params b w' σ' → Q () { s with heap := h', toks := tk }) : wpAny (model prog wd) A (setItem u ky val) Q E s := by
 unfold upS at hu
 cases ey : strV y with
 | none =>
  rw [ey] at hu
  obtain ⟨i, e1, hu1⟩ := obe hu
  obtain ⟨k, e2, hu2⟩ := obe hu1
  obtain ⟨xs, e3, hu3⟩ := obe hu2
  clear hu hu1 hu2
  obtain rfl := intV_eq e1
  obtain rfl := natI_eq e2
  obtain ⟨t, rfl⟩ := den_int d3
  exact upL_at S L d d2 e3 hu3 q
 | some k =>
  rw [ey] at hu
  obtain ⟨kvs, e3, hu1⟩ := obe hu
  clear hu
  obtain ⟨hz, rfl⟩ := upD_eq hu1
  obtain rfl := strV_eq ey
  obtain ⟨t, rfl⟩ := den_str d3
  obtain ⟨a, o, rfl, g2, g3, es, m, rfl, g4⟩ := L.ref S d2 (dctAt_eq e3)
  obtain ⟨a', e, hr⟩ := d2.inv
  injection e with e; subst e
  obtain ⟨kv, p1, p2⟩ := DenD.dictOf (prog := prog) (w := wd) (n := m) rfl g4
  have D : s.heap.DictOf (strKind prog wd) a kv := Heap.dictOf_iff.mpr ⟨_, g3, p2⟩
  obtain ⟨_, _, _, hd, _, hlen, hnd⟩ := p2
  injection hd with j1 j2; subst j1; subst j2
  have hlen : kv.length = kvs.length := hlen.length.symm.trans (denD_len g4)
  refine wpAny_setItem_pairs (strKind_is prog wd _ _) D (fun h' D' hsb => ?_) (by rw [hlen]; exact Nat.le_trans hz (by decide))
  obtain ⟨es', mm, hg, dd⟩ := dict_obj (cf := cf) (b := b) (fz := w.fz) (rho := w.rho) rfl D' (pv_put d p1 hnd) (nodup_putN g4.keys)
  obtain ⟨w', S', e', L'⟩ := upd_at S L hr hsb hg (fun z_ q => nomatch q) (so := .dct (putN k v kvs)) ⟨es', mm, rfl, dd⟩
  exact q h' w' _ S' e' L'
theorem s_asgS (HE : SndE cf wd.params b (model prog wd) n r) (H : SndB cf wd.params b (model prog wd) n r) (hs : ∃ o, b.get? sysModules = some o) {o i e : PE} {x y v : Ex} {pp pos : Pos} {ss : List PySem.Stmt} {xs : List Sm} (O : Ok cf wd.params b A (n + 1) stk fL en env s w σ)
  (R : Er cf env.scope e v) (hc : isComp e = false) (R1 : Er cf env.scope o x) (R2 : Er cf env.scope i y) (RB : ErB cf env.scope ss xs) :
  TrB cf wd.params b (model prog wd) A fL env (execs (.Assign [.Subscript o i pp] e pos :: ss) env) s w (step G r (.b en (.asg (.sub x y) v :: xs) σ)) := fun Q E f => by
 refine wpAny_execs_cons (wpAny_Assign_Subscript (Tr.bindB (HE O.down R) f fun v1 σ1 w1 h1 tk1 val1 S1 e1 L1 d1 f => Tr.bindB (HE (O.down.to S1 e1 L1) R1) f fun v2 σ2 w2 h2 tk2 val2 S2 e2 L2 d2 f =>
  Tr.bindB (HE ((O.down.to (tk1 := tk1) S1 e1 L1).to S2 e2 L2) R2) f fun v3 σ3 w3 h3 tk3 val3 S3 e3 L3 d3 f => ?_) (swaps_plain hc))
 have O3 := ((O.down.to (tk1 := tk1) S1 e1 L1).to (tk1 := tk2) S2 e2 L2).to (tk1 := tk3) S3 e3 L3
 have d1 := d1.ext e2
 have d2' := d2.ext e3
 obtain ⟨j, e5, f1⟩ := f.need
 obtain ⟨σ4, e6, f3⟩ := f1.need
 clear f f1
 obtain rfl := refV_eq e5
 refine up_at S3 L3 (d1.ext e3) d2' d3 e6 fun h' w' tk S4 e4 L4 => H (O3.to S4 e4 L4) RB Q E (FinB.move f3 (e4.weaken fun z_ q => absurd q List.not_mem_nil))
theorem St.extBut (S : St cf b s.heap w) {h' : Heap} (e : Heap.ExtBut s.heap.objs.size s.heap h') : St cf b h' w := S.keeps fun a o g => e a o (Nat.ne_of_lt (Heap.lt_size g)) g
theorem unpack_at (hh : A.handled = none) (S : St cf b s.heap w) (L : Live cf wd.params b w σ) {v : V} {val : Value} {vs : List V} (d : DenW cf wd.params b w v val) (e : seqOf σ v = some vs) {k : Nat} (hk : k = vs.length) {Q : List Value → Shared → Prop} {E : VP}
  (q : ∀ h' vals, St cf b h' w → DenLW cf wd.params b w vs vals → Q vals { s with heap := h' }) : wpAny (model prog wd) A (unpackItems val k none) Q E s := by
 obtain ⟨a, vals, m, rfl, h1, h2⟩ := seqOf_at S L d e
 have hl : k = vals.toArray.size := by rw [hk, List.size_toArray, h2.length]
 rw [hl]
 rcases h1 with h1 | h1
 ·exact kun_itemsOf hh ⟨_, h1, rfl, _, rfl⟩ fun h' he => q h' _ (S.extBut he) (by simpa using h2)
 ·exact wpAny_unpackItems_tuple hh ⟨_, h1, rfl, _, rfl⟩ fun h' he => q h' _ (S.extBut he) (by simpa using h2)
theorem tg_each {sc : Scope} {es : List PE} {ts : List (VK × Nat)} (h : TgL sc es ts) (env : SE) : (assignEach es env).length = ts.length ∧ (assignEach es env).findIdx? (·.1) = none := by
 induction h with
 | nil => exact ⟨rfl, rfl⟩
 | @cons _ _ _ es _ _ _ _ ih =>
  refine ⟨congrArg (· + 1) ih.1, ?_⟩
  show List.findIdx? _ ((false, _) :: assignEach es env) = none
  rw [List.findIdx?_cons, ih.2]; rfl
theorem setAll_cons {k : VK} {x : Nat} {r : List (VK × Nat)} {vs : List V} {en en' : Mine.Env} (h : setAll en ((k, x) :: r) vs = some en') : ∃ v vs', vs = v :: vs' ∧ setAll (setV en k x v) r vs' = some en' := by
 cases vs with
 | nil => exact noS h
 | cons v vs => exact ⟨v, vs, rfl, h⟩
theorem setAll_nil {vs : List V} {en en' : Mine.Env} (h : setAll en [] vs = some en') : vs = [] ∧ en = en' := by
 cases vs with
 | nil => exact ⟨rfl, Option.some.inj h⟩
 | cons v vs => exact noS h
theorem setAll_len {ts : List (VK × Nat)} {vs : List V} {en en' : Mine.Env} (h : setAll en ts vs = some en') : ts.length = vs.length := by
 induction ts generalizing vs en with
 | nil => rw [(setAll_nil h).1]; rfl
 | cons t r ih => obtain ⟨v, vs', rfl, h⟩ := setAll_cons h; exact congrArg (· + 1) (ih h)
theorem store_any {k : VK} {x : Nat} {v : V} {val : Value} {Q : Unit → Shared → Prop} {E : VP} (eo : EnvOk cf P b en env w) (S : St cf b s.heap w) (L : Live cf P b w σ) (hl : env.kindOf (strOf x) = some (kV k)) (hk : k ≠ .glo) (d : DenW cf P b w v val)
  (q : ∀ h' w' tk, St cf b h' w' → Ext (ownE env) w w' → Live cf P b w' σ → EnvOk cf P b (setV en k x v) env w' → Q () { s with heap := h', toks := tk }) : wpAny (model prog wd) A (storeName env (strOf x) val) Q E s := by
 cases k with
 | loc => exact store_loc eo S L hl d fun h' w' tk S1 e1 L1 eo1 z_ z_ => q h' w' tk S1 e1 L1 eo1
 | cel => exact store_cel eo S L hl d fun h' w' tk S1 e1 L1 eo1 z_ z_ => q h' w' tk S1 e1 L1 eo1
 | glo => exact absurd rfl hk
theorem assign_all {sc : Scope} {es : List PE} {ts : List (VK × Nat)} (h : TgL sc es ts) : ∀ {en en' : Mine.Env} {s : Shared} {w : Wd} {vs : List V} {vals : List Value} {Q : Unit → Shared → Prop} {E : VP}, env.scope = sc → EnvOk cf P b en env w → St cf b s.heap w → Live cf P b w σ → DenLW cf P b w vs vals → setAll en ts vs = some en' →
  (∀ h' w' tk, St cf b h' w' → Ext (ownE env) w w' → Live cf P b w' σ → EnvOk cf P b en' env w' → Q () { s with heap := h', toks := tk }) → wpAny (model prog wd) A (assignInOrder ((assignEach es env).map (·.2)) vals) Q E s := by
 induction h with
 | nil =>
  intro en en' s w vs vals Q E hsc eo S L d e q
  obtain ⟨rfl, rfl⟩ := setAll_nil e
  obtain rfl := d.nil_inv
  exact wpAny_pure (q s.heap w s.toks S (.refl _ _) L eo)
 | @cons k x p es ts hk hx _ ih =>
  intro en en' s w vs vals Q E hsc eo S L d e q
  obtain ⟨v, vs', rfl, e⟩ := setAll_cons e
  obtain ⟨_, _, rfl, d1, d2⟩ := d.cons_inv
  exact wpAny_assignInOrder_more (assign_Name (store_any eo S L (show env.scope.names.lookup _ = _ from hsc.symm ▸ hx) hk d1 fun h' w' tk S1 e1 L1 eo1 =>
   ih hsc eo1 S1 L1 (DenLW.ext d2 e1) e fun h2 w2 tk2 S2 e2 L2 eo2 => q h2 w2 tk2 S2 (e1.trans e2) L2 eo2))
theorem tup_store {es : List PE} {ts : List (VK × Nat)} {k : Nat} {pp : Pos} {en' : Mine.Env} {v : V} {val : Value} {vs : List V} (RT : TgL env.scope es ts) (hh : A.handled = none) (eo : EnvOk cf wd.params b en env w) (S : St cf b s.heap w) (L : Live cf wd.params b w σ) (d : DenW cf wd.params b w v val) (q1 : seqOf σ v = some vs) (q2 : setAll en ts vs = some en') {Q : Unit → Shared → Prop} {E : VP}
  (q : ∀ h' w' tk, St cf b h' w' → Ext (ownE env) w w' → Live cf wd.params b w' σ → EnvOk cf wd.params b en' env w' → Q () { s with heap := h', toks := tk }) : wpAny (model prog wd) A (assign (.Tuple es k pp) env val) Q E s := by
 rw [arm_assign_Tuple]
 refine wpAny_bind (wpAny_standAt ?_)
 unfold unpack
 rw [(tg_each RT env).1, (tg_each RT env).2]
 exact wpAny_bind (wpAny_holding (unpack_at hh S L d q1 (setAll_len q2) fun h2 vals S2 d2 => assign_all RT rfl eo S2 L d2 q2 q))
theorem lookN_swap {x y z : Nat} {u v : V} {l : List (Nat × V)} (h : x ≠ y) : lookN z ((x, u) :: (y, v) :: l) = lookN z ((y, v) :: (x, u) :: l) := by
 show (match Nat.beq z x with | true => some u | false => (match Nat.beq z y with | true => some v | false => lookN z l)) = (match Nat.beq z y with | true => some v | false => (match Nat.beq z x with | true => some u | false => lookN z l))
 cases q1 : Nat.beq z x with
 | false => cases Nat.beq z y <;> rfl
 | true =>
  cases q2 : Nat.beq z y with
  | false => rfl
  | true => exact absurd ((nbe q1).symm.trans (nbe q2)) h
theorem EnvOk.congr {en en' : Mine.Env} (eo : EnvOk cf P b en env w) (h : ∀ z, lookN z en'.locs = lookN z en.locs) (h2 : en'.cels = en.cels) : EnvOk cf P b en' env w := by
 obtain ⟨o, m, hm, hn, hl⟩ := eo.loc
 exact ⟨⟨o, m, hm, hn, fun x v hx => hl x v (by rw [← h]; exact hx)⟩, eo.lnr, eo.lge, fun x v hx hx2 => eo.cel x v (by rw [← h2]; exact hx) hx2, eo.cnr, eo.cnd, eo.g, eo.bt, eo.k, eo.chas, eo.lamc⟩
theorem s_asgT (HE : SndE cf wd.params b (model prog wd) n r) (H : SndB cf wd.params b (model prog wd) n r) {es : List PE} {e : PE} {ts : List (VK × Nat)} {v : Ex} {k : Nat} {pp pos : Pos} {ss : List PySem.Stmt} {xs : List Sm} (O : Ok cf wd.params b A (n + 1) stk fL en env s w σ)
  (RT : TgL env.scope es ts) (R : Er cf env.scope e v) (hc : isComp e = false) (SW : SwapOk env.scope es e ts) (RB : ErB cf env.scope ss xs) :
  TrB cf wd.params b (model prog wd) A fL env (execs (.Assign [.Tuple es k pp] e pos :: ss) env) s w (step G r (.b en (.asg (.tup ts) v :: xs) σ)) := fun Q E f => by
 have hsw : swapsWithSole [.Tuple es k pp] e pos.line env = pure false := by show swapsWith e (some (.Tuple es k pp)) pos.line env = pure false; exact swaps_plain hc
 cases SW with
 | plain hpl =>
  refine wpAny_execs_cons (Assign_Tuple (Tr.bindB (HE O.down R) f fun v1 σ1 w1 h1 tk1 val S e1 L d f => ?_) hsw (hpl env rfl O.eo.k k pp))
  obtain ⟨vs, q1, f⟩ := f.need
  obtain ⟨en', q2, f⟩ := f.need
  exact tup_store RT O.cx.hh (O.to (tk1 := tk1) S e1 L).eo S L d q1 q2 fun h3 w3 tk3 S3 e3 L3 eo3 => H ((O.down.to (tk1 := tk1) S e1 L).set S3 e3 L3 eo3) RB Q E (FinB.move f e3)
 | @swap x y hxy hpl hx hy =>
  refine wpAny_execs_cons (Assign_Tuple_swapped (Tr.bindB (HE O.down R) f fun v1 σ1 w1 h1 tk1 val S e1 L d f => ?_) hsw (hpl env rfl O.eo.k k pp))
  obtain ⟨vs, q1, f⟩ := f.need
  obtain ⟨en', q2, f⟩ := f.need
  have hlen := setAll_len q2
  refine unpack_at O.cx.hh S L d q1 hlen fun h2 vals S2 d2 => ?_
  obtain ⟨u1, vs1, rfl, q3⟩ := setAll_cons q2
  obtain ⟨u2, vs2, rfl, q4⟩ := setAll_cons q3
  obtain ⟨rfl, rfl⟩ := setAll_nil q4
  clear q2 q3 q4
  obtain ⟨_, _, rfl, da, d3⟩ := d2.cons_inv
  obtain ⟨_, _, rfl, db, d4⟩ := d3.cons_inv
  obtain rfl := d4.nil_inv
  have O1 := (O.to (tk1 := tk1) S e1 L)
  refine wpAny_assignInOrder_more (bindName_ (store_loc (s := { s with heap := h2, toks := tk1 }) O1.eo S2 L hy db fun h3 w3 tk3 S3 e3 L3 eo3 z_ z_ => ?_))
  refine wpAny_assignInOrder_more (bindName_ (store_loc (s := { s with heap := h3, toks := tk3 }) eo3 S3 L3 hx (DenW.ext da e3) fun h4 w4 tk4 S4 e4 L4 eo4 z_ z_ => ?_))
  refine wpAny_pure ?_
  have eo5 : EnvOk cf wd.params b (setV (setV en .loc x u1) .loc y u2) env w4 := eo4.congr (fun z => lookN_swap (Ne.symm hxy)) rfl
  exact H ((O.down.to (tk1 := tk1) S e1 L).set S4 (e3.trans e4) L4 eo5) RB Q E (FinB.move f (e3.trans e4))
section
variable {h h' : Heap} {ex : Addr} {c : Nat}
noncomputable def hid (w : Wd) (more : List Addr) : List Addr := (w.mu.map (·.1)).filter (fun a => !decide (a ∈ w.rho)) ++ more
noncomputable def ghB (h : Heap) (w : Wd) (more : List Addr) : Heap := hideAll h (hid w more)
theorem hid_in {more : List Addr} {a : Addr} (h1 : a ∈ w.mu.map (·.1)) (h2 : a ∉ w.rho) : a ∈ hid w more := List.mem_append_left _ (List.mem_filter.mpr ⟨h1, by simpa using h2⟩)
theorem hid_cases {more : List Addr} {a : Addr} (h : a ∈ hid w more) : (a ∈ w.mu.map (·.1) ∧ a ∉ w.rho) ∨ a ∈ more := by
 rcases List.mem_append.mp h with h | h
 ·obtain ⟨h1, h2⟩ := List.mem_filter.mp h
  exact .inl ⟨h1, by simpa using h2⟩
 ·exact .inr h
theorem gh_stays {more : List Addr} : (ghB h w more).StaysIn h := fun z_ z_ e => of_hideAll _ e
theorem gh_none {more : List Addr} {a : Addr} (h1 : a ∈ hid w more) : (ghB h w more).get? a = none := hideAll_none _ h1
noncomputable def reMu (h' : Heap) (w : Wd) : Wd := { w with mu := w.mu.map fun p => if p.1 ∈ w.rho then p else (p.1, (h'.get? p.1).getD p.2) }
theorem reMu_keys : (reMu h' w).mu.map (·.1) = w.mu.map (·.1) := by
 unfold reMu
 rw [List.map_map]
 refine List.map_congr_left fun p z_ => ?_
 show (if p.1 ∈ w.rho then p else _).1 = p.1
 split <;> rfl
theorem reMu_all : (Wd.all cf (reMu h' w)).map (·.1) = (w.all cf).map (·.1) := by
 have := reMu_keys (h' := h') (w := w)
 simp only [Wd.all, List.map_append, this]
 rfl
theorem St.re (S : St cf b h w) (L : Live cf P b w σ) {more : List Addr} (hm : ∀ a ∈ more, a ∉ (w.all cf).map (·.1) ∧ b.get? a = none) (k1 : (ghB h w more).StaysIn h') (k2 : h.UpToSlots h') :
  St cf b h' (reMu h' w) ∧ Ext [] w (reMu h' w) ∧ Live cf P b (reMu h' w) σ := by
 have keepB : ∀ a o, b.get? a = some o → h'.get? a = some o := fun a o e => by
  refine k1 a o (hideAll_get _ (S.stays _ _ e) fun q => ?_)
  rcases hid_cases q with ⟨q, _⟩ | q
  ·obtain ⟨p, hp, e'⟩ := mmp q
   have := S.new p (mem_mu hp)
   rw [e', e] at this; injection this
  ·rw [(hm a q).2] at e; exact noS e
 have keepT : ∀ p ∈ w.all cf, (p.1 ∉ w.mu.map (·.1) ∨ p.1 ∈ w.rho) → h'.get? p.1 = some p.2 := fun p hp hc => by
  refine k1 _ _ (hideAll_get _ (S.kn p hp) fun q => ?_)
  rcases hid_cases q with ⟨q1, q2⟩ | q
  ·rcases hc with hc | hc
   ·exact hc q1
   ·exact q2 hc
  ·exact (hm _ q).1 (mmo hp)
 have slotM : ∀ p ∈ w.mu, ∃ sl, h'.get? p.1 = some { p.2 with slots := sl } := fun p hp => k2 _ _ (S.kn p (mem_mu hp)) (S.nf p hp)
 have inMu : ∀ p ∈ (reMu h' w).mu, ∃ q ∈ w.mu, p.1 = q.1 ∧ h'.get? p.1 = some p.2 ∧ Sim q.2 p.2 ∧ ((q.1 ∈ w.rho ∧ p = q) ∨ (q.1 ∉ w.rho ∧ ∃ sl, p.2 = { q.2 with slots := sl })) := fun p hp => by
  obtain ⟨q, hq, e⟩ := mmp hp
  by_cases hr : q.1 ∈ w.rho
  ·rw [if_pos hr] at e
   subst e
   exact ⟨q, hq, rfl, keepT q (mem_mu hq) (.inr hr), .refl _, .inl ⟨hr, rfl⟩⟩
  ·rw [if_neg hr] at e
   subst e
   obtain ⟨sl, g⟩ := slotM q hq
   refine ⟨q, hq, rfl, ?_, ?_, .inr ⟨hr, sl, ?_⟩⟩
   ·show h'.get? q.1 = some ((h'.get? q.1).getD q.2)
    rw [g]; rfl
   ·show Sim q.2 ((h'.get? q.1).getD q.2)
    rw [g]; exact .slots _ _
   ·show (h'.get? q.1).getD q.2 = _
    rw [g]; rfl
 have notMu : ∀ p : Addr × Obj, (p ∈ w.fz ∨ p ∈ w.xt ∨ p = (cf.tabA, tabObj w.tb)) → p.1 ∉ w.mu.map (·.1) := fun r hr hd => by
  have e1 := S.nd
  simp only [Wd.all, List.map_append] at e1
  rw [List.nodup_append, List.nodup_append, List.nodup_append] at e1
  rcases hr with hr | hr | hr
  ·exact e1.2.2 _ (mmo hr) _ (List.mem_append_right _ (List.mem_append_left _ hd)) rfl
  ·exact e1.2.1.2.2 _ (mmo hr) _ (List.mem_append_left _ hd) rfl
  ·exact e1.2.1.2.1.2.2 _ hd _ (by rw [hr]; exact .head _) rfl
 have toMu : ∀ q ∈ w.mu, ∃ o', (q.1, o') ∈ (reMu h' w).mu ∧ Sim q.2 o' ∧ (q.1 ∈ w.rho → o' = q.2) := fun q hq => by
  by_cases hr : q.1 ∈ w.rho
  ·exact ⟨q.2, List.mem_map.mpr ⟨q, hq, if_pos hr⟩, .refl _, fun z_ => rfl⟩
  ·refine ⟨(h'.get? q.1).getD q.2, List.mem_map.mpr ⟨q, hq, if_neg hr⟩, ?_, fun h => absurd h hr⟩
   obtain ⟨sl, g⟩ := slotM q hq
   rw [g]; exact .slots _ _
 refine ⟨⟨keepB, fun p hp => ?_, fun p hp => ?_, fun p hp vs => ?_, by rw [reMu_all]; exact S.nd, fun a ha => by rw [reMu_keys]; exact S.rho a ha, S.rnd, S.tab⟩, ?_, ?_⟩
 ·rcases all_cases hp with hp | hp | hp | hp
  ·exact keepT p (mem_fz hp) (.inl (notMu p (.inl hp)))
  ·exact keepT p (mem_xt hp) (.inl (notMu p (.inr (.inl hp))))
  ·obtain ⟨q, _, _, g, _⟩ := inMu p hp; exact g
  ·subst hp; exact keepT _ mem_tab (.inl (notMu _ (.inr (.inr rfl))))
 ·rcases all_cases hp with hp | hp | hp | hp
  ·exact S.new p (mem_fz hp)
  ·exact S.new p (mem_xt hp)
  ·obtain ⟨q, hq, e, _⟩ := inMu p hp; rw [e]; exact S.new q (mem_mu hq)
  ·subst hp; exact S.new _ mem_tab
 ·obtain ⟨q, hq, _, _, _, hc⟩ := inMu p hp
  rcases hc with ⟨_, rfl⟩ | ⟨_, sl, e⟩
  ·exact S.nf p hq vs
  ·rw [e]; exact S.nf q hq vs
 ·refine ⟨fun z_ h => h, fun z_ h => h, fun p hp z_ z_ => ?_, fun p hp => by rw [reMu_keys]; exact mmo hp, fun z_ z_ h => h, fun z_ z_ h => h⟩
  obtain ⟨o', h1, h2, _⟩ := toMu p hp
  exact ⟨o', h1, h2⟩
 ·refine ⟨L.len, fun j so e => ?_⟩
  obtain ⟨a, o, h1, h2, h3⟩ := L.at_ j so e
  obtain ⟨o', g1, _, g3⟩ := toMu _ h2
  have := g3 (List.mem_of_getElem? h1)
  dsimp only at this g1
  subst this
  exact ⟨a, _, h1, g1, by cases so <;> exact h3⟩
theorem frames_of (S : St cf b h w) (hs : StkOk stk w) {more : List Addr} : h.FunFrames (ghB h w more) stk := by
 induction stk with
 | nil => trivial
 | cons env r ih =>
  obtain ⟨⟨hk, _⟩, L, hf, hm, hr⟩ := hs env (.head _)
  obtain ⟨p, hp, rfl⟩ := mmp hm
  exact ⟨hk, ⟨p.1, p.2, hf, gh_none (hid_in hm hr), S.mu hp, S.nf p hp⟩, ih fun e he => hs e (.tail _ he)⟩
inductive ExcFt (cf : Cfg) (b h : Heap) (w : Wd) (C fL ex : Addr) (a0 : Value) : Prop
 | mk (T : Addr) (n1 : T ∉ (w.all cf).map (·.1)) (n2 : b.get? T = none) (ne : T ≠ ex) (q : h.TracedW (ghB h w [ex, T]) ex (.ref C) a0 ∨ h.TracedAtW (ghB h w [ex, T]) ex (.ref C) a0 (rawInt fL))
inductive ExcFl (cf : Cfg) (b h : Heap) (w : Wd) (c : Nat) (fL ex : Addr) : Prop
 | mk (C : Addr) (oe : Obj) (vs : Array Value) (a0 : Value) (hc : cf.ca c = some C) (g : h.get? ex = some oe) (k : oe.cls = .ref C) (d : oe.data = .fields vs) (z : vs[0]? = some a0) (n1 : ex ∉ (w.all cf).map (·.1)) (n2 : b.get? ex = none) (t : vs[1]? = some .none ∨ ExcFt cf b h w C fL ex a0)
theorem exc_flying (S : St cf b h w) (X : ExcAt cf b h w c fL ex) : ExcFl cf b h w c fL ex := by
 obtain ⟨h1, h2, oe, vs, a0, C, h3, h4, h5, h6, h7, h8⟩ := X
 refine ⟨C, oe, vs, a0, h4, h3, h5, h6, h7, h1, h2, ?_⟩
 rcases h8 with h8 | ⟨T, oT, ts, h8, h9, h10, h11, h12, h13, h14⟩
 ·exact .inl h8
 ·refine .inr ⟨T, h10, h11, h9, ?_⟩
  have hT : (ghB h w [ex, T]).get? T = none := gh_none (List.mem_append_right _ (.tail _ (.head _)))
  rcases h14 with h14 | h14
  ·exact .inl ⟨oe, vs, T, oT, ts, h3, ⟨h5, h7⟩, h6, h8, hT, h9, h12, h13, h14⟩
  ·exact .inr ⟨oe, vs, T, oT, ts, h3, ⟨h5, h7⟩, h6, h8, hT, h9, h12, h13, h14⟩
theorem exc_back (S : St cf b h w) {more : List Addr} {C : Addr} {a0 fl : Value} (hc : cf.ca c = some C) (h1 : ex ∉ (w.all cf).map (·.1)) (h2 : b.get? ex = none) (hm : ∀ a ∈ more, a ∉ (w.all cf).map (·.1) ∧ b.get? a = none) (ht : h'.TracedAtW (ghB h w more) ex (.ref C) a0 fl) (k2 : h.UpToSlots h') (hfl : fl = .none ∨ fl = rawInt fL) : ExcAt cf b h' (reMu h' w) c fL ex := by
 obtain ⟨oe, vs, T, oT, ts, g1, ⟨g2, g3⟩, g4, g5, g6, g7, g8, g9, g10⟩ := ht
 have hT : T ∉ (w.all cf).map (·.1) ∧ b.get? T = none := by
  by_cases q : T ∈ hid w more
  ·rcases hid_cases q with ⟨q1, q2⟩ | q
   ·obtain ⟨p, hp, e⟩ := mmp q1
    obtain ⟨sl, g⟩ := k2 _ _ (S.kn p (mem_mu hp)) (S.nf p hp)
    rw [e, g8] at g
    injection g with g
    rw [g] at g9
    exact absurd g9 (S.nf p hp ts)
   ·exact hm T q
  ·have hn : h.get? T = none := by
    cases e : h.get? T with
    | none => rfl
    | some o => rw [ghB, hideAll_get _ e q] at g6; injection g6
   exact ⟨S.fresh hn, S.fresh_b hn⟩
 refine ⟨by rw [reMu_all]; exact h1, h2, oe, vs, a0, C, g1, hc, g2, g4, g3, .inr ⟨T, oT, ts, g5, g7, by rw [reMu_all]; exact hT.1, hT.2, g8, g9, ?_⟩⟩
 rcases hfl with rfl | rfl
 ·exact .inl g10
 ·exact .inr g10
theorem hm1 {ex : Addr} (h1 : ex ∉ (w.all cf).map (·.1)) (h2 : b.get? ex = none) : ∀ a ∈ [ex], a ∉ (w.all cf).map (·.1) ∧ b.get? a = none := fun a ha => by rw [List.mem_singleton.mp ha]; exact ⟨h1, h2⟩
theorem hm2 {ex T : Addr} (h1 : ex ∉ (w.all cf).map (·.1)) (h2 : b.get? ex = none) (h3 : T ∉ (w.all cf).map (·.1)) (h4 : b.get? T = none) : ∀ a ∈ [ex, T], a ∉ (w.all cf).map (·.1) ∧ b.get? a = none := fun a ha => by
 rcases List.mem_cons.mp ha with rfl | ha
 ·exact ⟨h1, h2⟩
 ·rw [List.mem_singleton.mp ha]; exact ⟨h3, h4⟩
theorem exc_leave {Q : Unit → Shared → Prop} (S : St cf b s.heap w) (L : Live cf P b w σ) (hs : StkOk (env :: stk) w) (hA : A.frames = some (env :: stk)) (hf : env.frame = some fL) (X : ExcAt cf b s.heap w c fL ex)
  (q : ∀ h' w', St cf b h' w' → Ext [] w w' → Live cf P b w' σ → (∀ fL', ExcAt cf b h' w' c fL' ex) → Q () { s with heap := h' }) : wpAny M A (leaving env (.ref ex)) Q E s := by
 obtain ⟨C, oe, vs, a0, hC, h1, h2, h3, h4, h5, h6, h7⟩ := exc_flying S X
 rcases h7 with h7 | ⟨T, t1, t2, t3, h7⟩
 ·refine wpAny_leaving_firstW (base := ghB s.heap w [ex]) (a0 := a0) hA (frames_of S hs) hf h1 gh_stays (gh_none (List.mem_append_right _ (.head _))) h3 h7 h4 fun h' hL => ?_
  obtain ⟨k1, _, k3, k4⟩ := hL
  obtain ⟨S', e', L'⟩ := S.re L (hm1 h5 h6) k1 k4
  exact q h' _ S' e' L' fun fL' => exc_back S hC h5 h6 (hm1 h5 h6) (h2 ▸ k3).at k4 (.inl rfl)
 ·have hn : (ghB s.heap w [ex, T]).get? ex = none := gh_none (List.mem_append_right _ (.head _))
  rcases h7 with h7 | h7
  ·refine wpAny_leaving_nextW (base := ghB s.heap w [ex, T]) hA (frames_of S hs) hf h7 gh_stays hn fun h' hL => ?_
   obtain ⟨k1, _, k3, k4⟩ := hL
   obtain ⟨S', e', L'⟩ := S.re L (hm2 h5 h6 t1 t2) k1 k4
   exact q h' _ S' e' L' fun fL' => exc_back S hC h5 h6 (hm2 h5 h6 t1 t2) k3.at k4 (.inl rfl)
  ·unfold leaving
   refine wpAny_bind (wpAny_noteFrame_againW hf h7 ?_)
   refine wpAny_landsW (base := ghB s.heap w [ex, T]) (l := env :: stk) ⟨gh_stays, hn, frames_of S hs, h7⟩ fun h' hfl k4 => ?_
   obtain ⟨k1, _, _, k3⟩ := hfl
   obtain ⟨S', e', L'⟩ := S.re L (hm2 h5 h6 t1 t2) k1 k4
   exact q h' _ S' e' L' fun fL' => exc_back S hC h5 h6 (hm2 h5 h6 t1 t2) k3.at k4 (.inl rfl)
end
section
variable {h : Heap} {w2 : Wd} {σ' : Store} {fz fz' : Led} {rho : List Addr}
theorem take_get {j : Nat} {a : Addr} (h : rho[j]? = some a) (hj : Nat.blt j n = true) : (rho.take n)[j]? = some a := by
 rw [List.getElem?_take_of_lt (nle hj)]; exact h
theorem den_nref : (∀ x v, Den cf P b fz rho x v → ∀ f, nref f n x = true → Den cf P b fz (rho.take n) x v) ∧
  (∀ xs vs, DenL cf P b fz rho xs vs → ∀ f, xs.all (nref f n) = true → DenL cf P b fz (rho.take n) xs vs) ∧
  (∀ kvs es, DenD cf P b fz rho kvs es → ∀ f, (kvs.all fun p => nref f n p.2) = true → DenD cf P b fz (rho.take n) kvs es) := by
 refine den_ind (fun z_ z_ => .none) (fun x z_ z_ => .bool x) (fun i t z_ z_ => .int i t) (fun s t z_ z_ => .str s t) (fun h z_ z_ => .txt h) (fun l t h z_ z_ => .bytes l t h) (fun h z_ l f q => ?_) (fun h z_ l f q => ?_) (fun g h z_ l f q => ?_) (fun c h k z_ l f q => ?_)
  (fun h z_ z_ => .fn h) (fun h z_ z_ => .cls h) (fun x z_ z_ => .blt x) (fun x z_ z_ => .typ x) (fun h c d e z_ z_ => .lam h c d e) (fun h f q => ?_) (fun c h k f q => ?_) (fun h k g z_ z_ => .tok h k g) (fun z_ z_ => .nil) (fun z_ z_ h l f q => ?_) (fun z_ z_ => .nil) (fun g z_ z_ h l f q => ?_)
 ·cases f with | zero => exact noB q | succ f => exact .tup h (l f q)
 ·cases f with | zero => exact noB q | succ f => exact .lst h (l f q)
 ·cases f with | zero => exact noB q | succ f => exact .dct g h (l f q)
 ·cases f with | zero => exact noB q | succ f => exact .fob c h k (l f q)
 ·cases f with | zero => exact noB q | succ f => exact .ref (take_get h q)
 ·cases f with | zero => exact noB q | succ f => exact .obj c h (take_get k q)
 ·have q := Bool.and_eq_true_iff.mp q; exact .cons (h f q.1) (l f q.2)
 ·have q := Bool.and_eq_true_iff.mp q; exact .cons g (h f q.1) (l f q.2)
noncomputable def cut (w : Wd) (n : Nat) : Wd := { w with rho := w.rho.take n }
theorem St.cut (S : St cf b h w) : St cf b h (cut w n) :=
 ⟨S.stays, S.kn, S.new, S.nf, S.nd, fun a ha => S.rho a (List.mem_of_mem_take ha), S.rnd.sublist (List.take_sublist _ _), S.tab⟩
theorem obj_nref {so : SO} {o : Obj} (x : ObjOk cf P b w so o) (q : nrefO n so = true) : ObjOk cf P b (cut w n) so o := by
 cases so with
 | lst xs => obtain ⟨vs, m, h1, h2⟩ := x; exact ⟨vs, m, h1, den_nref.2.1 _ _ h2 12 q⟩
 | dct kvs => obtain ⟨vs, m, h1, h2⟩ := x; exact ⟨vs, m, h1, den_nref.2.2 _ _ h2 12 q⟩
theorem Live.cut (L : Live cf P b w σ') (hn : n ≤ σ'.length) (q : (σ'.take n).all (nrefO n) = true) : Live cf P b (cut w n) (σ'.take n) := by
 refine ⟨by show (w.rho.take n).length = _; rw [List.length_take, List.length_take, L.len], fun j so e => ?_⟩
 have hj : j < n := by
  have := (List.getElem?_eq_some_iff.mp e).1
  rw [List.length_take] at this
  omega
 rw [List.getElem?_take_of_lt hj] at e
 obtain ⟨a, o, h1, h2, h3⟩ := L.at_ j so e
 refine ⟨a, o, by show (w.rho.take n)[j]? = _; rw [List.getElem?_take_of_lt hj]; exact h1, h2, obj_nref h3 ?_⟩
 rw [List.all_eq_true] at q
 exact q so (List.mem_of_getElem? (i := j) (by rw [List.getElem?_take_of_lt hj]; exact e))
theorem ext_cut (e : Ext [] w w2) (hn : w.rho.length = n) : Ext [] w (cut w2 n) :=
 ⟨e.fz, e.xt, e.mu, e.ky, fun j a h => by
  show (w2.rho.take n)[j]? = some a
  have hj : j < n := by rw [← hn]; exact (List.getElem?_eq_some_iff.mp h).1
  rw [List.getElem?_take_of_lt hj]
  exact e.rho j a h, fun p hp h q => e.ro p hp h (List.mem_of_mem_take q)⟩
noncomputable def froz (w : Wd) (n : Nat) : Led := w.mu.filter fun p => decide (p.1 ∈ w.rho.drop n)
noncomputable def frzW (w : Wd) (n : Nat) : Wd := { w with fz := froz w n ++ w.fz, mu := w.mu.filter fun p => !decide (p.1 ∈ w.rho.drop n), rho := w.rho.take n }
theorem part_perm {α : Type} (p : α → Bool) : ∀ (l : List α), l.Perm (l.filter p ++ l.filter fun x => !p x)
 | [] => .nil
 | x :: l => by
  have ih := part_perm p l
  cases h : p x with
  | true => rw [List.filter_cons_of_pos h, List.filter_cons_of_neg (by simp [h])]; exact ih.cons x
  | false => rw [List.filter_cons_of_neg (by simp [h]), List.filter_cons_of_pos (by simp [h])]; exact (ih.cons x).trans List.perm_middle.symm
theorem frz_all {p : Addr × Obj} (x : p ∈ Wd.all cf (frzW w n)) : p ∈ w.all cf := by
 rcases all_cases x with x | x | x | x
 ·rcases List.mem_append.mp x with x | x
  ·exact mem_mu (List.mem_filter.mp x).1
  ·exact mem_fz x
 ·exact mem_xt x
 ·exact mem_mu (List.mem_filter.mp x).1
 ·rw [x]; exact mem_tab
theorem St.frz (S : St cf b h w) : St cf b h (frzW w n) := by
 refine ⟨S.stays, fun p hp => S.kn p (frz_all hp), fun p hp => S.new p (frz_all hp), fun p hp => S.nf p (List.mem_filter.mp hp).1, ?_, fun a ha => ?_, S.rnd.sublist (List.take_sublist _ _), S.tab.mono fun p hp => List.mem_append_right _ hp⟩
 ·refine perm_nodup (l := w.all cf) ?_ S.nd
  show List.Perm (w.fz ++ (w.xt ++ (w.mu ++ [(cf.tabA, tabObj w.tb)]))) ((froz w n ++ w.fz) ++ (w.xt ++ ((w.mu.filter fun p => !decide (p.1 ∈ w.rho.drop n)) ++ [(cf.tabA, tabObj w.tb)])))
  have h1 : w.mu.Perm (froz w n ++ w.mu.filter fun p => !decide (p.1 ∈ w.rho.drop n)) := part_perm _ _
  have h2 := ((h1.append_right [(cf.tabA, tabObj w.tb)]).append_left w.xt).append_left w.fz
  refine h2.trans ?_
  rw [List.append_assoc, List.append_assoc]
  refine List.Perm.trans ?_ (List.perm_append_comm_assoc _ _ _)
  exact List.Perm.append_left _ (List.perm_append_comm_assoc _ _ _)
 ·obtain ⟨p, hp, e⟩ := mmp (S.rho a (List.mem_of_mem_take ha))
  refine List.mem_map.mpr ⟨p, List.mem_filter.mpr ⟨hp, ?_⟩, e⟩
  have : p.1 ∉ w.rho.drop n := fun q => by
   have nd := S.rnd
   rw [← List.take_append_drop n w.rho, List.nodup_append] at nd
   exact nd.2.2 a ha p.1 q e.symm
  simpa using this
theorem ext_frz (S : St cf b h w2) (e : Ext [] w w2) (hn : w.rho.length = n) (hr : ∀ a ∈ w.rho, a ∈ w.mu.map (·.1)) : Ext [] w (frzW w2 n) := by
 have kept : ∀ p ∈ w.mu, ∀ o', (p.1, o') ∈ w2.mu → (p.1, o') ∈ (frzW w2 n).mu := fun p hp o' h => by
  refine List.mem_filter.mpr ⟨h, ?_⟩
  have : p.1 ∉ w2.rho.drop n := fun q => by
   by_cases hpr : p.1 ∈ w.rho
   ·obtain ⟨j, hj⟩ := List.getElem?_of_mem hpr
    have h1 := e.rho j _ hj
    have hjn : j < n := by rw [← hn]; exact (List.getElem?_eq_some_iff.mp hj).1
    have h2 : p.1 ∈ w2.rho.take n := List.mem_of_getElem? (i := j) (by rw [List.getElem?_take_of_lt hjn]; exact h1)
    have nd := S.rnd
    rw [← List.take_append_drop n w2.rho, List.nodup_append] at nd
    exact nd.2.2 _ h2 _ q rfl
   ·exact e.ro p hp hpr (List.mem_of_mem_drop q)
  simpa using this
 refine ⟨fun p hp => List.mem_append_right _ (e.fz p hp), e.xt, fun p hp h1 h2 => ?_, fun p hp => ?_, fun j a hj => ?_, fun p hp h q => e.ro p hp h (List.mem_of_mem_take q)⟩
 ·obtain ⟨o', g1, g2⟩ := e.mu p hp h1 h2
  exact ⟨o', kept p hp o' g1, g2⟩
 ·obtain ⟨q, hq, eq⟩ := mmp (e.ky p hp)
  obtain ⟨a', o'⟩ := q
  cases eq
  exact List.mem_map.mpr ⟨_, kept p hp o' hq, rfl⟩
 ·show (w2.rho.take n)[j]? = some a
  have hjn : j < n := by rw [← hn]; exact (List.getElem?_eq_some_iff.mp hj).1
  rw [List.getElem?_take_of_lt hjn]
  exact e.rho j a hj
theorem Live.frz (L : Live cf P b w σ') (S : St cf b h w) (hn : n ≤ σ'.length) (q : (σ'.take n).all (nrefO n) = true) : Live cf P b (frzW w n) (σ'.take n) := by
 have L1 := L.cut hn q
 refine ⟨L1.len, fun j so e => ?_⟩
 obtain ⟨a, o, h1, h2, h3⟩ := L1.at_ j so e
 refine ⟨a, o, h1, List.mem_filter.mpr ⟨h2, ?_⟩, ?_⟩
 ·have : a ∉ w.rho.drop n := fun q => by
   have nd := S.rnd
   rw [← List.take_append_drop n w.rho, List.nodup_append] at nd
   exact nd.2.2 a (List.mem_of_getElem? h1) a q rfl
  simpa using this
 ·have hm : ∀ p ∈ w.fz, p ∈ (frzW w n).fz := fun p hp => List.mem_append_right _ hp
  cases so with
  | lst xs => obtain ⟨vs, m, g1, g2⟩ := h3; exact ⟨vs, m, g1, DenL.mono hm (fun z_ z_ h => h) g2⟩
  | dct kvs => obtain ⟨vs, m, g1, g2⟩ := h3; exact ⟨vs, m, g1, DenD.mono hm (fun z_ z_ h => h) g2⟩
theorem live_frz (S : St cf b h w) (L : Live cf P b w σ) (hs : ∃ o, b.get? sysModules = some o) {j : Nat} {so : SO} {a : Addr} (h1 : σ[j]? = some so) (h2 : w.rho[j]? = some a) (h3 : Nat.blt j n = false) : ∃ o, At b (frzW w n).fz a o ∧ (a == sysModules) = false ∧ ObjOk cf P b w so o := by
 obtain ⟨a', o, g1, g2, g3⟩ := L.at_ j so h1
 rw [h2] at g1
 obtain rfl := sI g1
 have hj : n ≤ j := Nat.le_of_not_lt fun q => by rw [show Nat.blt j n = true from Nat.ble_eq_true_of_le q] at h3; injection h3
 refine ⟨o, .inl (List.mem_append_left _ (List.mem_filter.mpr ⟨g2, decide_eq_true ?_⟩)), ?_, g3⟩
 ·exact List.mem_of_getElem? (i := j - n) (by rw [List.getElem?_drop, Nat.add_sub_cancel' hj]; exact h2)
 ·refine beq_eq_false_iff_ne.mpr fun q => ?_
  obtain ⟨o', ho⟩ := hs
  have := S.new _ (mem_mu g2)
  rw [show (a, o).1 = sysModules from q, ho] at this
  injection this
theorem ifO_eq {α : Type} {c : Bool} {x z : Option α} {y : α} (e : ifO c x z = some y) : c = true ∧ x = some y ∨ c = false ∧ z = some y := by
 cases c with
 | true => exact .inl ⟨rfl, e⟩
 | false => exact .inr ⟨rfl, e⟩
theorem orO_eq {α β : Type} {o : Option α} {k : α → Option β} {d : Option β} {y : β} (e : orO o k d = some y) : (∃ x, o = some x ∧ k x = some y) ∨ d = some y := by
 cases o with
 | none => exact .inr e
 | some x => exact .inl ⟨x, rfl, e⟩
theorem den_frz (S : St cf b h w) (L : Live cf P b w σ) (hs : ∃ o, b.get? sysModules = some o) : ∀ (f : Nat), (∀ {x y : V} {v : Value}, DenW cf P b w x v → frz f σ n x = some y → DenW cf P b (frzW w n) y v) ∧
  (∀ {xs ys : List V} {vs : List Value}, DenLW cf P b w xs vs → frzL f σ n xs = some ys → DenLW cf P b (frzW w n) ys vs) ∧
  (∀ {kvs ys : List (Nat × V)} {es : List DictEntry}, DenDW cf P b w kvs es → frzD f σ n kvs = some ys → DenDW cf P b (frzW w n) ys es ∧ ys.map (·.1) = kvs.map (·.1)) := by
 have hm : ∀ p ∈ w.fz, p ∈ (frzW w n).fz := fun p hp => List.mem_append_right _ hp
 have easy : ∀ {x y : V} {v : Value}, DenW cf P b w x v → nref 1 n x = true → some x = some y → DenW cf P b (frzW w n) y v := fun d q e => by
  obtain rfl := sI e
  exact (den_nref.1 _ _ d 1 q).mono hm fun z_ z_ h => h
 intro f
 induction f with
 | zero => exact ⟨fun z_ e => (nomatch e), fun z_ e => (nomatch e), fun z_ e => (nomatch e)⟩
 | succ f ih =>
  refine ⟨fun {x y v} d e => ?_, fun {xs ys vs} d e => ?_, fun {kvs ys es} d e => ?_⟩
  ·cases x with
   | tup xs =>
    obtain ⟨ys, q, rfl⟩ := Option.map_eq_some_iff.mp e
    obtain ⟨a, vs, m, rfl, h, l⟩ := d.inv
    exact .tup (h.mono hm) (ih.2.1 l q)
   | lst xs =>
    obtain ⟨ys, q, rfl⟩ := Option.map_eq_some_iff.mp e
    obtain ⟨a, vs, m, rfl, h, l⟩ := d.inv
    exact .lst (h.mono hm) (ih.2.1 l q)
   | dct kvs =>
    obtain ⟨ys, q, rfl⟩ := Option.map_eq_some_iff.mp e
    obtain ⟨a, es, m, rfl, g, h, l⟩ := d.inv
    exact .dct g (h.mono hm) (ih.2.2 l q).1
   | fob c kvs =>
    obtain ⟨ys, q, rfl⟩ := Option.map_eq_some_iff.mp e
    obtain ⟨a, C, dd, es, m, rfl, g, h, k, l⟩ := d.inv
    exact .fob g (h.mono hm) (k.mono hm) (ih.2.2 l q).1
   | ref j =>
    obtain ⟨a, rfl, h⟩ := d.inv
    rcases ifO_eq e with ⟨hb, e⟩ | ⟨hb, e⟩
    ·obtain rfl := sI e; exact .ref (take_get h hb)
    rcases orO_eq e with ⟨xs, hj, e⟩ | e
    ·obtain ⟨ys, q, rfl⟩ := Option.map_eq_some_iff.mp e
     obtain ⟨o, g1, g2, vs, m, rfl, g4⟩ := live_frz S L hs (lstAt_eq hj) h hb
     exact .lst g1 (ih.2.1 g4 q)
    ·obtain ⟨kvs, hj, e⟩ := obe e
     obtain ⟨ys, q, rfl⟩ := Option.map_eq_some_iff.mp e
     obtain ⟨o, g1, g2, vs, m, rfl, g4⟩ := live_frz S L hs (dctAt_eq hj) h hb
     exact .dct g2 g1 (ih.2.2 g4 q).1
   | obj c j =>
    obtain ⟨a, C, dd, rfl, hC, h, k⟩ := d.inv
    rcases ifO_eq e with ⟨hb, e⟩ | ⟨hb, e⟩
    ·obtain rfl := sI e; exact .obj hC (h.mono hm) (take_get k hb)
    ·obtain ⟨kvs, hj, e⟩ := obe e
     obtain ⟨ys, q, rfl⟩ := Option.map_eq_some_iff.mp e
     obtain ⟨o, g1, g2, vs, m, rfl, g4⟩ := live_frz S L hs (dctAt_eq hj) k hb
     exact .fob hC (h.mono hm) g1 (ih.2.2 g4 q).1
   | _ => exact easy d rfl e
  ·cases xs with
   | nil => obtain rfl := sI e; obtain rfl := d.nil_inv; exact .nil
   | cons x xs =>
    obtain ⟨v, r, rfl, d1, d2⟩ := d.cons_inv
    obtain ⟨y, q1, e⟩ := obe e
    obtain ⟨ys', q2, rfl⟩ := Option.map_eq_some_iff.mp e
    exact .cons (ih.1 d1 q1) (ih.2.1 d2 q2)
  ·cases kvs with
   | nil => obtain rfl := sI e; obtain rfl := d.nil_inv; exact ⟨.nil, rfl⟩
   | cons p kvs =>
    obtain ⟨t, v, r, rfl, g, d1, d2⟩ := d.cons_inv
    obtain ⟨y, q1, e⟩ := obe e
    obtain ⟨ys', q2, rfl⟩ := Option.map_eq_some_iff.mp e
    obtain ⟨z1, z2⟩ := ih.2.2 d2 q2
    refine ⟨.cons (fun r hr er => ?_) (ih.1 d1 q1) z1, congrArg (_ :: ·) z2⟩
    have hr := mmo (f := (·.1)) hr
    rw [z2] at hr
    obtain ⟨r', hr', e'⟩ := mmp hr
    exact g r' hr' (e'.trans er)
end
section
variable {h h' : Heap}
theorem St.tellM (S : St cf b h w) {D : Addr} {o : Obj} (hn : h.get? D = some o) (hb : b.get? D = none) (hk : D ∉ (w.all cf).map (·.1)) (hf : ∀ vs, o.data ≠ .fields vs) : St cf b h { w with mu := (D, o) :: w.mu } := by
 have T := S.tellL hn hb hk hf
 exact ⟨T.stays, T.kn, T.new, T.nf, T.nd, fun a ha => List.mem_cons_of_mem _ (S.rho a ha), S.rnd, S.tab⟩
theorem St.tellMs {l : Led} (S : St cf b h w) (hp : ∀ p ∈ l, h.get? p.1 = some p.2 ∧ b.get? p.1 = none ∧ p.1 ∉ (w.all cf).map (·.1) ∧ ∀ vs, p.2.data ≠ .fields vs) (nd : (l.map (·.1)).Nodup) : St cf b h { w with mu := l ++ w.mu } := by
 induction l with
 | nil => exact S
 | cons p l ih =>
  have nd := List.nodup_cons.mp nd
  obtain ⟨h1, h2, h3, h4⟩ := hp p (.head _)
  refine St.tellM (ih (fun q hq => hp q (.tail _ hq)) nd.2) h1 h2 (fun q => ?_) h4
  obtain ⟨r, hr, e⟩ := mmp q
  rcases all_cases hr with hr | hr | hr | hr
  ·exact h3 (e ▸ mmo (mem_fz hr))
  ·exact h3 (e ▸ mmo (mem_xt hr))
  ·rcases List.mem_append.mp hr with hr | hr
   ·exact nd.1 (List.mem_map.mpr ⟨r, hr, e⟩)
   ·exact h3 (e ▸ mmo (mem_mu hr))
  ·exact h3 (by rw [← e, hr]; exact mmo (f := (·.1)) mem_tab)
theorem ext_tellMs {l : Led} : Ext [] w { w with mu := l ++ w.mu } :=
 ⟨fun z_ h => h, fun z_ h => h, fun p h z_ z_ => ⟨p.2, List.mem_append_right _ h, .refl _⟩, fun p h => mmo (List.mem_append_right _ h), fun z_ z_ h => h, fun z_ z_ h => h⟩
theorem Live.tellMs {l : Led} (L : Live cf P b w σ) : Live cf P b { w with mu := l ++ w.mu } σ :=
 ⟨L.len, fun j so e => let ⟨a, o, h1, h2, h3⟩ := L.at_ j so e; ⟨a, o, h1, List.mem_append_right _ h2, by cases so <;> exact h3⟩⟩
theorem bindL_keep {k : Str → Option NameKind} {binds : List (Str × Value)} {m : Str → Option Value} {n : Str} (h : n ∉ binds.map (·.1)) : bindL k binds m n = m n := by
 induction binds generalizing m with
 | nil => rfl
 | cons z r ih =>
  have h := not_or.mp (fun q => h (List.mem_cons.mpr q))
  unfold bindL
  rw [ih h.2]
  by_cases hk : k z.1 = some .local
  ·rw [if_pos hk]; exact if_neg h.1
  ·rw [if_neg hk]
theorem bindL_mem {k : Str → Option NameKind} {binds : List (Str × Value)} {m : Str → Option Value} {n : Str} {v : Value} (nd : (binds.map (·.1)).Nodup) (hm : (n, v) ∈ binds) (hk : k n = some .local) : bindL k binds m n = some v := by
 induction binds generalizing m with
 | nil => cases hm
 | cons z r ih =>
  have nd := List.nodup_cons.mp nd
  unfold bindL
  rcases List.mem_cons.mp hm with e | hm
  ·rw [← e] at nd ⊢
   rw [bindL_keep nd.1, if_pos hk]
   exact if_pos rfl
  ·exact ih nd.2 hm
theorem bindC_keep {k : Str → Option NameKind} {binds : List (Str × Value)} {m : Str → Option Value} {n : Str} (h : n ∉ binds.map (·.1)) : bindC k binds m n = m n := by
 induction binds generalizing m with
 | nil => rfl
 | cons z r ih =>
  have h := not_or.mp (fun q => h (List.mem_cons.mpr q))
  unfold bindC
  rw [ih h.2]
  by_cases hk : k z.1 = some .local
  ·rw [if_pos hk]
  ·rw [if_neg hk]; exact if_neg h.1
theorem bindC_mem {k : Str → Option NameKind} {binds : List (Str × Value)} {m : Str → Option Value} {n : Str} {v : Value} (nd : (binds.map (·.1)).Nodup) (hm : (n, v) ∈ binds) (hk : k n = some .cell) : bindC k binds m n = some v := by
 induction binds generalizing m with
 | nil => cases hm
 | cons z r ih =>
  have nd := List.nodup_cons.mp nd
  unfold bindC
  rcases List.mem_cons.mp hm with e | hm
  ·rw [← e] at nd ⊢
   rw [bindC_keep nd.1, if_neg (by rw [hk]; decide)]
   exact if_pos rfl
  ·exact ih nd.2 hm
theorem cells_has {names : List (Str × NameKind)} {k : Nat} {acc : List (Str × Addr)} {y : Str} (h : (y, NameKind.cell) ∈ names ∨ (acc.lookup y).isSome = true) : ((cellsFrom k names acc).lookup y).isSome = true := by
 induction names generalizing k acc with
 | nil => exact h.elim (fun q => by cases q) id
 | cons z r ih =>
  unfold cellsFrom
  cases hc : z.2 == NameKind.cell with
  | true =>
   rw [if_pos rfl]
   refine ih ?_
   rw [List.lookup_cons]
   cases q : y == z.1 with
   | true => exact .inr rfl
   | false =>
    refine h.imp (fun h => ?_) id
    rcases List.mem_cons.mp h with e | h
    ·rw [← e, beq_self_eq_true] at q; injection q
    ·exact h
  | false =>
   rw [if_neg Bool.false_ne_true]
   refine ih (h.imp (fun h => ?_) id)
   rcases List.mem_cons.mp h with e | h
   ·rw [← e] at hc; injection hc
   ·exact h
theorem lookN_mem {l : List (Nat × V)} {x : Nat} {v : V} (h : lookN x l = some v) : (x, v) ∈ l := by
 induction l with
 | nil => exact noS h
 | cons z r ih =>
  rcases lookN_cons (x := z.1) (v := z.2) h with ⟨rfl, rfl⟩ | ⟨_, h⟩
  ·exact .head _
  ·exact .tail _ (ih h)
theorem lookN_filter {f : Nat × V → Bool} {l : List (Nat × V)} {x : Nat} {v : V} (h : lookN x (l.filter f) = some v) : (x, v) ∈ l ∧ f (x, v) = true := List.mem_filter.mp (lookN_mem h)
theorem bindP_nil {ps : List Nat} {d : List V} {bs : List (Nat × V)} (h : bindP ps [] d = some bs) : ps.length ≤ d.length ∧ bs = ps.zip (d.drop (d.length - ps.length)) := by
 induction ps generalizing bs with
 | nil => obtain rfl := sI h; exact ⟨Nat.zero_le _, rfl⟩
 | cons p ps ih =>
  unfold bindP at h
  cases hd : d.drop (d.length - (ps.length + 1)) with
  | nil => rw [hd] at h; exact noS h
  | cons v r =>
   rw [hd] at h
   dsimp only at h
   cases hb : Nat.ble (ps.length + 1) d.length with
   | false => rw [hb] at h; exact noS h
   | true =>
    rw [hb] at h
    obtain ⟨bs', hq, rfl⟩ := Option.map_eq_some_iff.mp h
    have hb := nle hb
    refine ⟨hb, ?_⟩
    rw [(ih hq).2, List.zip_cons_cons]
    have : d.drop (d.length - ps.length) = (d.drop (d.length - (ps.length + 1))).drop 1 := by
     rw [List.drop_drop, Nat.sub_add_eq, Nat.sub_add_cancel (Nat.le_sub_of_add_le (Nat.add_comm ps.length 1 ▸ hb))]
    rw [this, hd]; rfl
theorem bindP_some {ps : List Nat} {as d : List V} {bs : List (Nat × V)} (h : bindP ps as d = some bs) : as.length ≤ ps.length ∧ ps.length ≤ as.length + d.length ∧ bs = ps.zip (as ++ d.drop (as.length + d.length - ps.length)) := by
 induction as generalizing ps bs with
 | nil =>
  obtain ⟨h1, h2⟩ := bindP_nil h
  rw [List.length_nil, Nat.zero_add]
  exact ⟨Nat.zero_le _, h1, h2⟩
 | cons a as ih => cases ps with
  | nil => exact noS h
  | cons p ps =>
  obtain ⟨bs', hq, rfl⟩ := Option.map_eq_some_iff.mp h
  obtain ⟨h1, h2, rfl⟩ := ih hq
  rw [List.length_cons, List.length_cons, Nat.add_right_comm, Nat.add_sub_add_right]
  exact ⟨Nat.succ_le_succ h1, Nat.succ_le_succ h2, rfl⟩
inductive MZ (cf : Cfg) (P : Params) (b : Heap) (fz : Led) (rho : List Addr) (ps : List Nat) (vals : List Value) (x : Nat) (v : V) : Prop
 | mk (val : Value) (m : (strOf x, val) ∈ (ps.map strOf).zip vals) (d : Den cf P b fz rho v val)
theorem mem_zip_den {fz : Led} {rho : List Addr} {ps : List Nat} {vs : List V} {vals : List Value} {x : Nat} {v : V} (d : DenL cf P b fz rho vs vals) (h : (x, v) ∈ ps.zip vs) : MZ cf P b fz rho ps vals x v := by
 induction ps generalizing vs vals with
 | nil => cases h
 | cons p ps ih => cases vs with
  | nil => cases h
  | cons u vs =>
  obtain ⟨val, r, rfl, d1, l⟩ := d.cons_inv
  rcases List.mem_cons.mp h with e | h
  ·injection e with j1 j2; subst j1; subst j2; exact ⟨val, .head _, d1⟩
  ·obtain ⟨val, h1, h2⟩ := ih l h
   exact ⟨val, .tail _ h1, h2⟩
theorem zip_fst_nodup {α β : Type} {ps : List α} {vs : List β} (h : ps.Nodup) : ((ps.zip vs).map (·.1)).Nodup := by
 induction ps generalizing vs with
 | nil => exact List.nodup_nil
 | cons p ps ih => cases vs with
  | nil => exact List.nodup_nil
  | cons v vs =>
  have h := List.nodup_cons.mp h
  refine List.nodup_cons.mpr ⟨fun q => h.1 ?_, ih h.2⟩
  obtain ⟨z, hz, e⟩ := mmp q
  rw [← show z.1 = p from e]; exact (List.of_mem_zip hz).1
theorem map_str_nodup {ps : List Nat} (h : ps.Nodup) : (ps.map strOf).Nodup := List.Pairwise.map _ (fun z_ z_ h e => h (strOf_inj e)) h
end
inductive DflAt (cf : Cfg) (K : Frag) (P : Params) (b : Heap) (dfl : List V) (v : Value) : Prop
 | none (e : v = .none) (h : dfl = [])
 | tup (T : Addr) (n : Nat) (vs : List Value) (e : v = .ref T) (h : K.lookup T = some (tupOf (List.toArray vs) n)) (d : DenL cf P b [] [] dfl vs)
inductive FnAt (cf : Cfg) (K : Frag) (P : Params) (b : Heap) (g : Fn) (a : Addr) : Prop
 | mk (o : Obj) (fd : FuncData) (as_ : List Arg) (dd : List PE) (body : List PySem.Stmt) (h1 : K.lookup a = some o) (h2 : o.data = .func fd)
  (h3 : fd.params = { posonlyargs := [], args := as_, vararg := none, kwonlyargs := [], kw_defaults := [], kwarg := none, defaults := dd }) (h4 : as_.map (·.arg) = g.params.map strOf)
  (h5 : DflAt cf K P b g.dfl fd.defaults) (h6 : fd.scope.kind = .function) (h7 : fd.scope.isCoroutine = false) (h8 : fd.scope.isGenerator = false) (h9 : fd.closure = []) (h10 : fd.globals = mainGlobals) (h11 : fd.builtins = builtinsNs) (h12 : fd.body = .stmts body)
  (h13 : codeIn K fd.code fd.qualname = true) (h14 : ErB cf fd.scope body g.body) (h15 : g.params.Nodup) (h16 : g.dfl.length ≤ g.params.length)
  (h17 : fd.scope.names = cf.lamN → fd.code = .ref cf.codeA ∧ (fd.qualname ++ ".<locals>.") ++ "<lambda>" = cf.lamQ)
  (h18 : ∀ x ∈ g.params, (inL x g.cells = false → fd.scope.names.lookup (strOf x) = some .local) ∧ (inL x g.cells = true → fd.scope.names.lookup (strOf x) = some .cell))
noncomputable def cellPairs (h : Heap) (cs : List (Str × Addr)) : Led := (cs.filter fun p => cs.lookup p.1 == some p.2).map fun p => (p.2, (h.get? p.2).getD { cls := .none, data := .cell none })
inductive Entered (cf : Cfg) (P : Params) (b : Heap) (en : Mine.Env) (env : SE) (h' : Heap) (w : Wd) (σ : Store) : Prop
 | mk (w' : Wd) (st : St cf b h' w') (e : Ext [] w w') (l : Live cf P b w' σ) (eo : EnvOk cf P b en env w') (h1 : env.locals ∈ w'.mu.map (·.1)) (h2 : w'.rho = w.rho) (h3 : ∀ q ∈ w.mu, q.1 ∉ ownE env)
theorem enter (hlast : ∃ o, b.get? (b.objs.size - 1) = some o) {en : Mine.Env} {env : SE} {s' : Shared} {ps cells : List Nat} {full : List V} {vals : List Value} (S : St cf b s.heap w) (L : Live cf P b w σ) (d : DenLW cf P b w full vals)
  (hnd : ps.Nodup) (hen : en = mkEnv cells (ps.zip full))
  (hx : ∀ x ∈ ps, (inL x cells = false → env.scope.names.lookup (strOf x) = some .local) ∧ (inL x cells = true → env.scope.names.lookup (strOf x) = some .cell))
  (hk : env.scope.kind = .function) (hlam : env.scope.names = cf.lamN → env.code = .ref cf.codeA ∧ env.qual ++ "<lambda>" = cf.lamQ) (hg : env.globals = mainGlobals) (hb : env.builtins = builtinsNs) (hcs : ∃ k, env.cells = cellsFrom k env.scope.names [])
  (IC : InCallC s env.locals (bindL env.kindOf ((ps.map strOf).zip vals) fun z_ => none) env.cells (bindC env.kindOf ((ps.map strOf).zip vals) fun z_ => none) s') :
  Entered cf P b en env s'.heap w σ := by
 have keep := IC.toInCall.keep
 have S1 := S.keeps (h' := s'.heap) keep
 obtain ⟨oL, gL, nL⟩ := ns_obj IC.toInCall.ns
 have fresh : ∀ a, s.heap.objs.size ≤ a → s.heap.get? a = none := fun a ha => Heap.get?_none_of_le ha
 have notKey : ∀ a, s.heap.objs.size ≤ a → a ∉ (w.all cf).map (·.1) := fun a ha => S.fresh (fresh a ha)
 have hLs := IC.toInCall.fresh
 have cellOk : ∀ y c, env.cells.lookup y = some c → ∃ o, s'.heap.get? c = some o ∧ o.data = .cell (bindC env.kindOf ((ps.map strOf).zip vals) (fun z_ => none) y) ∧ (c, o) ∈ cellPairs s'.heap env.cells := fun y c hc => by
  obtain ⟨o, g1, g2⟩ := IC.cell y c hc
  refine ⟨o, g1, g2, List.mem_map.mpr ⟨(y, c), List.mem_filter.mpr ⟨lookup_mem hc, by rw [hc]; simp⟩, ?_⟩⟩
  rw [g1]; rfl
 have pairOk : ∀ q ∈ cellPairs s'.heap env.cells, s'.heap.get? q.1 = some q.2 ∧ s.heap.objs.size ≤ q.1 ∧ env.locals < q.1 ∧ ∃ v, q.2.data = .cell v := fun q hq => by
  obtain ⟨z, hz, e⟩ := mmp hq
  obtain ⟨hz1, hz2⟩ := List.mem_filter.mp hz
  obtain ⟨o, g1, g2⟩ := IC.cell z.1 z.2 (by simpa using hz2)
  have hab := IC.above z.1 z.2 hz1
  rw [← e]
  refine ⟨by show s'.heap.get? z.2 = some ((s'.heap.get? z.2).getD _); rw [g1]; rfl, Nat.le_trans hLs (Nat.le_of_lt hab), hab, _, by show ((s'.heap.get? z.2).getD _).data = _; rw [g1]; exact g2⟩
 have ndl : (((env.locals, oL) :: cellPairs s'.heap env.cells).map (·.1)).Nodup := by
  rw [List.map_cons, List.nodup_cons]
  refine ⟨fun q => ?_, ?_⟩
  ·obtain ⟨z, hz, e⟩ := mmp q
   have := (pairOk z hz).2.2.1
   have e' : z.1 = env.locals := e
   exact absurd (e' ▸ this) (Nat.lt_irrefl _)
  ·unfold cellPairs
   rw [List.map_map]
   have hp := IC.apart.sublist (List.filter_sublist (p := fun p => env.cells.lookup p.1 == some p.2))
   exact List.Pairwise.map _ (fun z_ z_ h => h) hp
 have hl : ∀ q ∈ (env.locals, oL) :: cellPairs s'.heap env.cells, s'.heap.get? q.1 = some q.2 ∧ b.get? q.1 = none ∧ q.1 ∉ (w.all cf).map (·.1) ∧ ∀ vs, q.2.data ≠ .fields vs := fun q hq => by
  rcases List.mem_cons.mp hq with rfl | hq
  ·exact ⟨gL, S.fresh_b (fresh _ hLs), notKey _ hLs, sim_nf nL⟩
  ·obtain ⟨g1, g2, _, v, g3⟩ := pairOk q hq
   exact ⟨g1, S.fresh_b (fresh _ g2), notKey _ g2, fun vs e => by rw [g3] at e; injection e⟩
 have S2 := S1.tellMs hl ndl
 refine ⟨_, S2, ext_tellMs, L.tellMs, ?_, List.mem_map.mpr ⟨(env.locals, oL), .head _, rfl⟩, rfl, ?_⟩
 ·have notRho : ∀ a, s.heap.objs.size ≤ a → a ∉ w.rho := fun a ha q => by
   obtain ⟨z, hz, e⟩ := mmp (S.rho a q)
   exact notKey a ha (e ▸ mmo (mem_mu hz))
  have inCell : ∀ y c, env.cells.lookup y = some c → c ∉ w.rho ∧ c ≠ env.locals := fun y c hc => by
   have hab := IC.above y c (lookup_mem hc)
   exact ⟨notRho c (Nat.le_trans hLs (Nat.le_of_lt hab)), Nat.ne_of_gt hab⟩
  have chas : ∀ y, env.scope.names.lookup y = some .cell → (env.cells.lookup y).isSome = true := fun y hy => by
   obtain ⟨k, hk⟩ := hcs
   rw [hk]
   exact cells_has (.inl (lookup_mem hy))
  have den : ∀ x v, (x, v) ∈ ps.zip full → MZ cf P b w.fz w.rho ps vals x v := fun x v h => mem_zip_den d h
  have bnd : (((ps.map strOf).zip vals).map (·.1)).Nodup := zip_fst_nodup (map_str_nodup hnd)
  refine ⟨⟨oL, _, .head _, nL, fun x v h => ?_⟩, notRho _ hLs, ?_, fun x v h z_ => ?_, fun y c hc => ?_, fun x y c h1 h2 => name_of_addr IC.apart (lookup_mem h1) (lookup_mem h2), hg, hb, hk, chas, hlam⟩
  ·rw [hen] at h
   obtain ⟨h1, h2⟩ := lookN_filter h
   obtain ⟨val, g1, g2⟩ := den x v h1
   have hxp : x ∈ ps := (List.of_mem_zip h1).1
   exact ⟨val, bindL_mem bnd g1 ((hx x hxp).1 (by simpa using h2)), g2⟩
  ·obtain ⟨o, ho⟩ := hlast
   have h1 : b.objs.size - 1 < s.heap.objs.size := Heap.lt_size (S.stays _ _ ho)
   have h2 : b.objs.size ≤ s.heap.objs.size := by omega
   exact Nat.le_trans h2 hLs
  ·rw [hen] at h
   obtain ⟨h1, h2⟩ := lookN_filter h
   obtain ⟨val, g1, g2⟩ := den x v h1
   have hxp : x ∈ ps := (List.of_mem_zip h1).1
   have hcell := (hx x hxp).2 h2
   obtain ⟨c, hc⟩ := Option.isSome_iff_exists.mp (chas _ hcell)
   obtain ⟨o, q1, q2, q3⟩ := cellOk _ c hc
   rw [bindC_mem bnd g1 hcell] at q2
   exact ⟨c, o, val, hc, List.mem_append_left _ (.tail _ q3), q2, g2⟩
  ·obtain ⟨o, q1, q2, q3⟩ := cellOk _ c hc
   exact ⟨(inCell y c hc).1, (inCell y c hc).2, o, _, List.mem_append_left _ (.tail _ q3), q2⟩
 ·intro q hq ho
  have hkey : q.1 ∈ (w.all cf).map (·.1) := mmo (mem_mu hq)
  rcases List.mem_cons.mp ho with e | ho
  ·exact notKey _ hLs (e ▸ hkey)
  ·obtain ⟨z, hz, e⟩ := mmp ho
   have hab := IC.above z.1 z.2 hz
   exact notKey _ (Nat.le_trans hLs (Nat.le_of_lt hab)) (by rw [← e] at hkey; exact hkey)
noncomputable def KeepAt (M : Model) (h : Heap) (f : Value) : Prop := ∃ k, (k = Keeper.frame ∨ k = Keeper.machine ∨ k = Keeper.boundFrame) ∧ Looks M h (keeperOf f) k
noncomputable def SndC (cf : Cfg) (P : Params) (b : Heap) (M : Model) (n : Nat) (r : Task → Res) : Prop := ∀ {A : Around} {stk : List SE} {fL : Addr} {s : Shared} {w : Wd} {σ : Store} {fv : V} {fval : Value} {vs : List V} {vals : List Value},
 Cx A n stk fL → StkOk stk w → St cf b s.heap w → Live cf P b w σ → DenW cf P b w fv fval → DenLW cf P b w vs vals → ∀ Q E, Fin cf P b fL s w (r (.call fv vs σ)) Q E → KeepAt M s.heap fval ∧ wpAny M A (call fval vals) Q E s
noncomputable def SndCF (cf : Cfg) (P : Params) (b : Heap) (M : Model) (n : Nat) (r : Task → Res) : Prop := ∀ {A : Around} {stk : List SE} {fL : Addr} {s : Shared} {w : Wd} {σ : Store} {f : Nat} {a : Addr} {vs : List V} {vals : List Value},
 Cx A n stk fL → StkOk stk w → St cf b s.heap w → Live cf P b w σ → cf.fa f = some a → DenLW cf P b w vs vals → ∀ Q E, Fin cf P b fL s w (r (.call (.fn f) vs σ)) Q E → KeepAt M s.heap (.ref a) ∧ codeAny M A (.call (.ref a) ⟨vals, []⟩) (wants Q E) s
theorem Ext.over {own : List Addr} {w w1 w2 : Wd} (x : Ext [] w w1) (y : Ext own w1 w2) (hr : w1.rho = w.rho) (h : ∀ q ∈ w.mu, q.1 ∉ own) : Ext [] w w2 := by
 refine ⟨fun p hp => y.fz _ (x.fz _ hp), fun p hp => y.xt _ (x.xt _ hp), fun p hp h1 h2 => ?_, fun p hp => ?_, fun j a e => y.rho j a (x.rho j a e), fun p hp h1 => ?_⟩
 ·obtain ⟨o', q, m1⟩ := x.mu p hp h1 h2
  obtain ⟨o'', q2, m2⟩ := y.mu _ q (h p hp) (x.ro p hp h2)
  exact ⟨o'', q2, m1.trans m2⟩
 ·obtain ⟨q, hq, e⟩ := mmp (x.ky p hp)
  have := y.ky q hq
  rwa [e] at this
 ·obtain ⟨q, hq, e⟩ := mmp (x.ky p hp)
  have := y.ro q hq (by rw [e]; exact x.ro p hp h1)
  rwa [e] at this
theorem store_le {w2 : Wd} {σ2 : Store} (L0 : Live cf P b w σ) (e : Ext [] w w2) (L : Live cf P b w2 σ2) : σ.length ≤ σ2.length := by
 rw [← L0.len, ← L.len]
 cases hn : w.rho with
 | nil => exact Nat.zero_le _
 | cons x l =>
  have := e.rho l.length _ (List.getElem?_eq_getElem (by rw [hn]; exact Nat.lt_succ_self _))
  exact (List.getElem?_eq_some_iff.mp this).1
theorem end_at (hs : ∃ o, b.get? sysModules = some o) {mode : Mode} {v : V} {val : Value} {σ2 : Store} {w2 : Wd} {s2 : Shared} {Q E : VP} (L0 : Live cf P b w σ) (S0 : ∀ a ∈ w.rho, a ∈ w.mu.map (·.1)) (S : St cf b s2.heap w2) (e : Ext [] w w2) (L : Live cf P b w2 σ2) (d : DenW cf P b w2 v val)
  (f : Fin cf P b fL s w (endFn mode σ.length v σ2) Q E) (hss : s2 = { s with heap := s2.heap, toks := s2.toks }) : Q val s2 := by
 have hle := store_le L0 e L
 cases mode with
 | keep => exact Fin.ok f S e L d rfl hss
 | drop =>
  obtain ⟨hc, f⟩ := Fin.okIf f
  obtain ⟨h1, h2⟩ := Bool.and_eq_true_iff.mp hc
  exact Fin.ok (w1 := cut w2 σ.length) f S.cut (ext_cut e L0.len) (L.cut hle h2) (den_nref.1 _ _ d 12 h1) rfl hss
 | freeze =>
  obtain ⟨v', h1, f⟩ := Fin.need f
  obtain ⟨h2, f⟩ := f.okIf
  exact Fin.ok (w1 := frzW w2 σ.length) f S.frz (ext_frz S e L0.len S0) (L.frz S hle h2) ((den_frz S L hs 40).1 d h1) rfl hss
theorem keep_fn {a : Addr} {o : Obj} {fd : FuncData} (h1 : K.lookup a = some o) (h2 : o.data = .func fd) : keepIn K (.ref a) = true := by
 unfold keepIn
 dsimp only
 rw [h1]
 obtain ⟨o1, o2, o3, o4⟩ := o
 dsimp only at h2
 subst h2
 rfl
inductive DflR (cf : Cfg) (P : Params) (b : Heap) (s : Shared) (dfl : List V) (v : Value) : Prop
 | mk (ds : List Value) (h : ∀ (M : Model) (A : Around) (E : VP) (Q : Option (Array Value) → Shared → Prop), (∀ o, (o.getD #[]).toList = ds → Q o s) → wpAny M A (seqItems? v) Q E s) (d : DenL cf P b [] [] dfl ds) (l : ds.length = dfl.length)
theorem dfl_at {dfl : List V} {v : Value} (X : K.In s.heap) (h : DflAt cf K P b dfl v) : DflR cf P b s dfl v := by
 cases h with
 | none e h => subst e h; exact ⟨[], fun M A E Q hq => wpAny_pure (hq none rfl), .nil, rfl⟩
 | tup T n vs e h d => subst e; exact ⟨vs, fun M A E Q hq => wpAny_seqItems (X _ _ h) rfl (hq _ rfl), d, d.length⟩
theorem call_fn (B : Bs cf K p loose mean mg mb wd.params b G) (HB : SndB cf wd.params b (model prog wd) n r) {f : Nat} {g : Fn} {a : Addr} {vs : List V} {vals : List Value} (hfa : FnAt cf K wd.params b g a) (hg : fnOf G f G.fns = some g)
  (cx : Cx0 A (n + 1) stk) (so : StkOk stk w) (S : St cf b s.heap w) (L : Live cf wd.params b w σ) (dl : DenLW cf wd.params b w vs vals) {Q E : VP} (ff : Fin cf wd.params b fL s w (step G r (.call (.fn f) vs σ)) Q E) :
  KeepAt (model prog wd) s.heap (.ref a) ∧ codeAny (model prog wd) A (.call (.ref a) ⟨vals, []⟩) (wants Q E) s := by
 obtain ⟨o, fd, as_, dd, body, h1, h2, h3, h4, h5, h6, h7, h8, h9, h10, h11, h12, h13, h14, h15, h16, h18, h17⟩ := hfa
 have X := B.X.keeps S.stays
 refine ⟨keeps_K (keep_fn h1 h2) _ X, ?_⟩
 obtain ⟨g', hg', f1⟩ := ff.need
 injection hg.symm.trans hg' with j1; subst j1
 obtain ⟨bs, hb, f2⟩ := f1.need
 clear ff f1 hg'
 obtain ⟨b1, b2, b3⟩ := bindP_some hb
 have hlen : vals.length = vs.length := dl.length
 have hps : as_.length = g.params.length := by rw [← List.length_map (f := (·.arg)), h4, List.length_map]
 obtain ⟨ds, hds, dds, hdl⟩ := dfl_at (s := s) X h5
 have bind := bind_gen (s := s) (vals := vals) h3 hds (by rw [h4]; exact map_str_nodup h15) (by rw [hlen, hps]; exact b1) (by rw [hlen, hps, hdl]; exact b2) (by rw [hdl, hps]; exact h16)
 rw [h4, hdl, hps, hlen] at bind
 have dfull : DenLW cf wd.params b w (vs ++ g.dfl.drop (vs.length + g.dfl.length - g.params.length)) (vals ++ ds.drop (vs.length + g.dfl.length - g.params.length)) :=
  DenL.append dl (DenL.drop _ (DenL.mono (fun z_ q => absurd q List.not_mem_nil) (fun z_ z_ q => by simp at q) dds))
 refine codeAny_call_function (o := o) (fd := fd) (body := body) (by have := cx.dp; show A.depth < 1000; omega) (X _ _ h1) h2 h7 h8 h12 (codeRec_of X h13) ?_
 refine bind _ _ _ _ ?_
 rw [h9]
 refine wpAny_newFunctionEnv_cells h6 (fun z hz => ?_) fun env henv s' IC => ?_
 ·have hz1 : z.1 ∈ g.params.map strOf := (List.of_mem_zip (show (z.1, z.2) ∈ _ from hz)).1
  obtain ⟨x, hx, e⟩ := mmp hz1
  rw [← e]
  cases hc : inL x g.cells with
  | false => exact .inl ((h17 x hx).1 hc)
  | true => exact .inr ⟨(h17 x hx).2 hc, cells_has (.inl (lookup_mem ((h17 x hx).2 hc)))⟩
 ·obtain ⟨hh1, tk1, hs'⟩ := IC.toInCall.same
  have hsc : env.scope = fd.scope := by rw [henv]; rfl
  have hfrm : env.frame = some env.locals := by rw [henv]; rfl
  obtain ⟨w1, S1, e1, L1, eo1, hl1, hr1, hf1⟩ := enter B.last (ps := g.params) (cells := g.cells) S L dfull h15 rfl (by rw [hsc]; exact h17) (by rw [hsc]; exact h6) (by rw [henv]; exact h18) (by rw [henv]; exact h10) (by rw [henv]; exact h11) ⟨s.heap.objs.size + 1, by rw [henv]; rfl⟩ IC
  refine ⟨B.T.nolimit.keeps S1.stays, codeAny_func ?_⟩
  have O1 : Ok cf wd.params b (A.deeper env) n (env :: stk) env.locals (mkEnv g.cells (g.params.zip (vs ++ g.dfl.drop (vs.length + g.dfl.length - g.params.length)))) env s' w1 σ := by
   refine ⟨⟨cx.hh, ?_, ⟨env, stk, rfl, hfrm⟩, ?_, ?_⟩, fun e he => ?_, hfrm, eo1, S1, L1⟩
   ·show A.frames.map (env :: ·) = _
    rw [cx.fr]; rfl
   ·have := cx.dp
    show A.depth + 1 + 4 * n ≤ 800
    omega
   ·have := cx.un
    show A.units + 3 + 30 * n ≤ 9000
    omega
   ·rcases List.mem_cons.mp he with rfl | he
    ·refine ⟨⟨by rw [hsc, h6]; decide, by rw [hsc]; exact h8, by rw [hsc]; exact h7, by rw [henv]; exact h11, by rw [henv]; exact h10⟩, e.locals, hfrm, hl1, eo1.lnr⟩
    ·exact so.ext e1 e he
  have hbody : ErB cf env.scope body g.body := by rw [hsc]; exact h14
  rw [← b3] at O1
  refine HB O1 hbody _ _ ?_
  revert f2
  generalize r (.b (mkEnv g.cells bs) g.body σ) = res
  intro f2
  have ssame : ∀ (h2 : Heap) (tk2 : Nat), ({ s' with heap := h2, toks := tk2 } : Shared) = { s with heap := h2, toks := tk2 } := fun h2 tk2 => by rw [hs']
  cases res with
  | ret v σ' =>
   intro w2 h2 tk2 S2 e2 L2 val d2
   rw [ssame]
   exact end_at (s2 := { s with heap := h2, toks := tk2 }) B.sysm L S.rho S2 (e1.over e2 hr1 hf1) L2 d2 f2 rfl
  | nxt en' σ' =>
   intro w2 h2 tk2 S2 e2 L2 _
   rw [ssame]
   exact end_at (v := .none) (s2 := { s with heap := h2, toks := tk2 }) B.sysm L S.rho S2 (e1.over e2 hr1 hf1) L2 .none f2 rfl
  | exc c σ' =>
   obtain ⟨hc, f3⟩ := Fin.ifB_ f2
   intro w2 h2 tk2 ex S2 e2 L2 X2
   refine exc_leave (s := { s' with heap := h2, toks := tk2 }) S2 L2 (O1.so.ext e2) O1.cx.fr hfrm X2 fun h3 w3 S3 e3 L3 X3 => ?_
   have e4 := (e1.over e2 hr1 hf1).trans e3
   show E (.ref ex) { s' with heap := h3, toks := tk2 }
   rw [ssame]
   exact f3 (cut w3 σ.length) h3 tk2 ex S3.cut (ext_cut e4 L.len) (L3.cut (store_le L e4 L3) hc) (X3 fL)
  | _ => exact False.elim f2
theorem star_er {pos : Pos} {sc : Scope} {es : List PE} {xs : List Ex} (R : ErL cf sc es xs) (env : SE) : (backTo pos (starEach es env)).any (·.1) = false ∧ (backTo pos (starEach es env)).all (fun x => !x.1) = true := by
 induction es generalizing xs with
 | nil => exact ⟨rfl, rfl⟩
 | cons e es ih =>
  obtain ⟨_, _, rfl, h, l⟩ := R.cons_inv
  rw [h.star]
  exact ih l
theorem args_er {f : Value} {pos : Pos} {sc : Scope} {es : List PE} {xs : List Ex} {Q : Args → Shared → Prop} (R : ErL cf sc es xs) (h : wpAny M A (spliced (backTo pos (starEach es env))) (fun vs s' => Q ⟨vs, []⟩ s') E s) : wpAny M A (evalArgs f true (backTo pos (starEach es env)) []) Q E s := by
 cases es with
 | nil =>
  unfold evalArgs
  show wpAny M A (spliced [] >>= _) Q E s
  exact wpAny_bind (wpAny_mono (show wpAny M A (spliced []) (fun vs s' => Q ⟨vs, []⟩ s') E s from h) (fun vs s' h' => wpAny_bind (wpAny_pure (wpAny_holding (wpAny_bind (wpAny_pure (wpAny_bind (wpAny_pure (wpAny_pure h')))))))) fun z_ z_ x => x)
 | cons e es =>
  obtain ⟨_, _, rfl, he, hes⟩ := R.cons_inv
  rw [he.star] at h ⊢
  exact evalArgs_plain h
theorem callWith_er {f : Value} {first : List Value} {pos : Pos} {es : List PE} {xs : List Ex} {Q : VP} (R : ErL cf env.scope es xs)
  (h : wpAny M A (spliced (backTo pos (starEach es env))) (fun vs s' => KeepAt M s'.heap f ∧ wpAny M A (call f (first ++ vs)) Q E s') E s) : wpAny M A (callWith pos f first (backTo pos (starEach es env)) []) Q E s :=
 callWith_of (P := fun h => KeepAt M h f) (by rw [(star_er R env).1]; rfl) (fun z_ h => h) (args_er R h)
theorem method_raw {o : PE} {name : Str} {apos pos : Pos} {es : List PE} {Q : VP} (hc : isCall o = false) (hl : (apos.endLine == pos.line) = true) (R : (backTo pos (starEach es env)).all (fun x => !x.1) = true) (h20 : es.length ≤ 20)
  (h : wpAny M A (eval o env) (fun ov s₁ => (∀ pl, ∃ X, wpAny M A (getMethod ov name pl) X E s₁ ∧ ∀ fx s₂, X fx s₂ → wpAny M A (callWith pos fx.1 fx.2 (backTo pos (starEach es env)) []) Q E s₂)) E s) :
  wpAny M A (eval (.Call (.Attribute o name apos) es [] pos) env) Q E s := by
 rw [arm_eval_Call, base_plain hc]
 refine wpAny_bind (wpAny_mono h (fun ov s₁ h₁ => ?_) fun z_ z_ e => e)
 refine wpAny_bind (wpAny_standAt ?_)
 have hfew : methodCallForm (es.length + ([] : List Keyword).length) (backTo pos (starEach es env)) (backToKw pos (keywordEach [] env)) = true := by
  unfold methodCallForm
  rw [R]
  show (true && true && decide (es.length + 0 + 0 < 30)) = true
  simp; omega
 have hpos : methodCallPos true o env apos pos = pure pos := by unfold methodCallPos; simp [hl]
 unfold methodCall
 rw [hfew]
 obtain ⟨X, h2, h3⟩ := h₁ (do return (← importBound o env).getD true)
 refine wpAny_bind (wpAny_holding (wpAny_mono h2 (fun fx s₂ hx => ?_) fun z_ z_ e => e))
 exact wpAny_bind (wpAny_of_eq hpos (h3 fx s₂ hx))
theorem method_er {o : PE} {name : Str} {apos pos : Pos} {es : List PE} {xs : List Ex} {Q : VP} (hc : isCall o = false) (hl : (apos.endLine == pos.line) = true) (R : ErL cf env.scope es xs) (h20 : es.length ≤ 20)
  (h : wpAny M A (eval o env) (fun ov s₁ => (∀ pl, ∃ X, wpAny M A (getMethod ov name pl) X E s₁ ∧ ∀ fx s₂, X fx s₂ → wpAny M A (callWith pos fx.1 fx.2 (backTo pos (starEach es env)) []) Q E s₂)) E s) :
  wpAny M A (eval (.Call (.Attribute o name apos) es [] pos) env) Q E s := method_raw hc hl (star_er R env).2 h20 h
theorem attr_none {func : PE} {args : List PE} {pos : Pos} (h : isAttr func = false) : eval (.Call func args [] pos) env = (do callWith pos (← eval func env) [] (backTo pos (starEach args env)) (backToKw pos (keywordEach [] env))) := by cases func <;> first | rfl | injection h
theorem e_call (H : SndE cf wd.params b (model prog wd) n r) (HL : SndL cf wd.params b (model prog wd) n r) (HC : SndC cf wd.params b (model prog wd) n r) {f : PE} {es : List PE} {a : Ex} {xs : List Ex} {pos : Pos} (O : Ok cf wd.params b A (n + 1) stk fL en env s w σ)
  (R : Er cf env.scope f a) (hf : isAttr f = false) (RL : ErL cf env.scope es xs) :
  Tr cf wd.params b (model prog wd) A fL (eval (.Call f es [] pos) env) s w (step G r (.e en (.call a xs) σ)) := fun Q E f => by
 refine Call_ ?_ (attr_none hf)
 refine Tr.bind (H O.down R) f fun v σ1 w1 h1 tk1 val S e1 L d f => ?_
 have O1 := O.down.to (tk1 := tk1) S e1 L
 refine callWith_er RL (TrL.binds (HL O1 RL) f fun vs σ2 w2 h2 tk2 vals z_ S2 e2 L2 d2 f => ?_)
 have O2 := O1.to (tk1 := tk2) S2 e2 L2
 exact HC (s := { s with heap := h2, toks := tk2 }) O2.cx O2.so S2 L2 (d.ext e2) d2 Q E f
theorem inst_meth (HL : SndL cf wd.params b (model prog wd) n r) (HC : SndC cf wd.params b (model prog wd) n r) (B : Bs cf K p loose mean mg mb wd.params b G) {es : List PE} {xs : List Ex} {pos : Pos} (O : Ok cf wd.params b A n stk fL en env s w σ) (RL : ErL cf env.scope es xs)
  {c m k : Nat} {C x dx : Addr} {kvs : List (Nat × V)} {de : List DictEntry} {g : Fn} {v : V} {Q : VP} (hC : cf.ia c = some C) (g1 : s.heap.get? x = some (instObj C dx)) (g2 : s.heap.get? dx = some (dictOf de k)) (l : DenDW cf wd.params b w kvs de)
  (hn : lookN m kvs = none) (hg : fnOf G (mkM c m) G.fns = some g) (d : DenW cf wd.params b w v (.ref x)) (f : Fin cf wd.params b fL s w ((r (.es en xs σ)).binds fun vs σ => r (.call (.fn (mkM c m)) (v :: vs) σ)) Q E) (pl : Sem Bool) :
  ∃ X, wpAny (model prog wd) A (getMethod (.ref x) (strOf m) pl) X E s ∧ ∀ fx s₂, X fx s₂ → wpAny (model prog wd) A (callWith pos fx.1 fx.2 (backTo pos (starEach es env)) []) Q E s₂ := by
 obtain ⟨fa, q1, q2, q3, q4, q5⟩ := B.meth c C m g hC hg
 have hl := getL_den (k := m) l
 rw [hn] at hl
 refine ⟨fun fx s₂ => fx = (.ref fa, [.ref x]) ∧ s₂ = s, ?_, ?_⟩
 ·refine method_fn (B.X.keeps O.st.stays) (inst_at g1 g2) (plainGet_of q4).1 (plainGet_of q4).2 q2 (beq_iff_eq.mp q3) (by show (lookIn (strOf m) (dictOf de k)).map _ = _; rw [lookIn_dict, hl.1]; rfl) ⟨rfl, rfl⟩
 ·rintro fx s₂ ⟨rfl, rfl⟩
  refine callWith_er RL (TrL.binds (HL O RL) f fun vs σ2 w2 h2 tk2 vals z_ S2 e2 L2 d2 f => ?_)
  have O2 := O.to (tk1 := tk2) S2 e2 L2
  exact HC (s := { s₂ with heap := h2, toks := tk2 }) (fv := .fn (mkM c m)) O2.cx O2.so S2 L2 (.fn q1) (.cons (d.ext e2) d2) Q E f
theorem upper_one : ∀ c, c < 128 → Txt.isupper ⟨#[c]⟩ = (Nat.ble 65 c && Nat.ble c 90) := by decide +kernel
noncomputable def nUpper : Nat := 32199680942502761
noncomputable def nAppend : Nat := 110425311047777
noncomputable def nExtend : Nat := 110425311311973
theorem str_upper : strOf nUpper = ("isupper" : Str) := by decide +kernel
theorem str_append : strOf nAppend = ("append" : Str) := by decide +kernel
theorem str_extend : strOf nExtend = ("extend" : Str) := by decide +kernel
theorem one8_eq {l : List Nat} {c : Nat} (e : one8 l = some c) : l = [c] := by
 unfold one8 at e
 split at e
 ·obtain rfl := sI e; rfl
 ·exact noS e
theorem nilX_eq {xs : List Ex} (e : nilX xs = true) : xs = [] := by
 cases xs with
 | nil => rfl
 | cons => exact noB e
noncomputable abbrev MethAt (M : Model) (A : Around) (pos : Pos) (es : List PE) (env : SE) (ov : Value) (name : Str) (s : Shared) (Q E : VP) (pl : Sem Bool) : Prop :=
 ∃ X, wpAny M A (getMethod ov name pl) X E s ∧ ∀ fx s₂, X fx s₂ → wpAny M A (callWith pos fx.1 fx.2 (backTo pos (starEach es env)) []) Q E s₂
theorem str_meth {es : List PE} {xs : List Ex} {pos : Pos} (O : Ok cf wd.params b A n stk fL en env s w σ) (RL : ErL cf env.scope es xs) {m x : Nat} {t : Tok} {Q : VP}
  (f : Fin cf wd.params b fL s w (methS m x xs σ) Q E) (pl : Sem Bool) : MethAt (model prog wd) A pos es env (.str (strOf x) t) (strOf m) s Q E pl := by
 obtain ⟨c, hd, f1⟩ := f.need
 obtain ⟨hc0, f2⟩ := f1.okIf
 clear f f1
 have hd := one8_eq hd
 obtain ⟨c1, c2⟩ := Bool.and_eq_true_iff.mp hc0
 clear hc0
 obtain ⟨hm, hc⟩ := Bool.and_eq_true_iff.mp c2
 clear c2
 obtain rfl := nilX_eq c1
 have hes : es = [] := List.length_eq_zero_iff.mp RL.length
 subst hes
 obtain rfl := nbe hm
 have hx : strOf x = ⟨#[c]⟩ := by unfold strOf; rw [hd]
 refine ⟨fun fx s₂ => fx = (.builtin "str.isupper", [.str (strOf x) t]) ∧ s₂ = s, by rw [show strOf 32199680942502761 = _ from str_upper]; exact GM.isupper ⟨rfl, rfl⟩, ?_⟩
 rintro fx s₂ ⟨rfl, rfl⟩
 refine callWith_method0 (SC.isupper ?_)
 rw [hx, upper_one c (Nat.lt_succ_of_le (nle hc))]
 exact Fin.ok f2 O.st (.refl _ _) O.lv (.bool _)
theorem sole_eq {vs : List V} {v : V} (e : sole vs = some v) : vs = [v] := by
 unfold sole at e
 split at e
 ·obtain rfl := sI e; rfl
 ·exact noS e
theorem methL_at {m j : Nat} {v : V} {val : Value} {a : Addr} {ys : List V} {Q : VP} (S : St cf b s.heap w) (L : Live cf wd.params b w σ) (hr : w.rho[j]? = some a) (hj : lstAt σ j = some ys) (d : DenW cf wd.params b w v val) (f : Fin cf wd.params b fL s w (methL m j v ys σ) Q E) :
  (Nat.beq m nAppend = true → wpAny (model prog wd) A (call (.builtin "list.append") [.ref a, val]) Q E s) ∧ (Nat.beq m nAppend = false → wpAny (model prog wd) A (call (.builtin "list.extend") [.ref a, val]) Q E s) := by
 obtain ⟨a1, o, e1, k2, k3, zs, q, rfl, dl⟩ := L.ref S (.ref hr) (lstAt_eq hj)
 injection e1 with e1; subst e1
 have fin : ∀ {h' : Heap} {zs' : List Value} {ys' : List V} {q' : Nat}, Heap.SameBut a s.heap h' → h'.get? a = some (listOf (List.toArray zs') q') → DenLW cf wd.params b w ys' zs' → Fin cf wd.params b fL s w (.ok .none (σ.set j (.lst ys'))) Q E → Q .none { s with heap := h' } := fun {h' zs' ys' q'} hsb hg dl f => by
  obtain ⟨w', S', e', L'⟩ := upd_at S L hr hsb hg (fun z_ q => nomatch q) (so := .lst ys') ⟨zs', q', rfl, dl⟩
  exact Fin.ok f S' e' L' .none
 unfold methL at f
 refine ⟨fun hm => ?_, fun hm => ?_⟩
 ·rw [show Nat.beq m 110425311047777 = true from hm] at f
  obtain ⟨hz, f⟩ := Fin.okIf f
  refine append_at k3 (fun h' hsb hg => ?_) (by rw [List.size_toArray, dl.length]; exact Nat.le_trans (nle hz) (by decide))
  rw [List.push_toArray] at hg
  exact fin hsb hg (dl.append (.cons d .nil)) f
 ·rw [show Nat.beq m 110425311047777 = false from hm] at f
  obtain ⟨us, hu, f⟩ := Fin.need f
  obtain ⟨hz, f⟩ := f.okIf
  obtain ⟨a2, us', k2', rfl, hg2, du⟩ := isLst_at S L d hu
  have hsz : zs.toArray.size + us'.toArray.size ≤ sizeLine := by rw [List.size_toArray, List.size_toArray, dl.length, du.length]; exact Nat.le_trans (nle hz) (by decide)
  refine call_meets F.slot_list_extend ⟨_, k3, rfl⟩ F.entry_list_extend (F.args_list_extend_2 _ _) (AutoSeq1.list_extend_list_list_0 a zs.toArray q a2 us'.toArray k2' (extend_door hsz) (Nat.le_trans (Nat.le_add_right _ _) hsz)) ⟨k3, hg2, ?_⟩
  have ho' : (s.heap.update a (Obj.mapSeq fun x => x ++ us'.toArray)).get? a = some { cls := .type "list", data := .seq (zs ++ us').toArray (if (zs.toArray ++ us'.toArray).size == zs.toArray.size then q else q + 1) } := by
   rw [Heap.get?_update_self _ k3 (by rw [mapSeq_app]; rfl), mapSeq_app, List.append_toArray]
  exact fin (Heap.SameBut.update ..) ho' (dl.append du) f
theorem list_meth (HL : SndL cf wd.params b (model prog wd) n r) {es : List PE} {xs : List Ex} {pos : Pos} (O : Ok cf wd.params b A n stk fL en env s w σ) (RL : ErL cf env.scope es xs) {m j : Nat} {a : Addr} {ys0 : List V} (hj0 : lstAt σ j = some ys0) (hr : w.rho[j]? = some a) {Q : VP}
  (f : Fin cf wd.params b fL s w ((r (.es en xs σ)).binds fun vs σ => needO (lstAt σ j) fun xs => needO (sole vs) fun v => methL m j v xs σ) Q E) (hm : Nat.beq m nAppend = true ∨ Nat.beq m nAppend = false ∧ m = nExtend) (pl : Sem Bool) : MethAt (model prog wd) A pos es env (.ref a) (strOf m) s Q E pl := by
 obtain ⟨a0, o0, e0, g2, g3, vs0, m0, rfl, g4⟩ := O.lv.ref O.st (.ref hr) (lstAt_eq hj0)
 injection e0 with e0; subst e0
 have fin : ∀ {bi : String}, (∀ {s2 : Shared} {w2 : Wd} {σ2 : Store} {v : V} {val : Value} {ys : List V}, St cf b s2.heap w2 → Live cf wd.params b w2 σ2 → w2.rho[j]? = some a → lstAt σ2 j = some ys → DenW cf wd.params b w2 v val → Fin cf wd.params b fL s2 w2 (methL m j v ys σ2) Q E → wpAny (model prog wd) A (call (.builtin bi) [.ref a, val]) Q E s2) →
   wpAny (model prog wd) A (callWith pos (.builtin bi) [.ref a] (backTo pos (starEach es env)) []) Q E s := fun {bi} hc => by
  refine callWith_er RL (TrL.binds (HL O RL) f fun vs σ2 w2 h2 tk2 vals z_ S2 e2 L2 d2 f => ⟨⟨.machine, .inr (.inl rfl), .now⟩, ?_⟩)
  obtain ⟨ys, hj, f⟩ := f.need
  obtain ⟨v, hv, f⟩ := f.need
  rw [sole_eq hv] at d2
  obtain ⟨val, _, rfl, d, d3⟩ := d2.cons_inv
  obtain rfl := d3.nil_inv
  exact hc (s2 := { s with heap := h2, toks := tk2 }) S2 L2 (e2.rho j a hr) hj d f
 rcases hm with hm | ⟨hm, rfl⟩
 ·obtain rfl := nbe hm
  refine ⟨fun fx s₂ => fx = (.builtin "list.append", [.ref a]) ∧ s₂ = s, by rw [str_append]; exact Calls.getMethod_list_append g3 rfl rfl ⟨rfl, rfl⟩, ?_⟩
  rintro fx s₂ ⟨rfl, rfl⟩
  exact fin fun S L hr hj d f => (methL_at S L hr hj d f).1 rfl
 ·refine ⟨fun fx s₂ => fx = (.builtin "list.extend", [.ref a]) ∧ s₂ = s, by rw [str_extend]; exact getMethod_builtin ⟨_, g3, rfl⟩ F.plainAttrs_list F.slot_list_extend F.type_list_extend (fun a' e => by injection e with e; subst e; exact ⟨_, g3, rfl⟩) ⟨rfl, rfl⟩, ?_⟩
  rintro fx s₂ ⟨rfl, rfl⟩
  exact fin fun S L hr hj d f => (methL_at S L hr hj d f).2 rfl
theorem clsM_inv {m f : Nat} {x : V} (e : clsM G σ m x = some f) : ∃ c kvs, clsOf x = some c ∧ attOf σ x = some kvs ∧ lookN m kvs = none ∧ f = mkM c m ∧ ∃ g, fnOf G f G.fns = some g := by
 obtain ⟨c, e1, e⟩ := obe e
 obtain ⟨kvs, e2, e⟩ := obe e
 refine ⟨c, kvs, e1, e2, ?_⟩
 cases h1 : lookN m kvs with
 | some _ => rw [h1] at e; exact noS e
 | none => cases h2 : fnOf G (mkM c m) G.fns with
  | none => rw [h1, h2] at e; exact noS e
  | some g => rw [h1, h2] at e; obtain rfl := sI e; exact ⟨rfl, rfl, g, h2⟩
theorem e_meth (H : SndE cf wd.params b (model prog wd) n r) (HL : SndL cf wd.params b (model prog wd) n r) (HC : SndC cf wd.params b (model prog wd) n r) (B : Bs cf K p loose mean mg mb wd.params b G) {o : PE} {es : List PE} {a : Ex} {m : Nat} {xs : List Ex} {pp pos : Pos} (O : Ok cf wd.params b A (n + 1) stk fL en env s w σ)
  (R : Er cf env.scope o a) (hc : isCall o = false) (hl : (pp.endLine == pos.line) = true) (RL : ErL cf env.scope es xs) (h20 : es.length ≤ 20) :
  Tr cf wd.params b (model prog wd) A fL (eval (.Call (.Attribute o (strOf m) pp) es [] pos) env) s w (step G r (.e en (.meth a m xs) σ)) := fun Q E f => by
 refine method_er hc hl RL h20 (Tr.bind (H O.down R) f fun v σ1 w1 h1 tk1 val S e1 L d f => ?_)
 have O1 := O.down.to (tk1 := tk1) S e1 L
 intro pl
 rcases f.else_ with ⟨fm, e, f⟩ | ⟨_, f⟩
 ·obtain ⟨c, kvs, h1, h2, h3, rfl, g, h4⟩ := clsM_inv e
  obtain ⟨c', C, x, dx, de, k, rfl, hC, g1, g2, l, hcase⟩ := attOf_at S L d h2
  injection h1.symm.trans hcase with j1; subst j1
  exact inst_meth @HL @HC B O1 RL hC g1 g2 l h3 h4 d f pl
 rcases f.else_ with ⟨x, e, f⟩ | ⟨_, f⟩
 ·obtain rfl := strV_eq e
  obtain ⟨t, rfl⟩ := den_str d
  exact str_meth O1 RL f pl
 obtain ⟨j, e, f1⟩ := f.need
 obtain ⟨ys, hj, f2⟩ := f1.need
 obtain ⟨hm, f3⟩ := f2.ifB_
 obtain rfl := refV_eq e
 obtain ⟨ad, rfl, hr⟩ := d.inv
 refine list_meth @HL O1 RL hj hr f3 ?_ pl
 cases h : Nat.beq m nAppend with
 | true => exact .inl rfl
 | false =>
  rw [show Nat.beq m 110425311047777 = false from h] at hm
  exact .inr ⟨rfl, nbe hm⟩
section
variable {h h' : Heap} {w' : Wd} {own xs : List Addr}
theorem xt_off (S : St cf b h w) {a : Addr} (ha : a ∈ w.xt.map (·.1)) {p : Addr × Obj} (hp : p ∈ w.fz ∨ p ∈ w.mu ∨ p = (cf.tabA, tabObj w.tb)) : p.1 ≠ a := fun e => by
 have e1 := S.nd
 simp only [Wd.all, List.map_append] at e1
 rw [List.nodup_append, List.nodup_append, List.nodup_append] at e1
 rcases hp with hp | hp | hp
 ·exact e1.2.2 _ (mmo hp) _ (List.mem_append_left _ ha) e
 ·exact e1.2.1.2.2 _ ha _ (List.mem_append_left _ (mmo hp)) e.symm
 ·exact e1.2.1.2.2 _ ha _ (List.mem_append_right _ (by rw [← hp]; exact .head _)) e.symm
noncomputable def reX (h' : Heap) (xs : List Addr) (w : Wd) : Wd := { w with xt := w.xt.map fun p => if p.1 ∈ xs then (p.1, (h'.get? p.1).getD p.2) else p }
theorem reX_keys : (reX h' xs w).xt.map (·.1) = w.xt.map (·.1) := by
 unfold reX
 rw [List.map_map]
 refine List.map_congr_left fun p z_ => ?_
 show (if p.1 ∈ xs then (p.1, (h'.get? p.1).getD p.2) else p).1 = p.1
 by_cases e : p.1 ∈ xs
 ·rw [if_pos e]
 ·rw [if_neg e]
theorem reX_all : (Wd.all cf (reX h' xs w)).map (·.1) = (w.all cf).map (·.1) := by
 have := reX_keys (h' := h') (xs := xs) (w := w)
 simp only [Wd.all, List.map_append, this]
 rfl
theorem St.reX (S : St cf b h w) (hx : ∀ a ∈ xs, a ∈ w.xt.map (·.1)) (live : ∀ a ∈ xs, ∃ o, h'.get? a = some o) (k : ∀ a o, a ∉ xs → h.get? a = some o → h'.get? a = some o) : St cf b h' (reX h' xs w) := by
 have off : ∀ p, (p ∈ w.fz ∨ p ∈ w.mu ∨ p = (cf.tabA, tabObj w.tb)) → p.1 ∉ xs := fun p hp q => xt_off S (hx _ q) hp rfl
 have bnone : ∀ a ∈ xs, b.get? a = none := fun a ha => by
  obtain ⟨q, hq, e⟩ := mmp (hx a ha)
  exact e ▸ S.new q (mem_xt hq)
 refine ⟨fun a o e => k a o (fun q => by rw [bnone a q] at e; exact noS e) (S.stays a o e), fun p hp => ?_, fun p hp => ?_, S.nf, by rw [reX_all]; exact S.nd, S.rho, S.rnd, S.tab⟩
 ·rcases all_cases hp with hp | hp | hp | hp
  ·exact k _ _ (off p (.inl hp)) (S.kn p (mem_fz hp))
  ·obtain ⟨q, hq, e⟩ := mmp hp
   by_cases hqx : q.1 ∈ xs
   ·rw [if_pos hqx] at e
    obtain ⟨o, ho⟩ := live _ hqx
    rw [← e]
    show h'.get? q.1 = some ((h'.get? q.1).getD q.2)
    rw [ho]; rfl
   ·rw [if_neg hqx] at e
    subst e
    exact k _ _ hqx (S.kn _ (mem_xt hq))
  ·exact k _ _ (off p (.inr (.inl hp))) (S.kn p (mem_mu hp))
  ·exact k _ _ (off p (.inr (.inr hp))) (S.kn p (hp ▸ mem_tab))
 ·have : p.1 ∈ (Wd.all cf (Mine.reX h' xs w)).map (·.1) := mmo hp
  rw [reX_all] at this
  obtain ⟨q, hq, e⟩ := mmp this
  exact e ▸ S.new q hq
theorem ext_reX (e : Ext own w0 w) (hx : ∀ a ∈ xs, a ∉ w0.xt.map (·.1)) : Ext own w0 (reX h' xs w) :=
 ⟨e.fz, fun p hp => List.mem_map.mpr ⟨p, e.xt p hp, if_neg fun q => hx _ q (mmo hp)⟩, e.mu, e.ky, e.rho, e.ro⟩
theorem Live.reX (L : Live cf P b w σ) : Live cf P b (reX h' xs w) σ :=
 ⟨L.len, fun j so e => let ⟨a, o, h1, h2, h3⟩ := L.at_ j so e; ⟨a, o, h1, h2, by cases so <;> exact h3⟩⟩
theorem St.tellX (S : St cf b h w) {D : Addr} {o : Obj} (hn : h.get? D = some o) (hb : b.get? D = none) (hk : D ∉ (w.all cf).map (·.1)) : St cf b h { w with xt := (D, o) :: w.xt } := by
 have hm : ∀ p, p ∈ Wd.all cf { w with xt := (D, o) :: w.xt } → p = (D, o) ∨ p ∈ w.all cf := fun p hp => by
  rcases all_cases hp with hp | hp | hp | hp
  ·exact .inr (mem_fz hp)
  ·rcases List.mem_cons.mp hp with hp | hp
   ·exact .inl hp
   ·exact .inr (mem_xt hp)
  ·exact .inr (mem_mu hp)
  ·exact .inr (hp ▸ mem_tab)
 refine ⟨S.stays, fun p hp => ?_, fun p hp => ?_, S.nf, ?_, S.rho, S.rnd, S.tab⟩
 ·rcases hm p hp with rfl | hp
  ·exact hn
  ·exact S.kn p hp
 ·rcases hm p hp with rfl | hp
  ·exact hb
  ·exact S.new p hp
 ·refine perm_nodup (l := (D, o) :: w.all cf) ?_ (List.nodup_cons.mpr ⟨hk, S.nd⟩)
  exact (List.perm_middle (a := (D, o)) (l₁ := w.fz) (l₂ := w.xt ++ (w.mu ++ [(cf.tabA, tabObj w.tb)]))).symm
theorem tellX_keys {l : Led} : ∀ {w : Wd} {a : Addr}, a ∈ (Wd.all cf { w with xt := l ++ w.xt }).map (·.1) ↔ (a ∈ l.map (·.1) ∨ a ∈ (w.all cf).map (·.1)) := by
 intro w a
 simp only [Wd.all, List.map_append, List.mem_append]
 constructor
 ·rintro (h | (h | h) | h)
  ·exact .inr (.inl h)
  ·exact .inl h
  ·exact .inr (.inr (.inl h))
  ·exact .inr (.inr (.inr h))
 ·rintro (h | h | h | h)
  ·exact .inr (.inl (.inl h))
  ·exact .inl h
  ·exact .inr (.inl (.inr h))
  ·exact .inr (.inr h)
theorem St.tellXs {l : Led} (S : St cf b h w) (hp : ∀ p ∈ l, h.get? p.1 = some p.2 ∧ b.get? p.1 = none ∧ p.1 ∉ (w.all cf).map (·.1)) (nd : (l.map (·.1)).Nodup) : St cf b h { w with xt := l ++ w.xt } := by
 induction l with
 | nil => exact S
 | cons p l ih =>
  have nd := List.nodup_cons.mp nd
  obtain ⟨h1, h2, h3⟩ := hp p (.head _)
  exact (ih (fun q hq => hp q (.tail _ hq)) nd.2).tellX (D := p.1) (o := p.2) h1 h2 fun q => (tellX_keys.mp q).elim nd.1 h3
theorem ext_tellXs {l : Led} : Ext own w { w with xt := l ++ w.xt } :=
 ⟨fun z_ h => h, fun z_ h => List.mem_append_right _ h, fun p h z_ z_ => ⟨p.2, h, .refl _⟩, fun p h => mmo h, fun z_ z_ h => h, fun z_ z_ h => h⟩
theorem Live.xt {x : Led} (L : Live cf P b w σ) : Live cf P b { w with xt := x } σ :=
 ⟨L.len, fun j so e => let ⟨a, o, h1, h2, h3⟩ := L.at_ j so e; ⟨a, o, h1, h2, by cases so <;> exact h3⟩⟩
theorem EnvOk.xt {en : Mine.Env} {env : SE} {x : Led} (eo : EnvOk cf P b en env w) : EnvOk cf P b en env { w with xt := x } :=
 ⟨eo.loc, eo.lnr, eo.lge, eo.cel, eo.cnr, eo.cnd, eo.g, eo.bt, eo.k, eo.chas, eo.lamc⟩
theorem StkOk.xt {stk : List SE} {x : Led} (so : StkOk stk w) : StkOk stk { w with xt := x } := so
noncomputable def dropXs (xs : List Addr) (w : Wd) : Wd := { w with xt := w.xt.filter fun q => !decide (q.1 ∈ xs) }
theorem dropXs_all {p : Addr × Obj} (x : p ∈ Wd.all cf (dropXs xs w)) : p ∈ w.all cf := by
 rcases all_cases x with x | x | x | x
 ·exact mem_fz x
 ·exact mem_xt (List.mem_filter.mp x).1
 ·exact mem_mu x
 ·rw [x]; exact mem_tab
theorem St.dropXs (S : St cf b h w) (hx : ∀ a ∈ xs, a ∈ w.xt.map (·.1)) (k : ∀ a o, a ∉ xs → h.get? a = some o → h'.get? a = some o) : St cf b h' (dropXs xs w) := by
 have off : ∀ p, p ∈ Wd.all cf (Mine.dropXs xs w) → p.1 ∉ xs := fun p hp q => by
  rcases all_cases hp with hp | hp | hp | hp
  ·exact xt_off S (hx _ q) (.inl hp) rfl
  ·have := (List.mem_filter.mp hp).2
   simp [q] at this
  ·exact xt_off S (hx _ q) (.inr (.inl hp)) rfl
  ·exact xt_off S (hx _ q) (.inr (.inr hp)) rfl
 refine ⟨fun a o e => k _ _ (fun q => ?_) (S.stays a o e), fun p hp => k _ _ (off p hp) (S.kn p (dropXs_all hp)), fun p hp => S.new p (dropXs_all hp), S.nf, ?_, S.rho, S.rnd, S.tab⟩
 ·obtain ⟨r, hr, e'⟩ := mmp (hx a q)
  have := S.new r (mem_xt hr)
  rw [e', e] at this
  injection this
 ·refine List.Nodup.sublist ?_ S.nd
  exact List.Sublist.map _ (List.Sublist.append (List.Sublist.refl _) (List.Sublist.append List.filter_sublist (List.Sublist.refl _)))
theorem ext_dropXs (e : Ext own w0 w) (hx : ∀ a ∈ xs, a ∉ w0.xt.map (·.1)) : Ext own w0 (dropXs xs w) :=
 ⟨e.fz, fun p hp => List.mem_filter.mpr ⟨e.xt p hp, by
  have : p.1 ∉ xs := fun q => hx _ q (mmo hp)
  simpa using this⟩, e.mu, e.ky, e.rho, e.ro⟩
theorem xt_keys_ext (e : Ext own w w') {a : Addr} (ha : a ∈ w.xt.map (·.1)) : a ∈ w'.xt.map (·.1) := by
 obtain ⟨p, hp, rfl⟩ := mmp ha
 exact mmo (e.xt p hp)
theorem xt_same (S : St cf b h w) (S' : St cf b h' w') (e : Ext own w w') {a : Addr} (ha : a ∈ w.xt.map (·.1)) {o : Obj} (ho : h.get? a = some o) : h'.get? a = some o := by
 obtain ⟨p, hp, rfl⟩ := mmp ha
 rw [S.kn p (mem_xt hp)] at ho
 obtain rfl := sI ho
 exact S'.kn p (mem_xt (e.xt p hp))
end
noncomputable def AllL {α : Type} (p : α → Prop) : List α → Prop
 | [] => True
 | a :: l => p a ∧ AllL p l
theorem AllL.mem {α : Type} {p : α → Prop} {l : List α} (h : AllL p l) : ∀ a ∈ l, p a := by
 induction l with
 | nil => exact fun z_ h => nomatch h
 | cons x l ih => exact fun a ha => (List.mem_cons.mp ha).elim (fun e => e ▸ h.1) (ih h.2 a)
theorem AllL.of {α : Type} {p : α → Prop} {l : List α} (h : ∀ a ∈ l, p a) : AllL p l := by
 induction l with
 | nil => trivial
 | cons x l ih => exact ⟨h x (.head _), ih fun a ha => h a (.tail _ ha)⟩
inductive Item (cf : Cfg) (P : Params) (b : Heap) (fz : Led) (rho : List Addr) (h : Heap) : Bool → V → Value → Prop
 | den {tt : Bool} {u : V} {v : Value} : Den cf P b fz rho u v → Item cf P b fz rho h tt u v
 | two {u1 u2 : V} {v1 v2 : Value} {T : Addr} : h.IsTuple T #[v1, v2] → Den cf P b fz rho u1 v1 → Den cf P b fz rho u2 v2 → Item cf P b fz rho h true (.tup [u1, u2]) (.ref T)
theorem Item.mono {cf : Cfg} {P : Params} {b h : Heap} {fz fz' : Led} {rho rho' : List Addr} {tt : Bool} {u : V} {v : Value} (x : Item cf P b fz rho h tt u v) (s : ∀ p ∈ fz, p ∈ fz') (r : Pre rho rho') : Item cf P b fz' rho' h tt u v := by
 cases x with
 | den d => exact .den (Den.mono s r d)
 | two t a c => exact .two t (Den.mono s r a) (Den.mono s r c)
structure Iter (prog : Program) (wd : World) (A : Around) (cf : Cfg) (b : Heap) (fz : Led) (rho : List Addr) (tt : Bool) (tar : PE) (I : Addr) (xs fp : List Addr) (items : List V) (Sti : Nat → Heap → Prop) : Prop where
 frame : ∀ i h h', Sti i h → (∀ a ∈ fp, ∀ o, h.get? a = some o → h'.get? a = some o) → Sti i h'
 live : ∀ i h, Sti i h → AllL (fun a => ∃ o, h.get? a = some o) xs
 base : AllL (fun a => a ∈ xs ∨ ∃ o, At b fz a o) fp
 turn : ∀ (i : Nat) (s : Shared) (X : VP) (E : VP), i < items.length → Sti i s.heap →
  (∀ u v h' tk, items[i]? = some u → Item cf wd.params b fz rho h' tt u v → Sti (i + 1) h' → (∀ a o, a ∉ xs → s.heap.get? a = some o → h'.get? a = some o) → X v { s with heap := h', toks := tk }) →
  wpAny (model prog wd) A (pyNext (.ref I)) (fun r s1 => ∃ v, r = some v ∧ wpAny (model prog wd) A (letOwnedTupleGo tar (.ref I) v) (fun z_ s2 => X v s2) E s1) E s
 done : ∀ (s : Shared) (Q : Option Value → Shared → Prop) (E : VP), Sti items.length s.heap →
  (∀ h' tk, (∀ a o, a ∉ xs → s.heap.get? a = some o → h'.get? a = some o) → Q none { s with heap := h', toks := tk }) → wpAny (model prog wd) A (pyNext (.ref I)) Q E s
 self : ∀ i (s : Shared) (Q : VP) (E : VP), Sti i s.heap → Q (.ref I) s → wpAny (model prog wd) A (pyIter (.ref I)) Q E s
section
variable {fz : Led} {rho : List Addr} {tar : PE}
theorem Iter.mono {fz' : Led} {rho' : List Addr} {I : Addr} {xs fp : List Addr} {items : List V} {Sti : Nat → Heap → Prop} (It : Iter prog wd A cf b fz rho tt tar I xs fp items Sti) (s : ∀ p ∈ fz, p ∈ fz') (r : Pre rho rho') : Iter prog wd A cf b fz' rho' tt tar I xs fp items Sti :=
 ⟨It.frame, It.live, .of fun a ha => (It.base.mem a ha).imp id fun ⟨o, ho⟩ => ⟨o, ho.mono s⟩, fun i s' X E hi st q => It.turn i s' X E hi st fun u v h' tk hu hv => q u v h' tk hu (hv.mono s r), It.done, It.self⟩
theorem letGo_sq {k : Bool} {E : VP} {I t : Addr} {i : Nat} {v : Value} {Q' : Unit → Shared → Prop} {s' : Shared} (hit : ItAt k s'.heap I t i) (h : Q' () s') : wpAny (model prog wd) A (letOwnedTupleGo tar (.ref I) v) Q' E s' := by
 cases k with
 | true => exact letGo_listiter hit h
 | false => exact letGo_tupleiter hit h
theorem DenL.get2 {P : Params} {us : List V} {vs : List Value} {i : Nat} {u : V} {v : Value} (d : DenL cf P b fz rho us vs) (h1 : us[i]? = some u) (h2 : vs.toArray[i]? = some v) : Den cf P b fz rho u v := by
 obtain ⟨v', hv', dv⟩ := d.get h1
 rw [List.getElem?_toArray, hv'] at h2
 exact Option.some.inj h2 ▸ dv
theorem DenL.get0 {P : Params} {us : List V} {vs : List Value} {i : Nat} (d : DenL cf P b fz rho us vs) (h : us[i]? = none) : vs[i]? = none := by
 rw [List.getElem?_eq_none_iff] at h ⊢
 rw [d.length]; exact h
theorem iter_sq {k : Bool} (hh : A.handled = none) {I a : Addr} {us : List V} {vs : List Value} (hne : a ≠ I) (d : DenL cf wd.params b fz rho us vs) (ha : ∃ o, At b fz a o) :
  Iter prog wd A cf b fz rho tt tar I [I] [I, a] us (fun i h => ItAt k h I a i ∧ SqAt k h a vs.toArray) := by
 have W := walks_sq (prog := prog) (w := wd) (k := k) hh I a hne vs.toArray
 have hl : vs.toArray.size = us.length := by rw [List.size_toArray, d.length]
 refine ⟨W.frame, fun i h st => ⟨st.1.live, trivial⟩, ⟨.inl (.head _), .inr ha, trivial⟩, fun i s X E hi st q => ?_, fun s Q E st q => ?_, W.self⟩
 ·refine W.item i s _ _ (by rw [hl]; exact hi) st fun v h' tk hp st' hk => ⟨v, rfl, letGo_sq st'.1 ?_⟩
  exact q _ v h' tk (List.getElem?_eq_getElem hi) (.den (d.get2 (List.getElem?_eq_getElem hi) hp)) st' hk
 ·exact W.done s Q E (by rw [hl]; exact st) q
theorem rangeV_get {n k i : Nat} (h : i < n) : (rangeV k n)[i]? = some (.int ((k + i : Nat) : Int)) := by
 induction n generalizing k i with
 | zero => exact absurd h (Nat.not_lt_zero _)
 | succ n ih => cases i with
  | zero => rfl
  | succ i =>
   have := ih (k := k + 1) (Nat.lt_of_succ_lt_succ h)
   rw [Nat.add_right_comm] at this
   exact this
theorem rangeV_len {n k : Nat} : (rangeV k n).length = n := by
 induction n generalizing k with
 | zero => rfl
 | succ n ih => exact congrArg (· + 1) ih
theorem iter_rng (hh : A.handled = none) {I : Addr} {n : Nat} (ht : isTup tar = false) (hL : ∀ es p, tar ≠ .List es p) :
  Iter prog wd A cf b fz rho tt tar I [I] [I] (rangeV 0 n) (fun i h => IsRangeIter h I (0 + (i : Nat) * 1) ((n : Int) - (i : Nat)) 1) := by
 have W := Walks.range (prog := prog) (w := wd) hh I 0 1 n
 refine ⟨W.frame, fun i h st => ⟨⟨_, st⟩, trivial⟩, ⟨.inl (.head _), trivial⟩, fun i s X E hi st q => ?_, fun s Q E st q => ?_, W.self⟩
 ·rw [rangeV_len] at hi
  refine W.item i s _ _ hi st fun v h' tk hp st' hk => ⟨v, rfl, ?_⟩
  have lg : letOwnedTupleGo tar (.ref I) v = pure () := by cases tar <;> first | rfl | exact absurd rfl (hL _ _) | injection ht
  rw [lg]
  obtain ⟨t, rfl⟩ := hp
  refine wpAny_pure (q (.int i) _ h' tk ?_ ?_ st' hk)
  ·rw [rangeV_get hi, Nat.zero_add]
  ·rw [Int.mul_one, Int.zero_add]; exact .den (.int _ _)
 ·exact W.done s Q E (by rw [rangeV_len] at st; exact st) q
theorem numerate_len {us : List V} {k : Nat} : (numerate k us).length = us.length := by
 induction us generalizing k with
 | nil => rfl
 | cons _ _ ih => exact congrArg (· + 1) ih
theorem numerate_get {us : List V} {k i : Nat} {u : V} (h : us[i]? = some u) : (numerate k us)[i]? = some (.tup [.int ((k + i : Nat) : Int), u]) := by
 induction us generalizing k i with
 | nil => exact noS h
 | cons x us ih => cases i with
  | zero => obtain rfl := sI h; rfl
  | succ i =>
   have := ih (k := k + 1) h
   rw [Nat.add_right_comm] at this
   exact this
theorem iter_enm {k : Bool} (hh : A.handled = none) {e it a : Addr} {us : List V} {vs : List Value} {elts : List PE} {x1 : Nat} {tp : Pos} (hei : e ≠ it) (hae : a ≠ e) (hai : a ≠ it) (d : DenL cf wd.params b fz rho us vs) (ha : ∃ o, At b fz a o) :
  Iter prog wd A cf b fz rho true (.Tuple elts x1 tp) e [e, it] [e, it, a] (numerate 0 us) (fun i h => (∃ old, IsEnum h e it i old) ∧ (ItAt k h it a i ∧ SqAt k h a vs.toArray)) := by
 have hl : vs.toArray.size = us.length := by rw [List.size_toArray, d.length]
 have W := WalksT.enumerateD (draws_sq (prog := prog) (w := wd) (A := A.in1) (k := k) hh it a hai vs.toArray) e hei (by intro q; rcases List.mem_cons.mp q with q | q; exact hei q; exact hae (List.mem_singleton.mp q).symm) (.head _)
 refine ⟨W.frame, fun i h st => ⟨let ⟨_, he⟩ := st.1; ⟨_, he⟩, st.2.1.live, trivial⟩, ⟨.inl (.head _), .inl (.tail _ (.head _)), .inr ha, trivial⟩, fun i s X E hi st q => ?_, fun s Q E st q => ?_, W.self⟩
 ·rw [numerate_len] at hi
  refine W.item i s _ _ (by rw [hl]; exact hi) st fun T vals h' tk hp hT hTT mid hk => ⟨.ref T, rfl, ?_⟩
  refine W.go elts x1 tp i T _ _ _ mid fun h'' st'' hk'' => ?_
  obtain ⟨t, x, hx, rfl⟩ := hp
  have dv := d.get2 (List.getElem?_eq_getElem hi) hx
  have hget : (numerate 0 us)[i]? = some (.tup [.int ((0 + i : Nat) : Int), us[i]]) := numerate_get (List.getElem?_eq_getElem hi)
  rw [Nat.zero_add] at hget
  refine q _ _ h'' tk hget ?_ st'' fun c o hc e => hk'' c o hc (hk c o hc e)
  exact .two (hTT.at fun o e => hk'' _ _ (W.apart i T _ mid) e) (.int _ _) dv
 ·exact W.done s Q E (by rw [numerate_len] at st; rw [hl]; exact st) q
theorem zipV_end {us ts : List V} {i : Nat} (h : (zipV us ts).length ≤ i) : us[i]? = none ∨ ts[i]? = none := by
 induction us generalizing ts i with
 | nil => exact .inl rfl
 | cons u us ih => cases ts with
  | nil => exact .inr rfl
  | cons t ts => cases i with
   | zero => exact absurd h (Nat.not_succ_le_zero _)
   | succ i => exact ih (Nat.le_of_succ_le_succ h)
inductive ZG (us ts : List V) (i : Nat) : Prop
 | mk (u t : V) (h1 : us[i]? = some u) (h2 : ts[i]? = some t) (h3 : (zipV us ts)[i]? = some (.tup [u, t]))
theorem zipV_get {us ts : List V} {i : Nat} (h : i < (zipV us ts).length) : ZG us ts i := by
 induction us generalizing ts i with
 | nil => exact absurd h (Nat.not_lt_zero _)
 | cons u us ih => cases ts with
  | nil => exact absurd h (Nat.not_lt_zero _)
  | cons t ts => cases i with
   | zero => exact ⟨u, t, rfl, rfl, rfl⟩
   | succ i =>
    obtain ⟨u', t', h1, h2, h3⟩ := ih (Nat.lt_of_succ_lt_succ h)
    exact ⟨u', t', h1, h2, h3⟩
theorem off5 {c z TI TO i1 i2 : Addr} (h : c ∉ [z, TI, TO, i1, i2]) : c ≠ z ∧ c ≠ TO ∧ c ≠ i1 ∧ c ≠ i2 :=
 ⟨fun e => h (e ▸ .head _), fun e => h (e ▸ .tail _ (.tail _ (.head _))), fun e => h (e ▸ .tail _ (.tail _ (.tail _ (.head _)))), fun e => h (e ▸ .tail _ (.tail _ (.tail _ (.tail _ (.head _)))))⟩
inductive ZSt (k1 k2 : Bool) (z TI TO i1 i2 l1 l2 : Addr) (xs ys : Array Value) (i : Nat) (h : Heap) : Prop
 | mk (a b : Value) (hz : IsZip h z TI TO .none) (hTI : IsPair h TI (.ref i1) (.ref i2)) (hTO : IsPair h TO a b) (h1 : ItAt k1 h i1 l1 i) (h2 : ItAt k2 h i2 l2 i) (hl1 : SqAt k1 h l1 xs) (hl2 : SqAt k2 h l2 ys)
theorem iter_zip {k1 k2 : Bool} (hh : A.handled = none) {z TI TO i1 i2 l1 l2 : Addr} {us ts : List V} {xs ys : List Value} {elts : List PE} {x1 : Nat} {tp : Pos} (D : ZipApart z TI TO i1 i2 l1 l2)
  (d1 : DenL cf wd.params b fz rho us xs) (d2 : DenL cf wd.params b fz rho ts ys) (ha : ∃ o, At b fz l1 o) (hc : ∃ o, At b fz l2 o) :
  Iter prog wd A cf b fz rho true (.Tuple elts x1 tp) z [z, TI, TO, i1, i2] [z, TI, TO, i1, i2, l1, l2] (zipV us ts) (ZSt k1 k2 z TI TO i1 i2 l1 l2 xs.toArray ys.toArray) where
 frame := fun i h h' st hk => by
  obtain ⟨a, b, hz, hTI, hTO, h1, h2, hl1, hl2⟩ := st
  have m3 : i1 ∈ [z, TI, TO, i1, i2, l1, l2] := .tail _ (.tail _ (.tail _ (.head _)))
  have m5 : l1 ∈ [z, TI, TO, i1, i2, l1, l2] := .tail _ (.tail _ (.tail _ (.tail _ (.tail _ (.head _)))))
  exact ⟨a, b, hk z (.head _) _ hz, hk TI (.tail _ (.head _)) _ hTI, hk TO (.tail _ (.tail _ (.head _))) _ hTO, h1.at (hk i1 m3), h2.at (hk i2 (.tail _ (.tail _ (.tail _ (.tail _ (.head _)))))), hl1.at (hk l1 m5), hl2.at (hk l2 (.tail _ (.tail _ (.tail _ (.tail _ (.tail _ (.tail _ (.head _))))))))⟩
 live := fun i h st => by
  obtain ⟨a, b, hz, hTI, hTO, h1, h2, _, _⟩ := st
  exact ⟨⟨_, hz⟩, ⟨_, hTI⟩, ⟨_, hTO⟩, h1.live, h2.live, trivial⟩
 base := ⟨.inl (.head _), .inl (.tail _ (.head _)), .inl (.tail _ (.tail _ (.head _))), .inl (.tail _ (.tail _ (.tail _ (.head _)))), .inl (.tail _ (.tail _ (.tail _ (.tail _ (.head _))))), .inr ha, .inr hc, trivial⟩
 turn := fun i s X E hi st q => by
  obtain ⟨a, b, hz, hTI, hTO, h1, h2, hl1, hl2⟩ := st
  obtain ⟨u, t, e1, e2, e3⟩ := zipV_get hi
  obtain ⟨x, hx, dx⟩ := d1.get e1
  obtain ⟨y, hy, dy⟩ := d2.get e2
  have hT : s.TypeIs (.ref z) "zip" := ⟨_, hz, rfl⟩
  unfold pyNext
  refine wpAny_bind (wpAny_attempt (wpAny_callSpecial?_slot (name := Str.ofString "__next__") hT F.slot_zip_next (wpAny_call_entry F.slot_zip_next hT F.entry_zip_next
   (zipItem D hz hTI hTO h1 h2 hl1 hl2 ((List.getElem?_toArray ..).trans hx) ((List.getElem?_toArray ..).trans hy) fun h' a1 a2 a3 a4 a5 a6 hk => wpAny_pure ⟨_, rfl, ?_⟩) (F.args_zip_next_1 _))))
  refine wpAny_letOwnedTupleGo_zip a1 fun h'' hz' hs' => ?_
  have hk2 : ∀ c o, c ≠ z → c ≠ TO → c ≠ i1 → c ≠ i2 → s.heap.get? c = some o → h''.get? c = some o := fun c o c1 c2 c3 c4 e => hs'.extBut _ _ c1 (hk _ _ c1 c2 c3 c4 e)
  exact q _ _ h'' s.toks e3 (.two ⟨_, hs'.extBut _ _ (Nat.ne_of_gt (Heap.lt_size hz)) a5, rfl, _, rfl⟩ dx dy) ⟨_, _, hz', hk2 _ _ D.TIz D.TITO D.TIi1 D.TIi2 hTI, hs'.extBut _ _ D.TOz a2, a3.ext hs'.extBut D.i1z, a4.ext hs'.extBut D.i2z, hl1.at fun o e => hk2 _ o D.l1z D.l1TO D.l1i1 D.l1i2 e, hl2.at fun o e => hk2 _ o D.l2z D.l2TO D.l2i1 D.l2i2 e⟩
   fun c o hc e => hk2 c o (off5 hc).1 (off5 hc).2.1 (off5 hc).2.2.1 (off5 hc).2.2.2 e
 done := fun s Q E st q => by
  obtain ⟨a, b, hz, hTI, hTO, h1, h2, hl1, hl2⟩ := st
  have hend : xs.toArray[(zipV us ts).length]? = none ∨ ys.toArray[(zipV us ts).length]? = none := (zipV_end (Nat.le_refl _)).imp (fun e => (List.getElem?_toArray ..).trans (d1.get0 e)) fun e => (List.getElem?_toArray ..).trans (d2.get0 e)
  have hT : s.TypeIs (.ref z) "zip" := ⟨_, hz, rfl⟩
  unfold pyNext
  refine wpAny_bind (wpAny_attempt (wpAny_callSpecial?_slot (name := Str.ofString "__next__") hT F.slot_zip_next (wpAny_call_entry F.slot_zip_next hT F.entry_zip_next
   (zipEnd hh D hz hTI hTO h1 h2 hl1 hl2 hend fun h' e hk he => ?_) (F.args_zip_next_1 _))))
  obtain ⟨o, ho, hc⟩ := he
  exact wpAny_bind (wpAny_isInstance (T := "StopIteration") (b := true) ⟨o, ho, hc⟩ isSubtype_stop (wpAny_pure (q _ s.toks fun c o hc e => hk c o (off5 hc).1 (off5 hc).2.1 (off5 hc).2.2.1 (off5 hc).2.2.2 e)))
 self := fun i s Q E st q => by
  obtain ⟨a, b, hz, _⟩ := st
  exact wpAny_pyIter_zip hz q
end
structure Names (K : Frag) : Prop where
 nm : ∀ x ∈ ["range", "enumerate", "zip", "tuple", "Exception"], nsIn K mainGlobals (Str.ofString x) = some none ∧ bootBuiltins (Str.ofString x) = some (.type x) ∧ Str.ofString x ≠ "__name__" ∧ (Str.ofString x == ("__debug__" : Str)) = false
noncomputable def Shp (tt : Bool) (tar : PE) : Prop := match tt with
 | true => ∃ es k p, tar = .Tuple es k p
 | false => ∃ x p, tar = .Name x p
inductive LSqI (cf : Cfg) (P : Params) (b : Heap) (w : Wd) (us : List V) (val : Value) : Prop
 | mk (k : Bool) (a : Addr) (vs : List Value) (o : Obj) (e : val = .ref a) (h : At b w.fz a o) (l : DenLW cf P b w us vs) (q : ∀ h : Heap, h.get? a = some o → SqAt k h a vs.toArray)
theorem seqI_at {v : V} {val : Value} {us : List V} (d : DenW cf P b w v val) (e : seqI v = some us) : LSqI cf P b w us val := by
 cases v <;> try (exact noS e)
 ·obtain rfl := sI e
  obtain ⟨a, vs, n, h1, h2, h3⟩ := d.inv
  exact ⟨false, a, vs, _, h1, h2, h3, fun g hg => ⟨_, hg, rfl, _, rfl⟩⟩
 ·obtain rfl := sI e
  obtain ⟨a, vs, n, h1, h2, h3⟩ := d.inv
  exact ⟨true, a, vs, _, h1, h2, h3, fun g hg => ⟨_, hg, rfl, _, rfl⟩⟩
noncomputable def SrcK (prog : Program) (wd : World) (A : Around) (cf : Cfg) (b : Heap) (tt : Bool) (tar : PE) (fL : Addr) (s : Shared) (w : Wd) (res : Res) (X E : VP) : Prop := match res with
 | .oks items σ' => ∀ w' h' tk' I xs fp Sti, St cf b h' w' → Ext [] w w' → Live cf wd.params b w' σ' → Iter prog wd A cf b w'.fz w'.rho tt tar I xs fp items Sti → Sti 0 h' → (∀ a ∈ xs, a ∈ w'.xt.map (·.1)) → (∀ a ∈ xs, a ∉ (w.all cf).map (·.1)) → X (.ref I) { s with heap := h', toks := tk' }
 | .exc c σ' => EPst cf wd.params b s w [] σ' c fL E
 | _ => False
noncomputable def SndR (cf : Cfg) (prog : Program) (wd : World) (b : Heap) (n : Nat) (r : Task → Res) : Prop := ∀ {A : Around} {stk : List SE} {fL : Addr} {en : Mine.Env} {env : SE} {s : Shared} {w : Wd} {σ : Store} {iter tar : PE} {src : Src} {tt : Bool},
 Ok cf wd.params b A n stk fL en env s w σ → ErSrc cf env.scope iter src → srcOk src tt = true → Shp tt tar → ∀ X E, SrcK prog wd A cf b tt tar fL s w (r (.src en src σ)) X E → wpAny (model prog wd) A (eval iter env) (fun x s1 => wpAny (model prog wd) A (pyIter x) X E s1) E s
theorem name_typeR {A' : Around} {T : String} {pos : Pos} {Q E : VP} (B : Bs cf K p loose mean mg mb wd.params b G) (N : Names K) (hT : T ∈ ["range", "enumerate", "zip", "tuple", "Exception"]) (S : b.StaysIn s.heap) (hk : env.scope.kind = .function) (hg : env.globals = mainGlobals) (hb : env.builtins = builtinsNs) (hx : env.kindOf (Str.ofString T) = some .globalImplicit)
  (h : Q (.type T) s) : wpAny (model prog wd) A' (eval (.Name (Str.ofString T) pos) env) Q E s := by
 obtain ⟨h0, h1, h2, h3⟩ := N.nm T hT
 have TT := B.T.keeps S
 have X := B.X.keeps S
 refine Name_function_global hk hx ?_ h3
 exact loadGlobal_builtin (env := env) (show s.heap.Ns env.globals mg from hg ▸ TT.g) (mg_none_of X TT.g h0) (show s.heap.Ns env.builtins mb from hb ▸ TT.b) ((TT.builtins _ h2).trans h1) h
theorem name_type {T : String} {pos : Pos} {Q E : VP} (B : Bs cf K p loose mean mg mb wd.params b G) (N : Names K) (hT : T ∈ ["range", "enumerate", "zip", "tuple", "Exception"]) (O : Ok cf wd.params b A n stk fL en env s w σ) (hx : env.kindOf (Str.ofString T) = some .globalImplicit)
  (h : Q (.type T) s) : wpAny (model prog wd) A (eval (.Name (Str.ofString T) pos) env) Q E s := name_typeR B N hT O.st.stays O.eo.k O.eo.g O.eo.bt hx h
inductive RNeed (prog : Program) (wd : World) (A : Around) (cf : Cfg) (b : Heap) (tt : Bool) (tar : PE) (fL : Addr) (s : Shared) (w : Wd) (X E : VP) {α : Type} (o : Option α) (k : α → Res) : Prop
 | mk (x : α) (e : o = some x) (f : SrcK prog wd A cf b tt tar fL s w (k x) X E)
theorem SrcK.need {tar : PE} {X E : VP} {α : Type} {o : Option α} {k : α → Res} (f : SrcK prog wd A cf b tt tar fL s w (needO o k) X E) : RNeed prog wd A cf b tt tar fL s w X E o k := by
 cases o with
 | none => exact f.elim
 | some x => exact ⟨x, rfl, f⟩
theorem SrcK.mono {tar : PE} {res : Res} {X E : VP} {w1 : Wd} {h1 : Heap} {tk1 : Nat} (f : SrcK prog wd A cf b tt tar fL s w res X E) (e : Ext [] w w1) (hk : ∀ a, a ∈ (w.all cf).map (·.1) → a ∈ (w1.all cf).map (·.1)) : SrcK prog wd A cf b tt tar fL { s with heap := h1, toks := tk1 } w1 res X E := by
 cases res with
 | oks items σ' => exact fun w' h' tk' I xs fp Sti S e' L It st a c => f w' h' tk' I xs fp Sti S (e.trans e') L It st a fun x hx q => c x hx (hk x q)
 | exc c σ' => exact EPst.move f e
 | _ => exact f
theorem keys_ext {own : List Addr} {w1 : Wd} (e : Ext own w w1) : ∀ a, a ∈ (w.all cf).map (·.1) → a ∈ (w1.all cf).map (·.1) := by
 intro a ha
 obtain ⟨q, hq, rfl⟩ := mmp ha
 rcases all_cases hq with hq | hq | hq | hq
 ·exact mmo (mem_fz (e.fz _ hq))
 ·exact mmo (mem_xt (e.xt _ hq))
 ·obtain ⟨q', hq', e'⟩ := mmp (e.ky _ hq)
  exact e' ▸ mmo (mem_mu hq')
 ·rw [hq]; exact List.mem_map.mpr ⟨_, mem_tab, rfl⟩
theorem Tr.bindR {t : Sem Value} {k : V → Store → Res} {tar : PE} {res : Res} {M : VP} {X E : VP} (h : Tr cf wd.params b (model prog wd) A fL t s w res) (f : SrcK prog wd A cf b tt tar fL s w (res.bind k) X E)
  (n : ∀ v σ1 w1 h1 tk1 val, St cf b h1 w1 → Ext [] w w1 → Live cf wd.params b w1 σ1 → DenW cf wd.params b w1 v val → SrcK prog wd A cf b tt tar fL { s with heap := h1, toks := tk1 } w1 (k v σ1) X E → M val { s with heap := h1, toks := tk1 }) : wpAny (model prog wd) A t M E s := by
 cases res with
 | ok v σ1 => exact h M E fun w1 h1 tk1 S e L val d => n v σ1 w1 h1 tk1 val S e L d (SrcK.mono (res := k v σ1) f e (keys_ext e))
 | exc c σ1 => exact h M E f
 | oks _ _ => exact f.elim
 | nxt _ _ => exact f.elim
 | ret _ _ => exact f.elim
 | bad => exact f.elim
theorem SrcK.at {tar : PE} {us : List V} {X E : VP} {h' : Heap} {tk' : Nat} {I : Addr} {fp : List Addr} {l : Led} {Sti : Nat → Heap → Prop} (f : SrcK prog wd A cf b tt tar fL s w (.oks us σ) X E) (S : St cf b s.heap w) (L : Live cf wd.params b w σ)
  (hk : ∀ a o, s.heap.get? a = some o → h'.get? a = some o) (hl : ∀ q ∈ l, h'.get? q.1 = some q.2 ∧ s.heap.get? q.1 = none) (nd : (l.map (·.1)).Nodup)
  (It : Iter prog wd A cf b w.fz w.rho tt tar I (l.map (·.1)) fp us Sti) (st : Sti 0 h') : X (.ref I) { s with heap := h', toks := tk' } := by
 have S1 := (S.keeps hk).tellXs (l := l) (fun q hq => ⟨(hl q hq).1, S.fresh_b (hl q hq).2, S.fresh (hl q hq).2⟩) nd
 exact f { w with xt := l ++ w.xt } h' tk' I (l.map (·.1)) fp Sti S1 ext_tellXs L.xt It st (fun a ha => by rw [List.map_append]; exact List.mem_append_left _ ha) fun a ha q => by
  obtain ⟨q', hq', rfl⟩ := mmp ha
  exact S.fresh (hl q' hq').2 q
theorem nodup5 {a b c d e : Addr} (h1 : a ≠ b) (h2 : a ≠ c) (h3 : a ≠ d) (h4 : a ≠ e) (h5 : b ≠ c) (h6 : b ≠ d) (h7 : b ≠ e) (h8 : c ≠ d) (h9 : c ≠ e) (h10 : d ≠ e) : [a, b, c, d, e].Nodup := by
 simp [h1, h2, h3, h4, h5, h6, h7, h8, h9, h10]
theorem none_ge {h : Heap} {k : Nat} : h.get? (h.objs.size + k) = none := Heap.get?_none_of_le (Nat.le_add_right _ _)
theorem src_one (hh : A.handled = none) {tar : PE} {v : V} {us : List V} {val : Value} {X E : VP} (S : St cf b s.heap w) (L : Live cf wd.params b w σ) (d : DenW cf wd.params b w v val) (e : seqI v = some us) (f : SrcK prog wd A cf b tt tar fL s w (.oks us σ) X E) : wpAny (model prog wd) A (pyIter val) X E s := by
 obtain ⟨k, a, vs, o, rfl, ha, dl, hsq⟩ := seqI_at d e
 have hg := S.at_ ha
 have hsq' := hsq _ hg
 have hnew : (s.heap.push (itObj k a)).get? s.heap.objs.size = some (itObj k a) := Heap.get?_push_size _ (by cases k <;> rfl)
 exact pyIter_sq hsq' (f.at S L (l := [(s.heap.objs.size, itObj k a)]) (fun c q e => gps _ e) (fun q hq => by rw [List.mem_singleton.mp hq]; exact ⟨hnew, size_none _⟩) (List.nodup_cons.mpr ⟨List.not_mem_nil, List.nodup_nil⟩)
  (iter_sq (k := k) hh (Nat.ne_of_lt (Heap.lt_size hg)) dl ⟨o, ha⟩) ⟨itObj_at, hsq'.at fun o e => gps _ e⟩)
theorem src_rng (hh : A.handled = none) {nx : Str} {np : Pos} {m : Nat} {t : Tok} {X E : VP} (S : St cf b s.heap w) (L : Live cf wd.params b w σ) (hm : m ≤ 1000) (f : SrcK prog wd A cf b false (.Name nx np) fL s w (.oks (rangeV 0 m) σ) X E) : wpAny (model prog wd) A (call (.type "range") [.int (m : Int) t]) (fun x s1 => wpAny (model prog wd) A (pyIter x) X E s1) E s := by
 refine call_range_1 ?_
 have hsz : Builtin.Range.rangeSize 0 (m : Int) 1 = (m : Int) := by
  rw [rangeSize_one, Int.sub_zero]
  cases m with
  | zero => rfl
  | succ m => exact if_pos (Int.natCast_pos.mpr (Nat.succ_pos m))
 have lt : (m : Int) < 2 ^ 62 := Int.lt_of_le_of_lt (Int.ofNat_le.mpr hm) (by decide)
 have ge : -(2 ^ 62) ≤ (m : Int) := Int.le_trans (by decide) (Int.natCast_nonneg m)
 refine wpAny_pyIter_range (IsRange.new _ 0 (m : Int) 1 s.toks t (s.toks + 1)) (small_one (by decide) (by decide) ge lt) ?_
 rw [hsz]
 have hnone : s.heap.get? (s.heap.push { cls := .type "range", data := .fields #[.int 0 s.toks, .int (m : Int) t, .int 1 (s.toks + 1)] }).objs.size = none := by rw [Heap.size_push]; exact none_ge
 have hnew := Heap.get?_push_size (s.heap.push { cls := .type "range", data := .fields #[.int 0 s.toks, .int (m : Int) t, .int 1 (s.toks + 1)] }) (o := { cls := .type "range_iterator", data := .fields #[rawInt 0, rawInt (m : Int), rawInt 1] }) rfl
 refine SrcK.at (s := s) f S L (l := [(_, _)]) (fun a o e => gps _ (gps _ e)) (fun q hq => by rw [List.mem_singleton.mp hq]; exact ⟨hnew, hnone⟩) (List.nodup_cons.mpr ⟨List.not_mem_nil, List.nodup_nil⟩) (iter_rng hh rfl (fun z_ z_ q => nomatch q)) ?_
 show IsRangeIter _ _ ((0 : Int) + ((0 : Nat) : Int) * 1) ((m : Int) - ((0 : Nat) : Int)) 1
 rw [Int.mul_one, Int.zero_add, Int.natCast_zero, Int.sub_zero]
 exact hnew
theorem src_enm (hh : A.handled = none) {elts : List PE} {xk : Nat} {xp : Pos} {v : V} {us : List V} {val : Value} {X E : VP} (S : St cf b s.heap w) (L : Live cf wd.params b w σ) (d : DenW cf wd.params b w v val) (e : seqI v = some us)
  (f : SrcK prog wd A cf b true (.Tuple elts xk xp) fL s w (.oks (numerate 0 us) σ) X E) : wpAny (model prog wd) A (call (.type "enumerate") [val]) (fun x s1 => wpAny (model prog wd) A (pyIter x) X E s1) E s := by
 obtain ⟨k, a, vs, o, rfl, ha, dl, hsq⟩ := seqI_at d e
 have hg := S.at_ ha
 have hsq' := hsq _ hg
 refine call_enum_sq hsq' fun h' he hit hsz hk => wpAny_pyIter_enum he ?_
 obtain ⟨oi, hoi⟩ := hit.live
 obtain ⟨oe, hoe⟩ : ∃ o, h'.get? (s.heap.objs.size + 1) = some o := ⟨_, he⟩
 have hlt := Heap.lt_size hg
 refine f.at S L (l := [(s.heap.objs.size + 1, oe), (s.heap.objs.size, oi)]) hk (fun q hq => ?_) (List.nodup_cons.mpr ⟨fun q => Nat.succ_ne_self _ (List.mem_singleton.mp q), List.nodup_cons.mpr ⟨List.not_mem_nil, List.nodup_nil⟩⟩)
  (iter_enm (k := k) hh (Nat.ne_of_gt (Nat.lt_succ_self _)) (Nat.ne_of_lt (Nat.lt_succ_of_lt hlt)) (Nat.ne_of_lt hlt) dl ⟨o, ha⟩) ⟨⟨_, he⟩, hit, hsq'.at fun o e => hk _ _ e⟩
 rcases List.mem_cons.mp hq with rfl | hq
 ·exact ⟨hoe, none_ge⟩
 ·rw [List.mem_singleton.mp hq]; exact ⟨hoi, size_none _⟩
theorem zip_apart {n a1 a2 : Nat} (l1 : a1 < n) (l2 : a2 < n) : ZipApart (n + 4) (n + 2) (n + 3) n (n + 1) a1 a2 := by
 have g : ∀ k, n + k ≠ a1 ∧ n + k ≠ a2 := fun k => ⟨Nat.ne_of_gt (Nat.lt_of_lt_of_le l1 (Nat.le_add_right ..)), Nat.ne_of_gt (Nat.lt_of_lt_of_le l2 (Nat.le_add_right ..))⟩
 have c : ∀ {i j : Nat}, i ≠ j → n + i ≠ n + j := fun h e => h (Nat.add_left_cancel e)
 exact ⟨c (by decide), c (by decide), c (i := 0) (by decide), c (by decide), c (by decide), c (j := 0) (by decide), c (by decide), c (j := 0) (by decide), c (by decide), c (i := 0) (by decide), (g 4).1.symm, (g 3).1.symm, (g 0).1.symm, (g 1).1.symm, (g 4).2.symm, (g 3).2.symm, (g 0).2.symm, (g 1).2.symm⟩
theorem src_zip (hh : A.handled = none) {elts : List PE} {xk : Nat} {xp : Pos} {v v2 : V} {us ts : List V} {val val2 : Value} {X E : VP} (S : St cf b s.heap w) (L : Live cf wd.params b w σ) (d : DenW cf wd.params b w v val) (e : seqI v = some us) (d2 : DenW cf wd.params b w v2 val2) (e2 : seqI v2 = some ts)
  (f : SrcK prog wd A cf b true (.Tuple elts xk xp) fL s w (.oks (zipV us ts) σ) X E) : wpAny (model prog wd) A (call (.type "zip") [val, val2]) (fun x s1 => wpAny (model prog wd) A (pyIter x) X E s1) E s := by
 obtain ⟨k1, a1, vs, o1, rfl, ha1, dl1, hsq1⟩ := seqI_at d e
 obtain ⟨k2, a2, ys, o2, rfl, ha2, dl2, hsq2⟩ := seqI_at d2 e2
 have hg1 := S.at_ ha1
 have hg2 := S.at_ ha2
 have hs1 := hsq1 _ hg1
 have hs2 := hsq2 _ hg2
 refine call_zip_sq hs1 hs2 fun h' hz hTI hTO hi1 hi2 hsz hk => wpAny_pyIter_zip hz ?_
 obtain ⟨oi1, hoi1⟩ := hi1.live
 obtain ⟨oi2, hoi2⟩ := hi2.live
 have ZD := zip_apart (n := s.heap.objs.size) (Heap.lt_size hg1) (Heap.lt_size hg2)
 obtain ⟨oz, hoz⟩ : ∃ o, h'.get? (s.heap.objs.size + 4) = some o := ⟨_, hz⟩
 obtain ⟨oTI, hoTI⟩ : ∃ o, h'.get? (s.heap.objs.size + 2) = some o := ⟨_, hTI⟩
 obtain ⟨oTO, hoTO⟩ : ∃ o, h'.get? (s.heap.objs.size + 3) = some o := ⟨_, hTO⟩
 have lz : AllL (fun q : Addr × Obj => h'.get? q.1 = some q.2 ∧ s.heap.get? q.1 = none) [(s.heap.objs.size + 4, oz), (s.heap.objs.size + 2, oTI), (s.heap.objs.size + 3, oTO), (s.heap.objs.size, oi1), (s.heap.objs.size + 1, oi2)] :=
  ⟨⟨hoz, none_ge⟩, ⟨hoTI, none_ge⟩, ⟨hoTO, none_ge⟩, ⟨hoi1, size_none _⟩, ⟨hoi2, none_ge⟩, trivial⟩
 refine f.at S L hk lz.mem ?_
  (iter_zip (k1 := k1) (k2 := k2) hh ZD dl1 dl2 ⟨o1, ha1⟩ ⟨o2, ha2⟩) ⟨_, _, hz, hTI, hTO, hi1, hi2, hs1.at fun o e => hk _ _ e, hs2.at fun o e => hk _ _ e⟩
 have n1 := ZD.TIz; have n2 := ZD.TOz; have n3 := ZD.i1z; have n4 := ZD.i2z; have n5 := ZD.TITO; have n6 := ZD.TIi1; have n7 := ZD.TIi2; have n8 := ZD.TOi1; have n9 := ZD.TOi2; have n10 := ZD.i12
 exact nodup5 n1.symm n2.symm n3.symm n4.symm n5 n6 n7 n8 n9 n10
theorem src_call1 (H : SndE cf wd.params b (model prog wd) n r) (B : Bs cf K p loose mean mg mb wd.params b G) (N : Names K) {T : String} (hT : T ∈ ["range", "enumerate", "zip", "tuple", "Exception"]) {e tar : PE} {x : Ex} {p1 q1 : Pos} (O : Ok cf wd.params b A n stk fL en env s w σ) (R : Er cf env.scope e x) (hn : env.scope.names.lookup (Str.ofString T) = some .globalImplicit) {k : V → Store → Res} {X E : VP}
  (f : SrcK prog wd A cf b tt tar fL s w ((r (.e en x σ)).bind k) X E) (nx : ∀ v σ1 w1 h1 tk1 val, St cf b h1 w1 → Live cf wd.params b w1 σ1 → DenW cf wd.params b w1 v val → SrcK prog wd A cf b tt tar fL { s with heap := h1, toks := tk1 } w1 (k v σ1) X E → wpAny (model prog wd) A (call (.type T) [val]) (fun x s1 => wpAny (model prog wd) A (pyIter x) X E s1) E { s with heap := h1, toks := tk1 }) :
  wpAny (model prog wd) A (eval (.Call (.Name (Str.ofString T) p1) [e] [] q1) env) (fun x s1 => wpAny (model prog wd) A (pyIter x) X E s1) E s := by
 refine Call_ (name_type B N hT O hn ?_) rfl
 have hst : starEach [e] env = [(false, eval e env)] := R.star [] env
 refine callWith_type1 (rest := []) (by
  rw [hst]
  exact spliced_cons (Tr.bindR (H O R) f fun v σ1 w1 h1 tk1 val S e L d f => spliced_nil (nx v σ1 w1 h1 tk1 val S L d f))) (by rw [hst]; rfl) rfl
theorem src_ (H : SndE cf wd.params b (model prog wd) n r) (B : Bs cf K p loose mean mg mb wd.params b G) (N : Names K) {iter tar : PE} {src : Src} (O : Ok cf wd.params b A (n + 1) stk fL en env s w σ) (R : ErSrc cf env.scope iter src) (ho : srcOk src tt = true) (hs : Shp tt tar) {X E : VP}
  (f : SrcK prog wd A cf b tt tar fL s w (step G r (.src en src σ)) X E) : wpAny (model prog wd) A (eval iter env) (fun x s1 => wpAny (model prog wd) A (pyIter x) X E s1) E s := by
 have hh := O.cx.hh
 obtain ⟨R, RL⟩ := R
 cases R with
 | seq =>
  obtain ⟨_, _, q, R, _⟩ := RL.cons_inv
  injection q with j1 j2; subst j1; subst j2
  refine Tr.bindR (H O.down R) f fun v σ1 w1 h1 tk1 val S e L d f => ?_
  obtain ⟨us, hq, f⟩ := f.need
  exact src_one (s := { s with heap := h1, toks := tk1 }) hh S L d hq f
 | rng hn =>
  obtain ⟨_, _, q, R, _⟩ := RL.cons_inv
  injection q with j1 j2; subst j1; subst j2
  cases tt with
  | true => exact noB ho
  | false =>
  obtain ⟨nx, np, rfl⟩ := hs
  refine src_call1 @H B N (by simp) O.down R hn f fun v σ1 w1 h1 tk1 val S L d f => ?_
  obtain ⟨i, e1, f1⟩ := f.need
  obtain ⟨m, e2, f2⟩ := f1.need
  obtain ⟨hm, f3⟩ := ifBs (F := fun q => SrcK prog wd A cf b false (.Name nx np) fL { s with heap := h1, toks := tk1 } w1 q X E) id f2
  clear f f1 f2
  obtain rfl := intV_eq e1
  obtain rfl := natI_eq e2
  obtain ⟨t, rfl⟩ := den_int d
  exact src_rng (s := { s with heap := h1, toks := tk1 }) hh S L (nle hm) f3
 | enm hn =>
  obtain ⟨_, _, q, R, _⟩ := RL.cons_inv
  injection q with j1 j2; subst j1; subst j2
  cases tt with
  | false => exact noB ho
  | true =>
  obtain ⟨elts, xk, xp, rfl⟩ := hs
  refine src_call1 @H B N (by simp) O.down R hn f fun v σ1 w1 h1 tk1 val S L d f => ?_
  obtain ⟨us, hq, f⟩ := f.need
  exact src_enm (s := { s with heap := h1, toks := tk1 }) hh S L d hq f
 | @zip e g x y p1 q1 hn =>
  obtain ⟨_, _, q, R, l⟩ := RL.cons_inv
  injection q with j1 j2; subst j1; subst j2
  obtain ⟨_, _, q, R2, _⟩ := l.cons_inv
  injection q with j1 j2; subst j1; subst j2
  cases tt with
  | false => exact noB ho
  | true =>
  obtain ⟨elts, xk, xp, rfl⟩ := hs
  refine Call_ (name_type B N (by simp) O hn ?_) rfl
  refine callWith_type1 (rest := [g]) (by
   rw [R.star]
   refine spliced_cons (Tr.bindR (H O.down R) f fun v σ1 w1 h1 tk1 val S e L d f => ?_)
   rw [R2.star]
   refine spliced_cons (Tr.bindR (H (O.down.to S e L) R2) f fun v2 σ2 w2 h2 tk2 val2 S2 e2 L2 d2 f => spliced_nil ?_)
   obtain ⟨us, hq, f⟩ := f.need
   obtain ⟨ts, hq2, f⟩ := f.need
   exact src_zip (s := { s with heap := h2, toks := tk2 }) hh S2 L2 (d.ext e2) hq d2 hq2 f) (R.star _ _) (by rw [R2.star]; rfl)
theorem tar_shape {sc : Scope} {tar : PE} {ts : List Nat} (R : TarEr sc tar ts tt) : Shp tt tar := by
 cases R with
 | one _ => exact ⟨_, _, rfl⟩
 | two _ _ _ => exact ⟨_, _, _, rfl⟩
theorem bindT_two {x y : Nat} {u : V} {locs l : List (Nat × V)} (e : bindT locs [x, y] true u = some l) : ∃ u1 u2, u = .tup [u1, u2] ∧ (y, u2) :: (x, u1) :: locs = l := by
 obtain ⟨us, h, e⟩ := obe e
 obtain rfl := tupV_eq h
 match us, e with
 | [u1, u2], e => exact ⟨u1, u2, rfl, Option.some.inj e⟩
 | [], e => exact noS e
 | [_], e => exact noS e
 | _ :: _ :: _ :: _, e => exact noS e
theorem bind_two {x y : Nat} {p1 p2 : Pos} {u1 u2 : V} {v1 v2 : Value} {Q : Unit → Shared → Prop} {E : VP} (eo : EnvOk cf wd.params b en env w) (S : St cf b s.heap w) (L : Live cf wd.params b w σ) (hx : env.scope.names.lookup (strOf x) = some .local) (hy : env.scope.names.lookup (strOf y) = some .local)
  (d1 : DenW cf wd.params b w u1 v1) (d2 : DenW cf wd.params b w u2 v2) (q : ∀ h' w' tk, St cf b h' w' → Ext [env.locals] w w' → Live cf wd.params b w' σ → EnvOk cf wd.params b { en with locs := (y, u2) :: (x, u1) :: en.locs } env w' → Q () { s with heap := h', toks := tk }) :
  wpAny (model prog wd) A (assignInOrder ((assignEach [.Name (strOf x) p1, .Name (strOf y) p2] env).map (·.2)) [v1, v2]) Q E s :=
 wpAny_assignInOrder_more (assign_Name (store_own eo S L hx d1 fun h2 w2 tk2 S2 e2 L2 eo2 z_ z_ =>
  wpAny_assignInOrder_more (assign_Name (store_own (s := { s with heap := h2, toks := tk2 }) eo2 S2 L2 hy (DenW.ext d2 e2) fun h3 w3 tk3 S3 e3 L3 eo3 z_ z_ => wpAny_pure (q h3 w3 tk3 S3 (e2.trans e3) L3 eo3)))))
theorem bind_tar (hh : A.handled = none) {tar : PE} {ts : List Nat} {u : V} {v : Value} {l : List (Nat × V)} {Q : Unit → Shared → Prop} {E : VP} (eo : EnvOk cf wd.params b en env w) (S : St cf b s.heap w) (L : Live cf wd.params b w σ) (R : TarEr env.scope tar ts tt)
  (it : Item cf wd.params b w.fz w.rho s.heap tt u v) (e : bindT en.locs ts tt u = some l)
  (q : ∀ h' w' tk, St cf b h' w' → Ext [env.locals] w w' → Live cf wd.params b w' σ → EnvOk cf wd.params b { en with locs := l } env w' → Q () { s with heap := h', toks := tk }) : wpAny (model prog wd) A (assign tar env v) Q E s := by
 cases R with
 | one hx =>
  cases it with
  | den d =>
   obtain rfl := sI e
   exact wpAny_assign_Name (store_own eo S L hx d fun h' w' tk a b c d z_ z_ => q h' w' tk a b c d)
 | two hx hy hxy =>
  obtain ⟨u1, u2, rfl, rfl⟩ := bindT_two e
  refine wpAny_bind (m := standAt _) (wpAny_standAt (wpAny_bind (m := holding [v] (unpackItems v 2 none)) ?_))
  cases it with
  | den d =>
   refine wpAny_holding (unpack_at hh S L (vs := [u1, u2]) d rfl rfl fun h3 vals S3 d3 => ?_)
   obtain ⟨_, _, rfl, da, d4⟩ := d3.cons_inv
   obtain ⟨_, _, rfl, db, d5⟩ := d4.cons_inv
   obtain rfl := d5.nil_inv
   exact bind_two (s := { s with heap := h3 }) eo S3 L hx hy da db q
  | two hT d1 d2 => exact wpAny_holding (wpAny_unpackItems_tuple (items := #[_, _]) hh hT fun h3 he => bind_two (s := { s with heap := h3 }) eo (S.extBut he) L hx hy d1 d2 q)
noncomputable def LoopR (prog : Program) (wd : World) (A : Around) (env : SE) (Q : Flow → Shared → Prop) (E : VP) : Result → Shared → Prop := fun res s' => match res with
 | .ok f => Q f s'
 | .error e => cameBackBy (model prog wd) A env E e s'
noncomputable def SndF (cf : Cfg) (prog : Program) (wd : World) (b : Heap) (n : Nat) (r : Task → Res) : Prop := ∀ {A : Around} {stk : List SE} {fL : Addr} {en : Mine.Env} {env : SE} {s : Shared} {w0 w : Wd} {σ : Store} {tar : PE} {ts : List Nat} {tt : Bool} {pre items : List V} {body : List PySem.Stmt} {bx : List Sm} {I : Addr} {xs fp : List Addr} {Sti : Nat → Heap → Prop},
 Ok cf wd.params b A n stk fL en env s w σ → Ext (ownE env) w0 w → TarEr env.scope tar ts tt → ErB cf env.scope body bx → Iter prog wd A cf b w.fz w.rho tt tar I xs fp (pre ++ items) Sti → Sti pre.length s.heap → (∀ a ∈ xs, a ∈ w.xt.map (·.1)) → (∀ a ∈ xs, a ∉ w0.xt.map (·.1)) →
 ∀ Q E, FinB cf wd.params b (ownE env) fL env s w0 (r (.for_ en ts tt items bx σ)) Q E → codeAny (model prog wd) A (.forLoop tar (.ref I) body [] env) (LoopR prog wd A env Q E) s
theorem frame_iter {tar : PE} {I : Addr} {xs fp : List Addr} {items : List V} {Sti : Nat → Heap → Prop} {i : Nat} {h h' : Heap} {w w' : Wd} {own : List Addr} (It : Iter prog wd A cf b w.fz w.rho tt tar I xs fp items Sti) (hx : ∀ a ∈ xs, a ∈ w.xt.map (·.1)) (S : St cf b h w) (S' : St cf b h' w') (e : Ext own w w') (st : Sti i h) : Sti i h' :=
 It.frame i h h' st fun a ha o ho => by
  rcases It.base.mem a ha with hq | ⟨o', hq⟩
  ·exact xt_same S S' e (hx a hq) ho
  ·rw [S.at_ hq] at ho
   obtain rfl := sI ho
   exact S'.at_ (hq.mono e.fz)
theorem for_ (HB : SndB cf wd.params b (model prog wd) n r) (HF : SndF cf prog wd b n r) : SndF cf prog wd b (n + 1) (step G r) := by
 intro A stk fL en env s w0 w σ tar ts tt pre items body bx I xs fp Sti O e0 RT RB It st hx hnew Q E f
 refine codeAny_of_tree ?_
 show wpAny _ A ((forTurn tar (.ref I) body [] env).onRaise (fun x => do noteFrame x env; theTreesLotGoes x)) _ _ s
 refine wpAny_noted ?_
 simp only [forTurn]
 refine wpAny_bind (wpAny_standAt (wpAny_bind (wpAny_onRaise ?_)))
 cases items with
 | nil =>
  have f1 : FinB cf wd.params b (ownE env) fL env s w0 (.nxt en σ) Q E := f
  refine It.done s _ _ (by rw [List.append_nil]; exact st) fun h' tk hk => ?_
  exact wpAny_pure ⟨rfl, codeAny_block (wpAny_execs_nil (FinB.nxt (s' := { s with heap := h', toks := tk }) f1 (O.st.dropXs hx hk) (ext_dropXs e0 hnew) O.lv.xt O.eo.xt))⟩
 | cons u items =>
  obtain ⟨l, hb, f2⟩ := f.need
  clear f
  refine wpAny_mono (It.turn pre.length s (fun v s2 => wpAny (model prog wd) A (assign tar env v) (fun z_ s3 => wpAny (model prog wd) A (execs body env) (fun fl s4 => match fl with
    | .next => codeAny (model prog wd) A (.forLoop tar (.ref I) body [] env) (LoopR prog wd A env Q E) s4
    | .ret v => Q (.ret v) s4
    | _ => False) (notedBy (model prog wd) A env fun e s' => LoopR prog wd A env Q E (.error e) s') s3) (notedBy (model prog wd) A env fun e s' => LoopR prog wd A env Q E (.error e) s') s2) (notedBy (model prog wd) A env fun e s' => LoopR prog wd A env Q E (.error e) s') (by simp) st fun u' v h' tk hu hitem st' hk => ?_) (fun rr s1 hr => ?_) fun z_ z_ h' => wpAny_standAt h'
  ·have hu' : u' = u := by simpa using hu.symm
   subst hu'
   have S1 := O.st.reX hx (It.live _ _ st').mem hk
   have e1 : Ext (ownE env) w0 (reX h' xs w) := ext_reX e0 hnew
   have L1 : Live cf wd.params b (reX h' xs w) σ := O.lv.reX
   have eo1 : EnvOk cf wd.params b en env (reX h' xs w) := O.eo.xt
   refine bind_tar (s := { s with heap := h', toks := tk }) O.cx.hh eo1 S1 L1 RT hitem hb fun h2 w2 tk2 S2 e2 L2 eo2 => ?_
   have e2' : Ext (ownE env) (reX h' xs w) w2 := e2.weaken fun z_ q => by rw [List.mem_singleton.mp q]; exact .head _
   have O2 : Ok cf wd.params b A n stk fL { en with locs := l } env { s with heap := h2, toks := tk2 } w2 σ := ⟨O.cx.down, (StkOk.xt O.so).ext e2', O.fr, eo2, S2, L2⟩
   refine HB O2 RB _ _ ?_
   revert f2
   generalize r (.b { en with locs := l } bx σ) = res
   intro f2
   have hx1 : ∀ a ∈ xs, a ∈ (reX h' xs w).xt.map (·.1) := fun a ha => by rw [reX_keys]; exact hx a ha
   cases res with
   | nxt en3 σ3 =>
    intro w3 h3 tk3 S3 e3 L3 eo3
    have e13 := e2'.trans e3
    have st3 : Sti (pre.length + 1) h3 := frame_iter (w := reX h' xs w) (It.mono (fun z_ q => q) fun z_ z_ q => q) hx1 S1 S3 e13 st'
    have O3 : Ok cf wd.params b A n stk fL en3 env { s with heap := h3, toks := tk3 } w3 σ3 := ⟨O.cx.down, O2.so.ext e3, O.fr, eo3, S3, L3⟩
    refine HF (pre := pre ++ [u']) (items := items) (w0 := w0) (xs := xs) (fp := fp) (Sti := Sti) O3 (e1.trans e13) RT RB ?_ ?_ (fun a ha => xt_keys_ext e13 (hx1 a ha)) hnew Q E ?_
    ·rw [List.append_assoc]; exact It.mono e13.fz e13.rho
    ·rw [List.length_append]; exact st3
    ·exact FinB.move f2 (.refl _ _)
   | ret v3 σ3 =>
    intro w3 h3 tk3 S3 e3 L3 val3 d3
    have e13 := e2'.trans e3
    have S4 := S3.dropXs (xs := xs) (h' := h3) (fun a ha => xt_keys_ext e13 (hx1 a ha)) fun z_ z_ z_ q => q
    exact FinB.ret (s' := { s with heap := h3, toks := tk3 }) f2 S4 (ext_dropXs (e1.trans e13) hnew) L3.xt d3
   | _ => exact False.elim f2
  ·obtain ⟨v, rfl, hv⟩ := hr
   dsimp only
   refine wpAny_bind (wpAny_mono hv (fun z_ s2 h2 => wpAny_bind (wpAny_mono h2 (fun z_ s3 h3 => wpAny_bind (wpAny_mono h3 (fun fl s4 h4 => ?_) fun z_ z_ x => x)) fun z_ z_ x => x)) fun z_ z_ x => x)
   cases fl with
   | next => exact wpAny_pure ⟨rfl, h4⟩
   | ret v => exact wpAny_pure h4
   | brk => exact h4.elim
   | cont => exact h4.elim
theorem go_fin {q : Res} {xs : List Sm} {ss : List PySem.Stmt} {Q : Flow → Shared → Prop} {E : VP} (H : SndB cf wd.params b (model prog wd) n r) (O : Ok cf wd.params b A n stk fL en env s w σ) (RB : ErB cf env.scope ss xs)
  (f : FinB cf wd.params b (ownE env) fL env s w (goB G r xs q) Q E) : FinB cf wd.params b (ownE env) fL env s w q (fun fl s' => match fl with | .next => wpAny (model prog wd) A (execs ss env) Q E s' | fl => Q fl s') E := by
 cases q with
 | nxt en1 σ1 => exact fun w1 h1 tk1 S e L eo => H (O.set S e L eo) RB Q E (FinB.move (res := r (.b en1 xs σ1)) f e)
 | ret v σ1 => exact f
 | exc c σ1 => exact f
 | _ => exact False.elim f
theorem s_for (HR : SndR cf prog wd b n r) (HF : SndF cf prog wd b n r) (H : SndB cf wd.params b (model prog wd) n r) {tar iter : PE} {a ss : List PySem.Stmt} {ts : List Nat} {src : Src} {x xs : List Sm} {pos : Pos} (O : Ok cf wd.params b A (n + 1) stk fL en env s w σ)
  (RT : TarEr env.scope tar ts tt) (RS : ErSrc cf env.scope iter src) (ho : srcOk src tt = true) (hset : isSet iter = false) (RB : ErB cf env.scope a x) (RR : ErB cf env.scope ss xs) :
  TrB cf wd.params b (model prog wd) A fL env (execs (.For tar iter a [] pos :: ss) env) s w (step G r (.b en (.for_ ts tt src x :: xs) σ)) := fun Q E f => by
 have f1 : FinB cf wd.params b (ownE env) fL env s w ((r (.src en src σ)).binds fun items σ => goB G r xs (r (.for_ en ts tt items x σ))) Q E := f
 clear f
 refine wpAny_execs_cons (wpAny_For (HR O.down RS ho (tar_shape RT) _ _ ?_) (fun v => by cases iter <;> first | rfl | injection hset))
 revert f1
 generalize r (.src en src σ) = res
 intro f1
 cases res with
 | oks items σ1 =>
  intro w' h' tk' I xa fp Sti S e L It st ha hc
  have e' : Ext (ownE env) w w' := e.weaken fun z_ q => absurd q List.not_mem_nil
  have O1 := O.down.to (tk1 := tk') S e L
  have f2 : FinB cf wd.params b (ownE env) fL env { s with heap := h', toks := tk' } w (goB G r xs (r (.for_ en ts tt items x σ1))) Q E := FinB.move (w1 := w) (h1 := h') (tk1 := tk') (res := goB G r xs (r (.for_ en ts tt items x σ1))) f1 (.refl _ _)
  refine HF (pre := []) (w0 := w) O1 e' RT RB It st ha (fun a hq q => hc a hq (by
   obtain ⟨z, hz, rfl⟩ := mmp q
   exact mmo (mem_xt hz))) _ E ?_
  revert f2
  generalize r (.for_ en ts tt items x σ1) = q
  intro f2
  cases q with
  | nxt en1 σ2 => exact fun w1 h1 tk1 S2 e2 L2 eo2 => H (O.down.set (own := ownE env) S2 e2 L2 eo2) RR Q E (FinB.move (h1 := h1) (tk1 := tk1) (res := r (.b en1 xs σ2)) f2 e2)
  | ret v σ2 => exact f2
  | exc c σ2 => exact f2
  | _ => exact False.elim f2
 | exc c σ1 => exact fun w' h' tk' ex S e L X => f1 w' h' tk' ex S (e.weaken fun z_ q => absurd q List.not_mem_nil) L X
 | _ => exact False.elim f1
noncomputable def SndW (cf : Cfg) (prog : Program) (wd : World) (b : Heap) (n : Nat) (r : Task → Res) : Prop := ∀ {A : Around} {stk : List SE} {fL : Addr} {en : Mine.Env} {env : SE} {s : Shared} {w : Wd} {σ : Store} {test : PE} {c : Ex} {body : List PySem.Stmt} {bx : List Sm},
 Ok cf wd.params b A n stk fL en env s w σ → Er cf env.scope test c → ErB cf env.scope body bx →
 ∀ Q E, FinB cf wd.params b (ownE env) fL env s w (r (.whl en c bx σ)) Q E → codeAny (model prog wd) A (.whileLoop test body [] env) (LoopR prog wd A env Q E) s
theorem whl_ (HT : SndT cf wd.params b (model prog wd) n r) (HB : SndB cf wd.params b (model prog wd) n r) (HW : SndW cf prog wd b n r) : SndW cf prog wd b (n + 1) (step G r) := by
 intro A stk fL en env s w σ test c body bx O RT RB Q E f
 refine codeAny_of_tree ?_
 show wpAny _ A ((whileTurn test body [] env).onRaise (fun x => do noteFrame x env; theTreesLotGoes x)) _ _ s
 refine wpAny_noted ?_
 simp only [whileTurn]
 refine wpAny_bind ?_
 have f1 : FinB cf wd.params b (ownE env) fL env s w (match r (.t en c σ) with
  | .ok v σ => needO (boolV v) fun d => ifB d (match r (.b en bx σ) with
    | .nxt en σ => r (.whl en c bx σ)
    | .ret v σ => .ret v σ
    | _ => .bad) (.nxt en σ)
  | _ => .bad) Q E := f
 clear f
 have ht := HT O.down RT
 revert f1 ht
 generalize r (.t en c σ) = res
 intro f1 ht
 cases res with
 | ok v σ1 =>
  obtain ⟨t, e0, f1⟩ := FinB.need f1
  obtain rfl := boolV_eq e0
  refine ht _ _ fun w1 h1 tk1 S e L => ?_
  have e' : Ext (ownE env) w w1 := e.weaken fun z_ q => absurd q List.not_mem_nil
  have O1 := O.down.to (tk1 := tk1) S e L
  cases t with
  | false =>
   have f3 : FinB cf wd.params b (ownE env) fL env s w (.nxt en σ1) Q E := f1
   simp only [Bool.false_eq_true, if_false]
   exact wpAny_bind (wpAny_execs_nil (wpAny_pure (FinB.nxt (s' := { s with heap := h1, toks := tk1 }) f3 S e' L O1.eo)))
  | true =>
   have f3 : FinB cf wd.params b (ownE env) fL env s w (match r (.b en bx σ1) with
    | .nxt en σ => r (.whl en c bx σ)
    | .ret v σ => .ret v σ
    | _ => .bad) Q E := f1
   simp only [if_true]
   refine wpAny_bind (wpAny_mono (Q := fun fl s4 => match fl with
    | .next => codeAny (model prog wd) A (.whileLoop test body [] env) (LoopR prog wd A env Q E) s4
    | .ret v => Q (.ret v) s4
    | _ => False) (HB O1 RB _ _ ?_) (fun fl s4 h4 => ?_) fun z_ z_ x => x)
   ·revert f3
    generalize r (.b en bx σ1) = res
    intro f3
    cases res with
    | nxt en3 σ3 =>
     intro w3 h3 tk3 S3 e3 L3 eo3
     exact HW (O1.set (own := ownE env) S3 e3 L3 eo3) RT RB Q E (FinB.move (h1 := h3) (tk1 := tk3) (res := r (.whl en3 c bx σ3)) f3 (e'.trans e3))
    | ret v3 σ3 =>
     intro w3 h3 tk3 S3 e3 L3 val3 d3
     exact FinB.ret (s' := { s with heap := h3, toks := tk3 }) f3 S3 (e'.trans e3) L3 d3
    | _ => exact False.elim f3
   ·cases fl with
    | next => exact wpAny_pure ⟨rfl, h4⟩
    | ret v => exact wpAny_pure h4
    | brk => exact h4.elim
    | cont => exact h4.elim
 | _ => exact False.elim f1
theorem s_whl (HW : SndW cf prog wd b n r) (H : SndB cf wd.params b (model prog wd) n r) {test : PE} {c : Ex} {a ss : List PySem.Stmt} {x xs : List Sm} {pos : Pos} (O : Ok cf wd.params b A (n + 1) stk fL en env s w σ) (RT : Er cf env.scope test c) (RB : ErB cf env.scope a x) (RR : ErB cf env.scope ss xs) :
  TrB cf wd.params b (model prog wd) A fL env (execs (.While test a [] pos :: ss) env) s w (step G r (.b en (.whl c x :: xs) σ)) := fun Q E f =>
 wpAny_execs_cons (wpAny_While (HW O.down RT RB _ E (go_fin (G := G) (xs := xs) @H O.down RR f)))
inductive ExcTL (b h : Heap) (al : Led) (cc : Option Addr) (fL ex : Addr) : Prop
 | mk (n1 : ex ∉ al.map (·.1)) (n2 : b.get? ex = none) (oe : Obj) (vs : Array Value) (a0 : Value) (C : Addr) (T : Addr) (oT : Obj) (ts : Array Value) (g : h.get? ex = some oe) (hc : cc = some C) (k : oe.cls = .ref C) (d : oe.data = .fields vs) (z : vs[0]? = some a0)
  (e : vs[1]? = some (.ref T)) (ne : T ≠ ex) (n3 : T ∉ al.map (·.1)) (n4 : b.get? T = none) (g2 : h.get? T = some oT) (d2 : oT.data = .fields ts) (q : ts[3]? = some .none ∨ ts[3]? = some (rawInt fL))
noncomputable abbrev ExcTr (cf : Cfg) (b h : Heap) (w : Wd) (c : Nat) (fL ex : Addr) : Prop := ExcTL b h (w.all cf) (cf.ca c) fL ex
section
variable {h h' : Heap} {w' : Wd} {own xs : List Addr} {c : Nat} {ex : Addr}
theorem exc_tr (X : ExcAt cf b h w c fL ex) (q : ∀ oe vs, h.get? ex = some oe → oe.data = .fields vs → vs[1]? ≠ some .none) : ExcTr cf b h w c fL ex := by
 obtain ⟨h1, h2, oe, vs, a0, C, g1, g2, g3, g4, g5, g6⟩ := X
 rcases g6 with g6 | ⟨T, oT, ts, g6, g7, g8, g9, g10, g11, g12⟩
 ·exact absurd g6 (q oe vs g1 g4)
 ·exact ⟨h1, h2, oe, vs, a0, C, T, oT, ts, g1, g2, g3, g4, g5, g6, g7, g8, g9, g10, g11, g12⟩
theorem ExcTL.less_ (X : ExcTr cf b h w c fL ex) (hk : ∀ a, a ∈ (w'.all cf).map (·.1) → a ∈ (w.all cf).map (·.1)) (g : ∀ a o, a ∉ (w.all cf).map (·.1) → h.get? a = some o → h'.get? a = some o) : ExcTr cf b h' w' c fL ex := by
 obtain ⟨h1, h2, oe, vs, a0, C, T, oT, ts, g1, g2, g3, g4, g5, g6, g7, g8, g9, g10, g11, g12⟩ := X
 exact ⟨fun q => h1 (hk _ q), h2, oe, vs, a0, C, T, oT, ts, g _ _ h1 g1, g2, g3, g4, g5, g6, g7, fun q => g8 (hk _ q), g9, g _ _ g8 g10, g11, g12⟩
theorem note_env {env env' : SE} {x : Value} (hf : env.frame = env'.frame) : noteFrame x env = noteFrame x env' := by
 unfold noteFrame PySem.frameOf
 rw [hf]
theorem exc_note2 {Q : Unit → Shared → Prop} {env' : SE} (S : St cf b s.heap w) (L : Live cf P b w σ) (hs : StkOk (env :: stk) w) (hA : A.frames = some (env :: stk)) (hf : env.frame = some fL) (hf' : env'.frame = some fL) (X : ExcAt cf b s.heap w c fL ex)
  (q : ∀ h' w', St cf b h' w' → Ext [] w w' → Live cf P b w' σ → ExcTr cf b h' w' c fL ex → Q () { s with heap := h' }) : wpAny M A (noteFrame (.ref ex) env') Q E s := by
 rw [note_env (hf'.trans hf.symm)]
 obtain ⟨C, oe, vs, a0, hC, h1, h2, h3, h4, h5, h6, h7⟩ := exc_flying S X
 have tr : ∀ {h' : Heap} {w' : Wd} {bb : Heap} {fl : Value}, ExcAt cf b h' w' c fL ex → h'.TracedAtW bb ex (.ref C) a0 fl → ExcTr cf b h' w' c fL ex := fun X ht => by
  obtain ⟨oe, vs, T, oT, ts, g1, ⟨g2, g3⟩, g4, g5, _⟩ := ht
  refine exc_tr X fun oe' vs' e1 e2 e3 => ?_
  rw [g1] at e1
  obtain rfl := sI e1
  rw [g4] at e2
  injection e2 with e2; subst e2
  rw [g5] at e3
  injection e3 with e3; injection e3
 rcases h7 with h7 | ⟨T, t1, t2, t3, h7⟩
 ·unfold noteFrame
  simp only [hf]
  refine wpAny_bind (wpAny_field h1 h3 h7 ?_)
  rw [if_neg (by decide)]
  refine wpAny_entryW (base := ghB s.heap w [ex]) (a0 := a0) hA (frames_of S hs) hf h1 gh_stays (gh_none (List.mem_append_right _ (.head _))) h3 (Array.getElem?_eq_some_iff.mp h7).1 h4 fun h' hN => ?_
  obtain ⟨k1, _, k3, k4⟩ := hN
  have k4 : s.heap.UpToSlots h' := k4
  obtain ⟨S', e', L'⟩ := S.re L (hm1 h5 h6) k1 k4
  exact q h' _ S' e' L' (tr (exc_back S hC h5 h6 (hm1 h5 h6) (h2 ▸ k3) k4 (.inr rfl)) (h2 ▸ k3))
 ·have hn : (ghB s.heap w [ex, T]).get? ex = none := gh_none (List.mem_append_right _ (.head _))
  rcases h7 with h7 | h7
  ·refine wpAny_noteFrame_onW (base := ghB s.heap w [ex, T]) hA (frames_of S hs) hf h7 gh_stays hn fun h' hN => ?_
   obtain ⟨k1, _, k3, k4⟩ := hN
   have k4 : s.heap.UpToSlots h' := k4
   obtain ⟨S', e', L'⟩ := S.re L (hm2 h5 h6 t1 t2) k1 k4
   exact q h' _ S' e' L' (tr (exc_back S hC h5 h6 (hm2 h5 h6 t1 t2) k3 k4 (.inr rfl)) k3)
  ·exact wpAny_noteFrame_againW hf h7 (q s.heap w S (.refl _ _) L (tr X h7))
theorem St.but (S : St cf b h w) {T : Addr} (hT : T ∉ (w.all cf).map (·.1)) (hb : b.get? T = none) (k : ∀ a o, a ≠ T → h.get? a = some o → h'.get? a = some o) : St cf b h' w :=
 ⟨fun a o e => k a o (fun q => by rw [q, hb] at e; exact noS e) (S.stays a o e), fun p hp => k _ _ (fun q => hT (q ▸ mmo hp)) (S.kn p hp), S.new, S.nf, S.nd, S.rho, S.rnd, S.tab⟩
theorem exc_pass {α : Type} {what : String} {Q : α → Shared → Prop} (S : St cf b s.heap w) (X : ExcTr cf b s.heap w c fL ex) (hf : env.frame = some fL)
  (q : ∀ h', St cf b h' w → ExcAt cf b h' w c fL ex → E (.ref ex) { s with heap := h' }) : wpAny M A (PySem.passOn what (.ref ex) env) Q E s := by
 obtain ⟨h1, h2, oe, vs, a0, C, T, oT, ts, g1, g2, g3, g4, g5, g6, g7, g8, g9, g10, g11, g12⟩ := X
 unfold PySem.passOn
 refine wpAny_bind (wpAny_field g1 g4 g6 ?_)
 rw [if_neg (show ¬ ((Value.ref T == Value.none) = true) from Bool.false_ne_true)]
 refine wpAny_bind ?_
 unfold setFlight
 refine wpAny_bind (wpAny_field g1 g4 g6 ?_)
 rw [if_pos (show (Value.ref T != Value.none) = true from by simp)]
 have hlt : 3 < ts.size := by rcases g12 with g | g <;> exact (Array.getElem?_eq_some_iff.mp g).1
 rw [hf]
 refine wpAny_setField g10 g11 hlt (wpAny_throw ?_)
 have hd' : (Obj.mapFields (·.setIfInBounds 3 (rawInt fL)) oT).data = .fields (ts.setIfInBounds 3 (rawInt fL)) := Obj.data_mapFields g11 _
 have hT' : (s.heap.update T (Obj.mapFields (·.setIfInBounds 3 (rawInt fL)))).get? T = some (Obj.mapFields (·.setIfInBounds 3 (rawInt fL)) oT) := Heap.get?_update_self _ g10 (Obj.isFreed_of_fields hd')
 have hne : ∀ a o, a ≠ T → s.heap.get? a = some o → (s.heap.update T (Obj.mapFields (·.setIfInBounds 3 (rawInt fL)))).get? a = some o := fun a o hn e => (Heap.get?_update_ne _ _ _ _ hn).trans e
 refine q _ (S.but g8 g9 hne) ⟨h1, h2, oe, vs, a0, C, hne _ _ g7.symm g1, g2, g3, g4, g5, .inr ⟨T, _, _, g6, g7, g8, g9, hT', hd', .inr ?_⟩⟩
 rw [Array.getElem?_setIfInBounds_self]
 exact if_pos hlt
end
noncomputable def closL (env : SE) : List (Str × NameKind) → List (Str × Addr) → List (Str × Addr)
 | [], acc => acc
 | (n, k) :: r, acc => closL env r (if k == .free then (n, (env.cells.lookup n).getD 0) :: acc else acc)
theorem closL_cons {env : SE} {n : Str} {k : NameKind} {r : List (Str × NameKind)} {acc : List (Str × Addr)} : closL env ((n, k) :: r) acc = closL env r (if k == .free then (n, (env.cells.lookup n).getD 0) :: acc else acc) := rfl
theorem clos_eq {sc2 : Scope} {env : SE} (hfree : ∀ y ∈ sc2.names, y.2 = .free → (env.cells.lookup y.1).isSome = true) : closureFor sc2 env = pure (closL env sc2.names []) := by
 have go : ∀ (l : List (Str × NameKind)) (acc : List (Str × Addr)), (∀ y ∈ l, y.2 = .free → (env.cells.lookup y.1).isSome = true) →
   (forIn l acc fun (x : Str × NameKind) (cs : List (Str × Addr)) => (match x with | (name, kind) => if (kind == NameKind.free) = true then (do let a ← cellOf env name; pure (ForInStep.yield ((name, a) :: cs)) : Sem (ForInStep (List (Str × Addr)))) else pure (ForInStep.yield cs))) = (pure (closL env l acc) : Sem (List (Str × Addr))) := by
  intro l
  induction l with
  | nil => intro acc _; rfl
  | cons y l ih =>
   intro acc hl
   obtain ⟨n, k⟩ := y
   rw [List.forIn_cons]
   by_cases hk : (k == NameKind.free) = true
   ·have hs := hl (n, k) (.head _) (eq_of_beq hk)
    obtain ⟨a, ha⟩ := Option.isSome_iff_exists.mp hs
    have hc : cellOf env n = pure a := by unfold cellOf; rw [show env.cells.lookup n = some a from ha]
    dsimp only
    rw [if_pos hk, hc]
    simp only [pure_bind]
    rw [ih _ fun z hz => hl z (.tail _ hz), closL_cons, if_pos hk, show env.cells.lookup n = some a from ha]
    rfl
   ·dsimp only
    rw [if_neg hk]
    simp only [pure_bind]
    rw [ih _ fun z hz => hl z (.tail _ hz), closL_cons, if_neg hk]
 have := go sc2.names [] hfree
 unfold closureFor
 simp only [bind_pure_comp, map_pure, pure_bind] at this ⊢
 rw [this]
 rfl
noncomputable def FinK (cf : Cfg) (P : Params) (b : Heap) (D fL : Addr) (s : Shared) (w0 : Wd) (cenv : SE) (res : Res) (R : Result → Shared → Prop) : Prop := match res with
 | .ok v σ' => ∀ w h tk, St cf b h w → Ext [] w0 w → Live cf P b w σ' → EnvOk cf P b ⟨[], []⟩ cenv w → DenW cf P b w v (.ref D) → R (.ok .next) { s with heap := h, toks := tk }
 | .exc c σ' => ∀ w h tk ex, St cf b h w → Ext [] w0 w → Live cf P b w σ' → EnvOk cf P b ⟨[], []⟩ cenv w → ExcTr cf b h w c fL ex → R (.error (.ref ex)) { s with heap := h, toks := tk }
 | _ => False
noncomputable def SndK (cf : Cfg) (prog : Program) (wd : World) (b : Heap) (n : Nat) (r : Task → Res) : Prop := ∀ {A : Around} {stk : List SE} {fL : Addr} {en : Mine.Env} {cenv : SE} {s : Shared} {w0 w : Wd} {σ : Store} {el tar iter : PE} {a : Ex} {ifs : List PE} {cond : Option Ex} {ts : List Nat} {tt : Bool} {pre items acc : List V} {accv : List Value} {sc2 : Scope} {pos : Pos} {I D : Addr} {xs fp : List Addr} {Sti : Nat → Heap → Prop} {q : Nat},
 Ok cf wd.params b A n stk fL { en with locs := [] } cenv s w σ → Ext [] w0 w → cenv.locals ∉ w0.mu.map (·.1) → TarEr cenv.scope tar ts tt → Er cf cenv.scope el a → ErI cf cenv.scope ifs cond → Iter prog wd A cf b w.fz w.rho tt tar I xs fp (pre ++ items) Sti → Sti pre.length s.heap →
 (∀ c ∈ D :: xs, c ∈ w.xt.map (·.1)) → D ∉ xs → (∀ c ∈ D :: xs, c ∉ w0.xt.map (·.1)) → s.heap.get? D = some (listOf (List.toArray accv) q) → DenLW cf wd.params b w acc accv → acc.length + items.length ≤ 10000 →
 ∀ R, FinK cf wd.params b D fL s w0 cenv (r (.comp en a ts tt cond items acc σ)) R → codeAny (model prog wd) A (.compLoop (.ListComp el [⟨tar, iter, ifs, 0⟩] sc2 pos) 0 (.ref I) (.ref D) cenv) R s
inductive KNeed (cf : Cfg) (P : Params) (b : Heap) (D fL : Addr) (s : Shared) (w0 : Wd) (cenv : SE) (R : Result → Shared → Prop) {α : Type} (o : Option α) (k : α → Res) : Prop
 | mk (x : α) (e : o = some x) (f : FinK cf P b D fL s w0 cenv (k x) R)
theorem FinK.need {cf : Cfg} {P : Params} {b : Heap} {D fL : Addr} {s : Shared} {w0 : Wd} {cenv : SE} {R : Result → Shared → Prop} {α : Type} {o : Option α} {k : α → Res} (f : FinK cf P b D fL s w0 cenv (needO o k) R) : KNeed cf P b D fL s w0 cenv R o k := by
 cases o with
 | none => exact f.elim
 | some x => exact ⟨x, rfl, f⟩
noncomputable def cpE (M : Model) (A : Around) (env : SE) (R : Result → Shared → Prop) : VP := notedBy M A env fun e s' => R (.error e) s'
noncomputable def cpB (M : Model) (A : Around) (el tar iter : PE) (ifs : List PE) (sc2 : Scope) (pos : Pos) (I D : Addr) (env : SE) (R : Result → Shared → Prop) (ok : Bool) (s4 : Shared) : Prop := match ok with
 | true => wpAny M A (eval el env) (fun x s5 => wpAny M A (call (.builtin "list.append") [.ref D, x]) (fun z_ s6 => codeAny M A (.compLoop (.ListComp el [⟨tar, iter, ifs, 0⟩] sc2 pos) 0 (.ref I) (.ref D) env) R s6) (cpE M A env R) s5) (cpE M A env R) s4
 | false => codeAny M A (.compLoop (.ListComp el [⟨tar, iter, ifs, 0⟩] sc2 pos) 0 (.ref I) (.ref D) env) R s4
noncomputable def cpT (ifs : List PE) (env : SE) : Sem Bool := forIn ifs true fun c z => if z = true then do let ok ← isTrue c env (eval c env); pure (ForInStep.yield ok) else pure (ForInStep.yield z)
noncomputable def cpA (M : Model) (A : Around) (el tar iter : PE) (ifs : List PE) (sc2 : Scope) (pos : Pos) (I D : Addr) (env : SE) (R : Result → Shared → Prop) (v : Value) (s2 : Shared) : Prop :=
 wpAny M A (assign tar env v) (fun z_ s3 => wpAny M A (cpT ifs env) (cpB M A el tar iter ifs sc2 pos I D env R) (cpE M A env R) s3) (cpE M A env R) s2
noncomputable def cpI (M : Model) (A : Around) (el tar iter : PE) (ifs : List PE) (sc2 : Scope) (pos : Pos) (I D : Addr) (env : SE) (R : Result → Shared → Prop) (o : Option Value) (s1 : Shared) : Prop := match o with
 | none => R (.ok .next) s1
 | some v => wpAny M A (letOwnedTupleGo tar (.ref I) v) (fun z_ s2 => cpA M A el tar iter ifs sc2 pos I D env R v s2) (cpE M A env R) s1
theorem comp_once {el tar iter : PE} {ifs : List PE} {sc2 : Scope} {pos : Pos} {I D : Addr} {R : Result → Shared → Prop}
  (turn : wpAny (model prog wd) A (pyNext (.ref I)) (cpI (model prog wd) A el tar iter ifs sc2 pos I D env R) (cpE (model prog wd) A env R) s) :
  codeAny (model prog wd) A (.compLoop (.ListComp el [⟨tar, iter, ifs, 0⟩] sc2 pos) 0 (.ref I) (.ref D) env) R s := by
 refine codeAny_of_tree ?_
 show wpAny _ A ((compTurn (.ListComp el [⟨tar, iter, ifs, 0⟩] sc2 pos) 0 (.ref I) (.ref D) env).onRaise (fun x => do noteFrame x env; theTreesLotGoes x)) _ _ s
 refine wpAny_noted ?_
 rw [compTurn_list]
 refine wpAny_bind (wpAny_standAt (wpAny_bind (wpAny_mono turn (fun o s1 h1 => ?_) fun z_ z_ x => x)))
 cases o with
 | none => exact wpAny_pure h1
 | some v =>
  refine wpAny_bind (wpAny_mono h1 (fun z_ s2 h2 => wpAny_bind (wpAny_mono h2 (fun z_ s3 h3 => wpAny_bind (wpAny_mono h3 (fun ok s4 h4 => ?_) fun z_ z_ x => x)) fun z_ z_ x => x)) fun z_ z_ x => x)
  cases ok with
  | false => exact wpAny_pure ⟨rfl, h4⟩
  | true => exact wpAny_bind (wpAny_bind (wpAny_mono h4 (fun x s5 h5 => wpAny_bind (wpAny_mono h5 (fun z_ s6 h6 => wpAny_pure (wpAny_pure ⟨rfl, h6⟩)) fun z_ z_ x => x)) fun z_ z_ x => x))
theorem tests_ (HT : SndT cf wd.params b (model prog wd) n r) {ifs : List PE} {cond : Option Ex} (O : Ok cf wd.params b A n stk fL en env s w σ) (R : ErI cf env.scope ifs cond) :
  TrT cf wd.params b (model prog wd) A fL (cpT ifs env) s w (optT r en cond σ) := fun Q E f => by
 cases cond with
 | none =>
  have h : ifs = [] := List.length_eq_zero_iff.mp R.length
  subst h
  exact wpAny_tests_nil (FinT.ok f O.st (.refl _ _) O.lv)
 | some x => cases ifs with
  | nil => cases R.length
  | cons e es =>
   obtain ⟨_, ys, q, R2, l⟩ := R.cons_inv
   injection q with j1 j2; subst j1; subst j2
   have h : es = [] := List.length_eq_zero_iff.mp l.length
   subst h
   exact wpAny_tests_one (HT O R2 Q E f)
theorem ext_off {own : List Addr} {w1 w2 : Wd} (e : Ext [] w0 w1) (e2 : Ext own w1 w2) (h : ∀ q ∈ w0.mu, q.1 ∉ own) : Ext [] w0 w2 := by
 refine ⟨fun p hp => e2.fz _ (e.fz _ hp), fun p hp => e2.xt _ (e.xt _ hp), fun p hp h1 h2 => ?_, fun p hp => ?_, fun j a q => e2.rho j a (e.rho j a q), fun p hp h1 => ?_⟩
 ·obtain ⟨o', q, m1⟩ := e.mu p hp h1 h2
  obtain ⟨o'', q2, m2⟩ := e2.mu _ q (h p hp) (e.ro p hp h2)
  exact ⟨o'', q2, m1.trans m2⟩
 ·obtain ⟨q, hq, e'⟩ := mmp (e.ky p hp)
  have := e2.ky q hq
  rwa [e'] at this
 ·obtain ⟨q, hq, e'⟩ := mmp (e.ky p hp)
  have := e2.ro q hq (by rw [e']; exact e.ro p hp h1)
  rwa [e'] at this
theorem EnvOk.bare {en' : Mine.Env} (eo : EnvOk cf P b en env w) (hc : en'.cels = en.cels) (hl : en'.locs = []) : EnvOk cf P b en' env w := by
 obtain ⟨o, m, h1, h2, _⟩ := eo.loc
 exact ⟨⟨o, m, h1, h2, fun x v h => by rw [hl] at h; exact noS h⟩, eo.lnr, eo.lge, fun x v h => eo.cel x v (by rw [← hc]; exact h), eo.cnr, eo.cnd, eo.g, eo.bt, eo.k, eo.chas, eo.lamc⟩
theorem EnvOk.none (eo : EnvOk cf P b en env w) : EnvOk cf P b ⟨[], []⟩ env w := by
 obtain ⟨o, m, h1, h2, _⟩ := eo.loc
 exact ⟨⟨o, m, h1, h2, fun x v h => (by exact noS h)⟩, eo.lnr, eo.lge, fun x v h => (by exact noS h), eo.cnr, eo.cnd, eo.g, eo.bt, eo.k, eo.chas, eo.lamc⟩
theorem noted_exc {D : Addr} {c : Nat} {σ' : Store} {R : Result → Shared → Prop} {w1 : Wd} {s1 : Shared} (cx : Cx A n stk fL) (so : StkOk stk w1) (hfr : env.frame = some fL) (e1 : Ext [] w0 w1) (eo : EnvOk cf wd.params b ⟨[], []⟩ env w1) (f : FinK cf wd.params b D fL s w0 env (.exc c σ') R) (hs : ∀ h tk, ({ s1 with heap := h, toks := tk } : Shared) = { s with heap := h, toks := tk }) :
  EPst cf wd.params b s1 w1 [] σ' c fL (notedBy (model prog wd) A env fun e s' => R (.error e) s') := by
 intro w2 h2 tk2 ex S2 e2 L2 X2
 obtain ⟨e0, rst, hstk, hf0⟩ := cx.top
 show wpAny _ _ (noteFrame (.ref ex) env) _ _ _
 subst hstk
 refine exc_note2 (s := { s1 with heap := h2, toks := tk2 }) S2 L2 (so.ext e2) cx.fr hf0 hfr X2 fun h3 w3 S3 e3 L3 X3 => ?_
 have := f w3 h3 tk2 ex S3 ((e1.trans e2).trans e3) L3 ((eo.ext e2).ext e3) X3
 rw [← hs h3 tk2] at this
 exact this
theorem comp_ (H : SndE cf wd.params b (model prog wd) n r) (HT : SndT cf wd.params b (model prog wd) n r) (HK : SndK cf prog wd b n r) : SndK cf prog wd b (n + 1) (step G r) := by
 intro A stk fL en cenv s w0 w σ el tar iter a ifs cond ts tt pre items acc accv sc2 pos I D xs fp Sti q O e0 hC RT RE RI It st hx hDx hnew hD da hlen R f
 refine comp_once ?_
 have hx' : ∀ c ∈ xs, c ∈ w.xt.map (·.1) := fun c hc => hx c (.tail _ hc)
 cases items with
 | nil =>
  have f1 : FinK cf wd.params b D fL s w0 cenv (.ok (.lst acc) σ) R := f
  refine It.done s _ _ (by rw [List.append_nil]; exact st) fun h' tk hk => ?_
  have S1 := O.st.dropXs (xs := D :: xs) (h' := h') hx fun c o hc e => hk c o (fun z => hc (.tail _ z)) e
  have hD' : h'.get? D = some (listOf (List.toArray accv) q) := hk _ _ hDx hD
  have hDk : D ∉ (Wd.all cf (dropXs (D :: xs) w)).map (·.1) := fun z => by
   obtain ⟨y, hy, e⟩ := mmp z
   rcases all_cases hy with hy | hy | hy | hy
   ·exact xt_off O.st (hx D (.head _)) (.inl hy) e
   ·have := (List.mem_filter.mp hy).2
    simp [e] at this
   ·exact xt_off O.st (hx D (.head _)) (.inr (.inl hy)) e
   ·exact xt_off O.st (hx D (.head _)) (.inr (.inr hy)) e
  have hDb : b.get? D = none := by
   obtain ⟨y, hy, e⟩ := mmp (hx D (.head _))
   exact e ▸ O.st.new y (mem_xt hy)
  have S2 := S1.tellF hD' hDb hDk
  have e1 : Ext [] w0 (dropXs (D :: xs) w) := ext_dropXs e0 hnew
  exact f1 _ h' tk S2 (e1.trans ext_addF) (Live.addF O.lv.xt) ((O.eo.xt (x := (dropXs (D :: xs) w).xt)).none.ext ext_addF) (.lst (n := q) (.inl (.head _)) (DenL.mono (fun z_ z => List.mem_cons_of_mem _ z) (fun z_ z_ z => z) da))
 | cons u items =>
  obtain ⟨l, hb, f2⟩ := f.need
  clear f
  have f2 : FinK cf wd.params b D fL s w0 cenv ((optT r { en with locs := l } cond σ).bind fun z σ => needO (boolV z) fun c => ifB c ((r (.e { en with locs := l } a σ)).bind fun y σ => r (.comp en a ts tt cond items (acc ++ [y]) σ)) (r (.comp en a ts tt cond items acc σ))) R := f2
  have hlen' : acc.length + items.length + 1 ≤ 10000 := by simpa [Nat.add_assoc] using hlen
  refine wpAny_mono (It.turn pre.length s (cpA (model prog wd) A el tar iter ifs sc2 pos I D cenv R) (cpE (model prog wd) A cenv R) (by rw [List.length_append, List.length_cons]; exact Nat.lt_add_of_pos_right (Nat.succ_pos _)) st fun u' v h' tk hu hitem st' hk => ?_) (fun rr s1 hr => ?_) fun z_ z_ h' => h'
  ·have hu' : u' = u := (Option.some.inj ((List.getElem?_append_right (Nat.le_refl _)).symm.trans hu |>.symm.trans (by rw [Nat.sub_self]; rfl)))
   subst hu'
   have S1 := O.st.reX hx' (It.live _ _ st').mem hk
   have e1 : Ext [] w0 (reX h' xs w) := ext_reX e0 fun c hc => hnew c (.tail _ hc)
   have L1 : Live cf wd.params b (reX h' xs w) σ := O.lv.reX
   have eo1 : EnvOk cf wd.params b { en with locs := [] } cenv (reX h' xs w) := O.eo.xt
   have hx1 : ∀ c ∈ D :: xs, c ∈ (reX h' xs w).xt.map (·.1) := fun c hc => by rw [reX_keys]; exact hx c hc
   have hD1 : h'.get? D = some (listOf (List.toArray accv) q) := hk _ _ hDx hD
   refine bind_tar (s := { s with heap := h', toks := tk }) O.cx.hh eo1 S1 L1 RT hitem hb fun h2 w2 tk2 S2 e2 L2 eo2 => ?_
   have e02 : Ext [] w0 w2 := ext_off e1 e2 fun z hz y => hC (by rw [← List.mem_singleton.mp y]; exact mmo hz)
   have e12 : Ext (ownE cenv) (reX h' xs w) w2 := e2.weaken fun z_ z => by rw [List.mem_singleton.mp z]; exact .head _
   have so2 : StkOk stk w2 := (StkOk.xt O.so).ext e12
   have O2 : Ok cf wd.params b A n stk fL { en with locs := l } cenv { s with heap := h2, toks := tk2 } w2 σ := ⟨O.cx.down, so2, O.fr, eo2, S2, L2⟩
   have ht := tests_ @HT O2 RI
   revert f2 ht
   generalize optT r { en with locs := l } cond σ = res
   intro f2 ht
   have go : ∀ {acc' : List V} {accv' : List Value} {q' : Nat} {σ' : Store} {w' : Wd} {h'' : Heap} {tk' : Nat} {own : List Addr}, St cf b h'' w' → Ext [] w0 w' → Live cf wd.params b w' σ' → EnvOk cf wd.params b { en with locs := l } cenv w' → StkOk stk w' → (∀ p ∈ w.fz, p ∈ w'.fz) → Pre w.rho w'.rho → Sti (pre.length + 1) h'' → (∀ c ∈ D :: xs, c ∈ w'.xt.map (·.1)) →
     h''.get? D = some (listOf (List.toArray accv') q') → DenLW cf wd.params b w' acc' accv' → acc'.length + items.length ≤ 10000 → FinK cf wd.params b D fL s w0 cenv (r (.comp en a ts tt cond items acc' σ')) R →
     codeAny (model prog wd) A (.compLoop (.ListComp el [⟨tar, iter, ifs, 0⟩] sc2 pos) 0 (.ref I) (.ref D) cenv) R { s with heap := h'', toks := tk' } := by
    intro acc' accv' q' σ' w' h'' tk' own S' e' L' eo' so' hfz hrho st2 hx2 hD2 da2 hl2 f3
    have O3 : Ok cf wd.params b A n stk fL { en with locs := [] } cenv { s with heap := h'', toks := tk' } w' σ' := ⟨O.cx.down, so', O.fr, eo'.bare rfl rfl, S', L'⟩
    refine HK (pre := pre ++ [u']) (items := items) (w0 := w0) (xs := xs) (fp := fp) (Sti := Sti) O3 e' hC RT RE RI ?_ ?_ hx2 hDx hnew hD2 da2 hl2 R ?_
    ·rw [List.append_assoc]; exact It.mono hfz hrho
    ·rw [List.length_append]; exact st2
    ·revert f3
     generalize r (.comp en a ts tt cond items acc' σ') = res3
     intro f3
     cases res3 <;> exact f3
   have stAt : ∀ {w' : Wd} {h'' : Heap} {own : List Addr}, St cf b h'' w' → Ext own (reX h' xs w) w' → Sti (pre.length + 1) h'' := fun S' e' =>
    frame_iter (w := reX h' xs w) (It.mono (fun z_ z => z) fun z_ z_ z => z) (fun c hc => hx1 c (.tail _ hc)) S1 S' e' st'
   cases res with
   | ok z σ1 =>
    obtain ⟨t, e0, f2⟩ := FinK.need f2
    obtain rfl := boolV_eq e0
    refine ht _ _ fun w3 h3 tk3 S3 e3 L3 => ?_
    have e03 := e02.trans e3
    have e13 : Ext (ownE cenv) (reX h' xs w) w3 := e12.trans (e3.weaken fun z_ z => absurd z List.not_mem_nil)
    have so3 : StkOk stk w3 := so2.ext e3
    have hD3 : h3.get? D = some (listOf (List.toArray accv) q) := xt_same S1 S3 e13 (hx1 D (.head _)) hD1
    have da3 : DenLW cf wd.params b w3 acc accv := DenL.mono (fun p z => e13.fz p z) (fun j c z => e13.rho j c z) da
    cases t with
    | false =>
     have f3 : FinK cf wd.params b D fL s w0 cenv (r (.comp en a ts tt cond items acc σ1)) R := f2
     exact go (own := []) S3 e03 L3 (eo2.ext e3) so3 (fun p z => e13.fz p z) (fun j c z => e13.rho j c z) (stAt S3 e13) (fun c hc => xt_keys_ext e13 (hx1 c hc)) hD3 da3 (by omega) f3
    | true =>
     have f3 : FinK cf wd.params b D fL s w0 cenv ((r (.e { en with locs := l } a σ1)).bind fun y σ => r (.comp en a ts tt cond items (acc ++ [y]) σ)) R := f2
     have O3 : Ok cf wd.params b A n stk fL { en with locs := l } cenv { s with heap := h3, toks := tk3 } w3 σ1 := ⟨O.cx.down, so3, O.fr, eo2.ext e3, S3, L3⟩
     have he := H O3 RE
     revert f3 he
     generalize r (.e { en with locs := l } a σ1) = res2
     intro f3 he
     cases res2 with
     | ok y σ2 =>
      have f4 : FinK cf wd.params b D fL s w0 cenv (r (.comp en a ts tt cond items (acc ++ [y]) σ2)) R := f3
      refine he _ _ fun w4 h4 tk4 S4 e4 L4 val4 d4 => ?_
      have e04 := e03.trans e4
      have e14 : Ext (ownE cenv) (reX h' xs w) w4 := e13.trans (e4.weaken fun z_ z => absurd z List.not_mem_nil)
      have hD4 : h4.get? D = some (listOf (List.toArray accv) q) := xt_same S1 S4 e14 (hx1 D (.head _)) hD1
      have da4 : DenLW cf wd.params b w4 acc accv := DenL.mono (fun p z => e4.fz p z) (fun j c z => e4.rho j c z) da3
      have hx4 : ∀ c ∈ D :: xs, c ∈ w4.xt.map (·.1) := fun c hc => xt_keys_ext e14 (hx1 c hc)
      refine append_at (s := { s with heap := h4, toks := tk4 }) hD4 (fun h5 hsb hD5 => ?_) (by rw [List.size_toArray, da4.length]; exact Nat.le_trans (show acc.length ≤ 10000 by omega) (by decide))
      have hk5 : ∀ c o, c ∉ [D] → h4.get? c = some o → h5.get? c = some o := fun c o hc e => (hsb.2 c fun z => hc (by rw [z]; exact .head _)).trans e
      have S5 := S4.reX (xs := [D]) (h' := h5) (fun c hc => hx4 c (by rw [List.mem_singleton.mp hc]; exact .head _)) (fun c hc => by rw [List.mem_singleton.mp hc]; exact ⟨_, hD5⟩) hk5
      have st4 := stAt S4 e14
      have st5 : Sti (pre.length + 1) h5 := It.frame _ _ _ st4 fun c hc o ho => hk5 c o (fun z => by
       rw [List.mem_singleton.mp z] at hc
       rcases It.base.mem D hc with y' | ⟨o', y'⟩
       ·exact hDx y'
       ·rcases y' with y' | y'
        ·exact xt_off O.st (hx D (.head _)) (.inl y') rfl
        ·obtain ⟨y2, hy2, e⟩ := mmp (hx D (.head _))
         have := O.st.new y2 (mem_xt hy2)
         rw [e, y'] at this
         injection this) ho
      refine go (acc' := acc ++ [y]) (accv' := accv ++ [val4]) (own := []) S5 (ext_reX e04 fun c hc => hnew c (by rw [List.mem_singleton.mp hc]; exact .head _)) L4.reX ((eo2.ext e3).ext e4).xt (StkOk.xt (so3.ext e4)) (fun p z => e14.fz p z) (fun j c z => e14.rho j c z) st5 (fun c hc => by rw [reX_keys]; exact hx4 c hc) (by simpa using hD5) (DenL.append da4 (.cons d4 .nil)) (by rw [List.length_append]; simp; omega) f4
     | exc c σ2 =>
      exact wpAny_mono (he (fun z_ z_ => False) (cpE (model prog wd) A cenv R) (noted_exc O.cx so3 O.fr e03 (eo2.ext e3).none f3 fun z_ z_ => rfl)) (fun z_ z_ z => z.elim) fun z_ z_ z => z
     | _ => exact False.elim f3
   | exc c σ1 =>
    exact wpAny_mono (ht (fun z_ z_ => False) (cpE (model prog wd) A cenv R) (noted_exc O.cx so2 O.fr e02 eo2.none f2 fun z_ z_ => rfl)) (fun z_ z_ z => z.elim) fun z_ z_ z => z
   | _ => exact False.elim f2
  ·obtain ⟨v, rfl, hv⟩ := hr
   exact hv
noncomputable def CEnd (M : Model) (A : Around) (E : VP) (use : Option (Value → Sem Unit)) (Q : VP) (acc : Value) (C : Addr) (s' : Shared) : Prop := match use with
 | none => ∃ m, s'.heap.Ns C m ∧ ∀ h', Heap.SameBut C s'.heap h' → Q acc { s' with heap := h' }
 | some u => wpAny M A (u acc) (fun z_ s2 => ∃ m, s2.heap.Ns C m ∧ ∀ h', Heap.SameBut C s2.heap h' → Q .none { s2 with heap := h' }) E s'
noncomputable def CRes (M : Model) (A : Around) (E : VP) (use : Option (Value → Sem Unit)) (Q : VP) (acc : Value) (cenv : SE) : Result → Shared → Prop := fun r s' => match r with
 | .ok _ => CEnd M A E use Q acc cenv.locals s'
 | .error x => ∃ m, s'.heap.Ns cenv.locals m ∧ ∀ h', Heap.SameBut cenv.locals s'.heap h' → wpAny M A (PySem.passOn "comprehension.variables-let-go" x cenv : Sem Value) (fun z_ z_ => False) E { s' with heap := h' }
theorem compr_ {e : PE} {scope : Scope} {pos : Pos} {newAcc first : Sem Value} {g : Comprehension} {gs : List Comprehension} {cl : List (Str × Addr)} {use : Option (Value → Sem Unit)} {Q : VP}
  (hcl : clausesOf e = g :: gs) (hs : ∀ x, foldedSetIterable g.iter env x = pure x) (hclos : closureFor scope env = pure cl)
  (hkind : scope.kind = .function) (hnames : ∀ x ∈ scope.names, x.2 = .local → scope.names.lookup x.1 = some .local)
  (h : wpAny M A first (fun x s₁ => wpAny M A (pyIter x) (fun it s₂ => wpAny M A newAcc (fun acc s₃ => wpAny M A (newFunctionEnv scope env.globals cl [] env.qual none .none (some env)) (fun cenv s₄ =>
    codeAny M A (.compStart e 0 it acc { cenv with scope := relabel scope env }) (CRes M A E use Q acc { cenv with scope := relabel scope env }) s₄) E s₃) E s₂) E s₁) E s) :
  wpAny M A (comprehension e scope env pos newAcc false first use) Q E s := by
 unfold comprehension
 rw [hclos, hcl]
 refine wpAny_bind (wpAny_mono h (fun x s1 h1 => ?_) fun z_ z_ z => z)
 refine wpAny_bind (wpAny_standAt (wpAny_bind (wpAny_of_eq (hs x) (wpAny_bind (wpAny_holding (wpAny_mono h1 (fun it s2 h2 => ?_) fun z_ z_ z => z))))))
 refine wpAny_standIf (wpAny_bind (wpAny_mono h2 (fun acc s3 h3 => ?_) fun z_ z_ z => z))
 refine wpAny_bind (wpAny_pure (wpAny_bind (wpAny_mono h3 (fun cenv s4 h4 => ?_) fun z_ z_ z => z)))
 dsimp only
 have loc : ∀ x ∈ scope.names, x.2 = .local → Env.kindOf { cenv with scope := relabel scope env } x.1 = some .local := fun x hx hl => lookup_relabel_local (hnames x hx hl)
 have hv : ∀ x ∈ (scope.names.filter fun x => (x.2 == .local || x.2 == .cell) && x.1 != (".0" : Str)).reverse, x.2 = .local → Env.kindOf { cenv with scope := relabel scope env } x.1 = some .local := fun x hx => loc x (List.mem_filter.mp (List.mem_reverse.mp hx)).1
 refine wpAny_holding (wpAny_bind (wpAny_attempt (wpAny_holding (wpAny_run (codeAny_mono h4 fun r s' hr => ?_)))))
 cases r with
 | ok f =>
  cases use with
  | none =>
   obtain ⟨m, hn, hr⟩ := hr
   exact wpAny_bind (wpAny_holding (wpAny_comp_letGo (cenv := { cenv with scope := relabel scope env }) hkind _ s' m hv hn fun h' m' z_ hs' => wpAny_pure (hr h' hs')))
  | some u =>
   refine wpAny_bind (wpAny_rule (wpAny_bind (wpAny_holding (wpAny_mono hr (fun z_ s2 hr' => ?_) fun z_ z_ z => z))))
   obtain ⟨m, hn, hr'⟩ := hr'
   refine wpAny_bind (wpAny_comp_letGo (cenv := { cenv with scope := relabel scope env }) hkind _ s2 m (fun x hx hl => ?_) hn fun h' m' z_ hs' => wpAny_pure (hr' h' hs'))
   rcases List.mem_append.mp hx with z | z
   ·exact hv x (List.mem_of_mem_drop z) hl
   ·exact hv x (List.mem_of_mem_take z) hl
 | error x =>
  have hr' : ∃ m, s'.heap.Ns cenv.locals m ∧ ∀ h', Heap.SameBut cenv.locals s'.heap h' → wpAny M A (PySem.passOn "comprehension.variables-let-go" x { cenv with scope := relabel scope env } : Sem Value) (fun z_ z_ => False) E { s' with heap := h' } := hr
  obtain ⟨m, hn, hr'⟩ := hr'
  cases use <;> exact wpAny_bind (wpAny_holding (wpAny_comp_letGo (cenv := { cenv with scope := relabel scope env }) hkind _ s' m hv hn fun h' m' z_ hs' => wpAny_mono (hr' h' hs') (fun z_ z_ z => z.elim) fun z_ z_ z => z))
section
variable {h h' : Heap} {w' : Wd} {own : List Addr}
noncomputable def dropM (C : Addr) (w : Wd) : Wd := { w with mu := w.mu.filter fun q => !decide (q.1 = C) }
theorem dropM_all {C : Addr} {p : Addr × Obj} (x : p ∈ Wd.all cf (dropM C w)) : p ∈ w.all cf := by
 rcases all_cases x with x | x | x | x
 ·exact mem_fz x
 ·exact mem_xt x
 ·exact mem_mu (List.mem_filter.mp x).1
 ·rw [x]; exact mem_tab
theorem dropM_keys {C : Addr} {a : Addr} (x : a ∈ (Wd.all cf (dropM C w)).map (·.1)) : a ∈ (w.all cf).map (·.1) := by
 obtain ⟨q, hq, rfl⟩ := mmp x
 exact mmo (dropM_all hq)
theorem mu_off (S : St cf b h w) {a : Addr} (ha : a ∈ w.mu.map (·.1)) {p : Addr × Obj} (hp : p ∈ w.fz ∨ p ∈ w.xt ∨ p = (cf.tabA, tabObj w.tb)) : p.1 ≠ a := fun e => by
 have e1 := S.nd
 simp only [Wd.all, List.map_append] at e1
 rw [List.nodup_append, List.nodup_append, List.nodup_append] at e1
 rcases hp with hp | hp | hp
 ·exact e1.2.2 _ (mmo hp) _ (List.mem_append_right _ (List.mem_append_left _ ha)) e
 ·exact e1.2.1.2.2 _ (mmo hp) _ (List.mem_append_left _ ha) e
 ·exact e1.2.1.2.1.2.2 _ ha _ (by rw [← hp]; exact .head _) e.symm
theorem St.dropM (S : St cf b h w) {C : Addr} (hC : C ∈ w.mu.map (·.1)) (hr : C ∉ w.rho) (k : ∀ a o, a ≠ C → h.get? a = some o → h'.get? a = some o) : St cf b h' (dropM C w) := by
 have off : ∀ p, p ∈ Wd.all cf (Mine.dropM C w) → p.1 ≠ C := fun p hp q => by
  rcases all_cases hp with hp | hp | hp | hp
  ·exact mu_off S hC (.inl hp) q
  ·exact mu_off S hC (.inr (.inl hp)) q
  ·have := (List.mem_filter.mp hp).2
   simp [q] at this
  ·exact mu_off S hC (.inr (.inr hp)) q
 refine ⟨fun a o e => k _ _ (fun q => ?_) (S.stays a o e), fun p hp => k _ _ (off p hp) (S.kn p (dropM_all hp)), fun p hp => S.new p (dropM_all hp), fun p hp => S.nf p (List.mem_filter.mp hp).1, ?_, fun a ha => ?_, S.rnd, S.tab⟩
 ·obtain ⟨r, hr, e'⟩ := mmp hC
  have := S.new r (mem_mu hr)
  rw [e', ← q, e] at this
  injection this
 ·refine List.Nodup.sublist ?_ S.nd
  exact List.Sublist.map _ (List.Sublist.append (List.Sublist.refl _) (List.Sublist.append (List.Sublist.refl _) (List.Sublist.append List.filter_sublist (List.Sublist.refl _))))
 ·obtain ⟨q, hq, rfl⟩ := mmp (S.rho a ha)
  exact mmo (List.mem_filter.mpr ⟨hq, by
   have : q.1 ≠ C := fun e => hr (e ▸ ha)
   simpa using this⟩)
theorem ext_dropM {C : Addr} (e : Ext own w0 w) (hC : C ∉ w0.mu.map (·.1)) : Ext own w0 (dropM C w) := by
 have keep : ∀ p ∈ w0.mu, ∀ o', (p.1, o') ∈ w.mu → (p.1, o') ∈ (Mine.dropM C w).mu := fun p hp o' h => List.mem_filter.mpr ⟨h, by
  have : p.1 ≠ C := fun q => hC (q ▸ mmo hp)
  simpa using this⟩
 refine ⟨e.fz, e.xt, fun p hp h1 h2 => ?_, fun p hp => ?_, e.rho, e.ro⟩
 ·obtain ⟨o', q, m⟩ := e.mu p hp h1 h2
  exact ⟨o', keep p hp o' q, m⟩
 ·obtain ⟨q, hq, e'⟩ := mmp (e.ky p hp)
  exact List.mem_map.mpr ⟨q, by have := keep p hp q.2 (by rw [← e']; exact hq); rwa [← e'] at this, e'⟩
theorem Live.dropM {C : Addr} (L : Live cf P b w σ) (hr : C ∉ w.rho) : Live cf P b (dropM C w) σ :=
 ⟨L.len, fun j so e => let ⟨a, o, h1, h2, h3⟩ := L.at_ j so e
  ⟨a, o, h1, List.mem_filter.mpr ⟨h2, by
   have : a ≠ C := fun q => hr (q ▸ List.mem_of_getElem? h1)
   simpa using this⟩, by cases so <;> exact h3⟩⟩
theorem pl_set {e : PE} (h : plE e = true) : ∀ env x, foldedSetIterable e env x = pure x := by cases e <;> first | (exact fun z_ z_ => rfl) | exact noB h
theorem ErSrc.pl {sc : Scope} {e : PE} {x : Src} (h : ErSrc cf sc e x) : plE e = true := by
 obtain ⟨h, l⟩ := h
 cases h with
 | seq => obtain ⟨_, _, _, h, _⟩ := l.cons_inv; exact h.pl
 | _ => rfl
end
theorem closL_mem {env : SE} {l : List (Str × NameKind)} {acc : List (Str × Addr)} {z : Str × Addr} (h : z ∈ closL env l acc) : z ∈ acc ∨ ((z.1, NameKind.free) ∈ l ∧ z.2 = (env.cells.lookup z.1).getD 0) := by
 induction l generalizing acc with
 | nil => exact .inl h
 | cons y r ih =>
  rcases ih h with h | ⟨h1, h2⟩
  ·cases hk : y.2 == NameKind.free with
   | true =>
    rw [hk] at h
    rcases List.mem_cons.mp h with rfl | h
    ·exact .inr ⟨List.mem_cons.mpr (.inl (by rw [← eq_of_beq hk])), rfl⟩
    ·exact .inl h
   | false => rw [hk] at h; exact .inl h
  ·exact .inr ⟨.tail _ h1, h2⟩
theorem closL_has {env : SE} {l : List (Str × NameKind)} {acc : List (Str × Addr)} {y : Str} (h : (y, NameKind.free) ∈ l ∨ (acc.lookup y).isSome = true) : ((closL env l acc).lookup y).isSome = true := by
 induction l generalizing acc with
 | nil => exact h.elim (fun q => by cases q) id
 | cons z r ih =>
  refine ih ?_
  rcases h with h | h
  ·rcases List.mem_cons.mp h with e | h
   ·right
    rw [← e]
    show (List.lookup y ((y, _) :: acc)).isSome = true
    rw [List.lookup_cons, beq_self_eq_true]; rfl
   ·exact .inl h
  ·right
   cases z.2 == NameKind.free with
   | true =>
    show (List.lookup y ((z.1, _) :: acc)).isSome = true
    rw [List.lookup_cons]
    cases y == z.1 with
    | true => rfl
    | false => exact h
   | false => exact h
noncomputable def relN (env : SE) (z : Str × NameKind) : Str × NameKind := if (z.2 == NameKind.free && env.scope.kind == .function && env.kindOf z.1 == some .cell) then (z.1, NameKind.cell) else (z.1, z.2)
theorem relabel_cell {env : SE} {names : List (Str × NameKind)} {y : Str} (hc : ∀ z ∈ names, z.2 ≠ .cell) (h : (names.map (relN env)).lookup y = some .cell) : (y, NameKind.free) ∈ names ∧ env.kindOf y = some .cell := by
 induction names with
 | nil => exact noS h
 | cons z r ih =>
  have ih := ih (fun z hz => hc z (.tail _ hz))
  have h : ((relN env z) :: r.map (relN env)).lookup y = some .cell := h
  have hcz := hc z (.head _)
  unfold relN at h
  cases hk : (z.2 == NameKind.free && env.scope.kind == .function && env.kindOf z.1 == some .cell) with
  | true =>
   rw [if_pos hk, List.lookup_cons] at h
   obtain ⟨k1, k2⟩ := Bool.and_eq_true_iff.mp hk
   cases hy : y == z.1 with
   | true =>
    rw [eq_of_beq hy]
    exact ⟨List.mem_cons.mpr (.inl (by rw [← eq_of_beq (Bool.and_eq_true_iff.mp k1).1])), eq_of_beq k2⟩
   | false => rw [hy] at h; exact ⟨.tail _ (ih h).1, (ih h).2⟩
  | false =>
   rw [if_neg (by rw [hk]; exact Bool.false_ne_true), List.lookup_cons] at h
   cases hy : y == z.1 with
   | true => rw [hy] at h; exact absurd (Option.some.inj h) hcz
   | false => rw [hy] at h; exact ⟨.tail _ (ih h).1, (ih h).2⟩
theorem TarEr.rel {sc2 : Scope} {env : SE} {tar : PE} {ts : List Nat} {tt : Bool} (R : TarEr sc2 tar ts tt) : TarEr (relabel sc2 env) tar ts tt := by
 cases R with
 | one h => exact .one (lookup_relabel_local h)
 | two h1 h2 h3 => exact .two (lookup_relabel_local h1) (lookup_relabel_local h2) h3
theorem env_comp (eo : EnvOk cf P b en env w) {sc2 : Scope} {C : Addr} {w1 : Wd} {oC : Obj} {m : Str → Option Value} (e : Ext [] w w1) (hk : sc2.kind = .function) (hcell : ∀ y ∈ sc2.names, y.2 ≠ .cell) (hfree : ∀ y ∈ sc2.names, y.2 = .free → env.scope.names.lookup y.1 = some .cell) (hlam : (relS sc2 env.scope).names ≠ cf.lamN)
  (hC : (C, oC) ∈ w1.mu) (hn : NsObj oC m) (hr : C ∉ w1.rho) (hb : b.objs.size ≤ C) (hCw : C ∉ w.mu.map (·.1)) : EnvOk cf P b { en with locs := [] } (compEnvC sc2 (closL env sc2.names []) C env) w1 := by
 have eo1 := eo.ext e
 have isSome : ∀ y, (y, NameKind.free) ∈ sc2.names → (env.cells.lookup y).isSome = true := fun y hy => eo.chas y (hfree _ hy rfl)
 have cl : ∀ y c, (closL env sc2.names []).lookup y = some c → env.cells.lookup y = some c := fun y c h => by
  rcases closL_mem (lookup_mem h) with z | ⟨z1, z2⟩
  ·cases z
  ·obtain ⟨c', hc'⟩ := Option.isSome_iff_exists.mp (isSome y z1)
   dsimp only at z2
   rw [hc'] at z2
   rw [hc', z2]; rfl
 have cellOld : ∀ y c, env.cells.lookup y = some c → c ∈ w.mu.map (·.1) := fun y c h => by
  obtain ⟨_, _, o, x, h3, _⟩ := eo.cnr y c h
  exact mmo (f := (·.1)) h3
 refine ⟨⟨oC, m, hC, hn, fun x v h => by exact noS h⟩, hr, hb, fun x v h h2 => ?_, fun y c h => ?_, fun x y c h1 h2 => eo.cnd _ _ _ (cl _ _ h1) (cl _ _ h2), eo.g, eo.bt, hk, fun y h => ?_, fun h => absurd h hlam⟩
 ·obtain ⟨z1, z2⟩ := relabel_cell hcell h2
  obtain ⟨c, o, val, g1, g2, g3, g4⟩ := eo1.cel x v h z2
  obtain ⟨c', hc'⟩ := Option.isSome_iff_exists.mp (closL_has (env := env) (acc := []) (.inl z1))
  have := cl _ _ hc'
  rw [g1] at this
  obtain rfl := sI this
  exact ⟨c, o, val, hc', g2, g3, g4⟩
 ·obtain ⟨g1, g2, o, x, g3, g4⟩ := eo1.cnr y c (cl _ _ h)
  exact ⟨g1, fun q => hCw (by rw [← show c = C from q]; exact cellOld y c (cl _ _ h)), o, x, g3, g4⟩
 ·obtain ⟨z1, z2⟩ := relabel_cell hcell h
  exact closL_has (.inl z1)
noncomputable def FinC (cf : Cfg) (prog : Program) (wd : World) (b : Heap) (A : Around) (fL : Addr) (use : Option (Value → Sem Unit)) (s : Shared) (w : Wd) (res : Res) (Q E : VP) : Prop := match res with
 | .ok v σ' => ∀ w' h' tk' val C, St cf b h' w' → Ext [] w w' → Live cf wd.params b w' σ' → DenW cf wd.params b w' v val → C ∉ (w.all cf).map (·.1) → C ∉ w'.rho → (∃ o m, (C, o) ∈ w'.mu ∧ NsObj o m) → CEnd (model prog wd) A E use Q val C { s with heap := h', toks := tk' }
 | .exc c σ' => EPst cf wd.params b s w [] σ' c fL E
 | _ => False
theorem comp_core (HR : SndR cf prog wd b n r) (HK : SndK cf prog wd b n r) {use : Option (Value → Sem Unit)} {el tar iter : PE} {a : Ex} {ifs : List PE} {cond : Option Ex} {ts : List Nat} {src : Src} {sc2 : Scope} {pos pos' : Pos} (O : Ok cf wd.params b A (n + 1) stk fL en env s w σ)
  (RE : Er cf (relS sc2 env.scope) el a) (RT : TarEr sc2 tar ts tt) (RS : ErSrc cf env.scope iter src) (ho : srcOk src tt = true) (RI : ErI cf (relS sc2 env.scope) ifs cond) (hk : sc2.kind = .function) (hcell : ∀ y ∈ sc2.names, y.2 ≠ .cell) (hnm : ∀ y ∈ sc2.names, y.2 = .local → sc2.names.lookup y.1 = some .local)
  (hfree : ∀ y ∈ sc2.names, y.2 = .free → env.scope.names.lookup y.1 = some .cell) (hlam : (relS sc2 env.scope).names ≠ cf.lamN) (hlast : ∃ o, b.get? (b.objs.size - 1) = some o) {Q : VP} {E : VP}
  (f : FinC cf prog wd b A fL use s w (step G r (.e en (.comp a ts tt src cond) σ)) Q E) :
  wpAny (model prog wd) A (comprehension (.ListComp el [⟨tar, iter, ifs, 0⟩] sc2 pos) sc2 env pos' (newList []) false (eval iter env) use) Q E s := by
 refine compr_ (g := ⟨tar, iter, ifs, 0⟩) (gs := []) (cl := closL env sc2.names []) rfl (pl_set RS.pl _) (clos_eq fun y hy hyf => O.eo.chas _ (hfree y hy hyf)) hk hnm ?_
 refine HR O.down RS ho (tar_shape RT) _ _ ?_
 have f1 : FinC cf prog wd b A fL use s w ((r (.src en src σ)).binds fun items σ => ifB (Nat.ble items.length 10000) (r (.comp en a ts tt cond items [] σ)) .bad) Q E := f
 clear f
 revert f1
 generalize r (.src en src σ) = res
 intro f1
 cases res with
 | exc c σ1 => exact f1
 | ok _ _ => exact False.elim f1
 | nxt _ _ => exact False.elim f1
 | ret _ _ => exact False.elim f1
 | bad => exact False.elim f1
 | oks items σ1 =>
 intro w1 h1 tk1 I xs fp Sti S e L It st hx hnew
 obtain ⟨hz, f2⟩ := ifBs (F := fun q => FinC cf prog wd b A fL use s w q Q E) id (c := Nat.ble items.length 10000) (q := r (.comp en a ts tt cond items [] σ1)) f1
 clear f1
 have hz := nle hz
 refine wpAny_newList ?_ (by decide)
 have hkD : ∀ c o, h1.get? c = some o → (h1.push { cls := .type "list", data := .seq ([] : List Value).toArray }).get? c = some o := fun c o z => gps _ z
 have hD0 : h1.get? h1.objs.size = none := size_none _
 have hDn : (h1.push { cls := .type "list", data := .seq ([] : List Value).toArray }).get? h1.objs.size = some (listOf ([] : List Value).toArray 0) := Heap.get?_push_size h1 (o := { cls := .type "list", data := .seq ([] : List Value).toArray }) rfl
 have S2 := S.addX hkD hD0 hDn
 refine wpAny_newFunctionEnv hcell (by intro y hy; simp at hy) (fun h3 hns hsb => ?_) hk
 dsimp only at hns hsb ⊢
 revert hns hsb S2 hDn hkD
 generalize hH : h1.push { cls := .type "list", data := .seq ([] : List Value).toArray } = h2
 intro hkD hDn S2 hns hsb
 have hsz : h2.objs.size = h1.objs.size + 1 := by rw [← hH]; exact Heap.size_push ..
 obtain ⟨oC, gC, nC⟩ := ns_obj hns
 have hk3 : ∀ c o, h2.get? c = some o → h3.get? c = some o := fun c o z => hsb.extBut c o (Nat.ne_of_lt (Heap.lt_size z)) (gps _ z)
 have S3 := S2.addM hk3 (size_none h2) gC (sim_nf nC)
 have E3 : Ext [] w { w1 with xt := (h1.objs.size, listOf ([] : List Value).toArray 0) :: w1.xt, mu := (h2.objs.size, oC) :: w1.mu } := (e.trans ext_addX).trans ext_addM
 have L3 : Live cf wd.params b { w1 with xt := (h1.objs.size, listOf ([] : List Value).toArray 0) :: w1.xt, mu := (h2.objs.size, oC) :: w1.mu } σ1 := (L.addX).addM
 have keysLt : ∀ c, c ∈ (w.all cf).map (·.1) → c ∈ (w1.all cf).map (·.1) := keys_ext e
 have hC1 : h2.objs.size ∉ (w1.all cf).map (·.1) := fun q => by
  obtain ⟨y, hy, e'⟩ := mmp q
  have := S.kn y hy
  rw [e', Heap.get?_none_of_le (by omega)] at this
  exact noS this
 have hD1 : h1.objs.size ∉ (w1.all cf).map (·.1) := S.fresh hD0
 have hrC : h2.objs.size ∉ w1.rho := fun q => by
  obtain ⟨y, hy, e'⟩ := mmp (S.rho _ q)
  exact hC1 (e' ▸ mmo (mem_mu hy))
 have hbs : b.objs.size ≤ h2.objs.size := by
  obtain ⟨o, ho'⟩ := hlast
  have z1 : b.objs.size - 1 < h1.objs.size := Heap.lt_size (S.stays _ _ ho')
  omega
 have eo3 := env_comp (C := h2.objs.size) O.eo E3 hk hcell hfree hlam (.head _) nC hrC hbs fun q => hC1 (keysLt _ (by
  obtain ⟨y, hy, e'⟩ := mmp q
  exact e' ▸ mmo (mem_mu hy)))
 have hDxs : h1.objs.size ∉ xs := fun q => hD1 (by
  obtain ⟨y, hy, e'⟩ := mmp (hx _ q)
  exact e' ▸ mmo (mem_xt hy))
 have fpNew : ∀ c ∈ fp, ∀ o, h1.get? c = some o → h3.get? c = some o := fun c z_ o z => hk3 _ _ (hkD _ _ z)
 have st3 : Sti 0 h3 := It.frame _ _ _ st fpNew
 have O3 : Ok cf wd.params b A n stk fL { en with locs := [] } (compEnvC sc2 (closL env sc2.names []) h2.objs.size env) { s with heap := h3, toks := tk1 + ([] : List (Str × Value)).length } { w1 with xt := (h1.objs.size, listOf ([] : List Value).toArray 0) :: w1.xt, mu := (h2.objs.size, oC) :: w1.mu } σ1 :=
  ⟨O.cx.down, O.so.ext E3, O.fr, eo3, S3, L3⟩
 have loop : codeAny (model prog wd) A (.compLoop (.ListComp el [⟨tar, iter, ifs, 0⟩] sc2 pos) 0 (.ref I) (.ref h1.objs.size) (compEnvC sc2 (closL env sc2.names []) h2.objs.size env)) (CRes (model prog wd) A E use Q (.ref h1.objs.size) (compEnvC sc2 (closL env sc2.names []) h2.objs.size env)) { s with heap := h3, toks := tk1 + ([] : List (Str × Value)).length } := by
  refine HK (pre := []) (items := items) (acc := []) (accv := []) (w0 := w) (xs := xs) (fp := fp) (Sti := Sti) O3 E3 (fun q => hC1 (keysLt _ (by
   obtain ⟨y, hy, e'⟩ := mmp q
   have e2 : y.1 = h2.objs.size := e'
   exact e2 ▸ mmo (mem_mu hy)))) RT.rel RE RI It st3 (fun c hc => ?_) hDxs (fun c hc q => ?_) (hk3 _ _ hDn) .nil (by simpa using hz) _ ?_
  ·rcases List.mem_cons.mp hc with rfl | hc
   ·exact .head _
   ·exact .tail _ (hx c hc)
  ·have hq : c ∈ (w.all cf).map (·.1) := by
    obtain ⟨y, hy, e'⟩ := mmp q
    exact e' ▸ mmo (mem_xt hy)
   rcases List.mem_cons.mp hc with rfl | hc
   ·exact hD1 (keysLt _ hq)
   ·exact hnew c hc hq
  ·revert f2
   generalize r (.comp en a ts tt cond items [] σ1) = res
   intro f2
   cases res with
   | ok v σ2 =>
    intro w4 h4 tk4 S4 e4 L4 eo4 d4
    obtain ⟨o4, m4, k1, k2, _⟩ := eo4.loc
    exact f2 w4 h4 tk4 (.ref h1.objs.size) h2.objs.size S4 e4 L4 d4 (fun q => hC1 (keysLt _ q)) eo4.lnr ⟨o4, m4, k1, k2⟩
   | exc c σ2 =>
    intro w4 h4 tk4 ex S4 e4 L4 eo4 X4
    obtain ⟨o4, m4, k1, k2, _⟩ := eo4.loc
    refine ⟨m4, k2.ns (S4.mu k1), fun h5 hs5 => ?_⟩
    have kk : h2.objs.size ∈ w4.mu.map (·.1) := mmo (f := (·.1)) k1
    have S5 := S4.dropM kk eo4.lnr (h' := h5) fun c' o hne z => (hs5.2 c' hne).trans z
    have X5 : ExcTr cf b h5 (dropM h2.objs.size w4) c fL ex := X4.less_ (fun c' => dropM_keys) fun c' o hne z => (hs5.2 c' fun q => hne (by
     rw [q]
     obtain ⟨y, hy, e'⟩ := mmp kk
     exact e' ▸ mmo (mem_mu hy))).trans z
    have hC0 : h2.objs.size ∉ w.mu.map (·.1) := fun q => hC1 (keysLt _ (by
     obtain ⟨y, hy, e'⟩ := mmp q
     exact e' ▸ mmo (mem_mu hy)))
    exact exc_pass (s := { s with heap := h5, toks := tk4 }) S5 X5 O.fr fun h6 S6 X6 => f2 (dropM h2.objs.size w4) h6 tk4 ex S6 (ext_dropM e4 hC0) (L4.dropM eo4.lnr) X6
   | _ => exact False.elim f2
 exact codeAny_compStart_list loop (It.self 0 _ _ _ st3 loop)
noncomputable def FinU (cf : Cfg) (P : Params) (b : Heap) (fL : Addr) (env : SE) (y : Nat) (en : Mine.Env) (s : Shared) (w : Wd) (res : Res) (Z : Shared → Prop) (E : VP) : Prop := match res with
 | .ok v σ' => ∀ w' h' tk', St cf b h' w' → Ext (ownE env) w w' → Live cf P b w' σ' → EnvOk cf P b (setV en .loc y v) env w' → Z { s with heap := h', toks := tk' }
 | .exc c σ' => EPst cf P b s w [] σ' c fL E
 | _ => False
noncomputable def SndU (cf : Cfg) (prog : Program) (wd : World) (b : Heap) (n : Nat) (r : Task → Res) : Prop := ∀ {A : Around} {stk : List SE} {fL : Addr} {en : Mine.Env} {env : SE} {s : Shared} {w : Wd} {σ : Store} {el tar iter : PE} {ifs : List PE} {sc2 : Scope} {pos py : Pos} {x : Ex} {y : Nat},
 Ok cf wd.params b A n stk fL en env s w σ → ErC cf env.scope el tar iter ifs sc2 x → env.scope.names.lookup (strOf y) = some .local → ∀ (Z : Shared → Prop) (E : VP),
 FinU cf wd.params b fL env y en s w (r (.e en x σ)) Z E → wpAny (model prog wd) A (evalThenUse (.ListComp el [⟨tar, iter, ifs, 0⟩] sc2 pos) env (assign (.Name (strOf y) py) env)) (fun z_ s' => Z s') E s
theorem EnvOk.dropM {C : Addr} (eo : EnvOk cf P b en env w) (h1 : env.locals ≠ C) (h2 : ∀ y c, env.cells.lookup y = some c → c ≠ C) : EnvOk cf P b en env (dropM C w) := by
 have keep : ∀ {a : Addr} {o : Obj}, a ≠ C → (a, o) ∈ w.mu → (a, o) ∈ (Mine.dropM C w).mu := fun hne h => List.mem_filter.mpr ⟨h, by simpa using hne⟩
 obtain ⟨o, m, k1, k2, k3⟩ := eo.loc
 refine ⟨⟨o, m, keep h1 k1, k2, k3⟩, eo.lnr, eo.lge, fun x v g1 g2 => ?_, fun y c g => ?_, eo.cnd, eo.g, eo.bt, eo.k, eo.chas, eo.lamc⟩
 ·obtain ⟨c, o, val, q1, q2, q3, q4⟩ := eo.cel x v g1 g2
  exact ⟨c, o, val, q1, keep (h2 _ _ q1) q2, q3, q4⟩
 ·obtain ⟨q1, q2, o, x, q3, q4⟩ := eo.cnr y c g
  exact ⟨q1, q2, o, x, keep (h2 _ _ g) q3, q4⟩
theorem e_comp (HR : SndR cf prog wd b n r) (HK : SndK cf prog wd b n r) (hlast : ∃ o, b.get? (b.objs.size - 1) = some o) {el tar iter : PE} {ifs : List PE} {sc2 : Scope} {pos : Pos} {x : Ex} (O : Ok cf wd.params b A (n + 1) stk fL en env s w σ)
  (R : ErC cf env.scope el tar iter ifs sc2 x) : Tr cf wd.params b (model prog wd) A fL (eval (.ListComp el [⟨tar, iter, ifs, 0⟩] sc2 pos) env) s w (step G r (.e en x σ)) := fun Q E f => by
 cases R with
 | mk RE RT RS RI hk hcell hnm hfree hlam ho =>
 rw [eval_ListComp]
 refine comp_core (G := G) (use := none) @HR @HK O RE RT RS ho RI hk hcell hnm hfree hlam hlast ?_
 revert f
 generalize step G r (.e en _ σ) = res
 intro f
 cases res with
 | ok v σ1 =>
  intro w' h' tk' val C S e L d hC hr hm
  obtain ⟨o, m, k1, k2⟩ := hm
  have hC0 : C ∉ w.mu.map (·.1) := fun q => hC (by
   obtain ⟨y, hy, e'⟩ := mmp q
   exact e' ▸ mmo (mem_mu hy))
  exact ⟨m, k2.ns (S.mu k1), fun h'' hs => Fin.ok (s' := { s with heap := h'', toks := tk' }) f (S.dropM (mmo (f := (·.1)) k1) hr fun c o hne z => (hs.2 c hne).trans z) (ext_dropM e hC0) (L.dropM hr) d⟩
 | exc c σ1 => exact f
 | _ => exact f
theorem use_ (HR : SndR cf prog wd b n r) (HK : SndK cf prog wd b n r) (hlast : ∃ o, b.get? (b.objs.size - 1) = some o) : SndU cf prog wd b (n + 1) (step G r) := by
 intro A stk fL en env s w σ el tar iter ifs sc2 pos py x y O R hy Z E f
 cases R with
 | mk RE RT RS RI hk hcell hnm hfree hlam ho =>
 refine wpAny_bind (m := comprehension (.ListComp el [⟨tar, iter, ifs, 0⟩] sc2 pos) sc2 env (firstIterPos [⟨tar, iter, ifs, 0⟩] pos) (newList []) false (eval iter env) (some (assign (.Name (strOf y) py) env))) ?_
 refine wpAny_mono (comp_core (G := G) (use := some (assign (.Name (strOf y) py) env)) (Q := fun z_ s' => Z s') (E := E) @HR @HK O RE RT RS ho RI hk hcell hnm hfree hlam hlast ?_) (fun z_ s' z => wpAny_pure z) fun z_ z_ z => z
 revert f
 generalize step G r (.e en _ σ) = res
 intro f
 cases res with
 | ok v σ1 =>
  intro w' h' tk' val C S e L d hC hr hm
  obtain ⟨o, m, k1, k2⟩ := hm
  have inw : ∀ c, c ∈ w.mu.map (·.1) → c ≠ C := fun c q z => hC (by
   obtain ⟨y, hy, e'⟩ := mmp q
   exact z ▸ e' ▸ mmo (mem_mu hy))
  have hloc : env.locals ≠ C := inw _ (by obtain ⟨o', m', q1, _⟩ := O.eo.loc; exact mmo (f := (·.1)) q1)
  have hcel : ∀ y c, env.cells.lookup y = some c → c ≠ C := fun y c h => inw _ (by obtain ⟨_, _, o', x', q1, _⟩ := O.eo.cnr y c h; exact mmo (f := (·.1)) q1)
  refine wpAny_assign_Name (store_own (s := { s with heap := h', toks := tk' }) (O.eo.ext e) S L hy d fun h2 w2 tk2 S2 e2 L2 eo2 z_ g2 => ?_)
  obtain ⟨o2, q1, q2⟩ := e2.mu _ k1 (fun z => hloc (List.mem_singleton.mp z).symm) hr
  have hr2 : C ∉ w2.rho := by rw [g2]; exact hr
  refine ⟨m, (q2.1 _ k2).ns (S2.mu q1), fun h3 hs => ?_⟩
  exact f (dropM C w2) h3 tk2 (S2.dropM (mmo (f := (·.1)) q1) hr2 fun c o hne z => (hs.2 c hne).trans z)
   (ext_dropM ((e.weaken fun z_ z => absurd z List.not_mem_nil).trans (e2.weaken fun z_ z => by rw [List.mem_singleton.mp z]; exact .head _)) fun q => inw C q rfl) (L2.dropM hr2) (eo2.dropM hloc hcel)
 | exc c σ1 => exact f
 | _ => exact f
theorem swaps_used {el tar iter : PE} {ifs : List PE} {sc2 : Scope} {p1 p2 : Pos} {y : Str} {l : Nat} (hk : env.scope.kind = .function) (hy : env.scope.names.lookup y = some .local) (hl : p1.line = p2.line) (hn : ∀ z ∈ sc2.names, z.1 = y → z.2 ≠ .local ∧ z.2 ≠ .cell) :
  swapsWith (.ListComp el [⟨tar, iter, ifs, 0⟩] sc2 p2) (some (.Name y p1)) l env = pure true := by
 have h1 : (env.blockKind == .function) = true := by unfold PySem.Env.blockKind; first | (rw [hk]; rfl) | simp [hk]
 have h2 : (env.kindOf y == some .local) = true := by unfold PySem.Env.kindOf; rw [hy]; rfl
 have h3 : (p1.line == p2.line) = true := by rw [hl]; simp
 have h4 : (sc2.names.any fun (z : Str × NameKind) => z.1 == y && (z.2 == .local || z.2 == .cell)) = false := by
  rw [List.any_eq_false]
  intro z hz
  by_cases e : z.1 = y
  ·obtain ⟨g1, g2⟩ := hn z hz e
   have q1 : (z.2 == NameKind.local) = false := by simpa using g1
   have q2 : (z.2 == NameKind.cell) = false := by simpa using g2
   simp [q1, q2]
  ·have : (z.1 == y) = false := by simpa using e
   simp [this]
 show (pure (env.blockKind == .function && env.kindOf y == some .local && p1.line == p2.line && !(sc2.names.any fun (z : Str × NameKind) => z.1 == y && (z.2 == .local || z.2 == .cell))) : Sem Bool) = pure true
 rw [h1, h2, h3, h4]
 rfl
theorem s_asgX (HU : SndU cf prog wd b n r) (H : SndB cf wd.params b (model prog wd) n r) {el tar iter : PE} {ifs : List PE} {sc2 : Scope} {p1 p2 pos : Pos} {x : Ex} {y : Nat} {ss : List PySem.Stmt} {xs : List Sm} (O : Ok cf wd.params b A (n + 1) stk fL en env s w σ)
  (hy : env.scope.names.lookup (strOf y) = some .local) (R : ErC cf env.scope el tar iter ifs sc2 x) (hl : p1.line = p2.line) (hn : ∀ z ∈ sc2.names, z.1 = strOf y → z.2 ≠ .local ∧ z.2 ≠ .cell) (RB : ErB cf env.scope ss xs) :
  TrB cf wd.params b (model prog wd) A fL env (execs (.Assign [.Name (strOf y) p1] (.ListComp el [⟨tar, iter, ifs, 0⟩] sc2 p2) pos :: ss) env) s w (step G r (.b en (.asg (.loc y) x :: xs) σ)) := fun Q E f => by
 have f1 : FinB cf wd.params b (ownE env) fL env s w ((r (.e en x σ)).bind fun v σ => r (.b (setV en .loc y v) xs σ)) Q E := f
 clear f
 refine wpAny_execs_cons ?_
 rw [exec_Assign_Name_used _ _ _ _ (swaps_used O.eo.k hy hl hn)]
 refine wpAny_bind (wpAny_standAt (wpAny_bind (wpAny_mono (HU O.down R hy (fun s' => wpAny (model prog wd) A (execs ss env) Q E s') E ?_) (fun z_ s' z => wpAny_pure z) fun z_ z_ z => z)))
 revert f1
 generalize r (.e en x σ) = res
 intro f1
 cases res with
 | ok v σ1 => exact fun w' h' tk' S e L eo => H (O.down.set (own := ownE env) S e L eo) RB Q E (FinB.move (h1 := h') (tk1 := tk') (res := r (.b (setV en .loc y v) xs σ1)) f1 e)
 | exc c σ1 => exact fun w' h' tk' ex S e L X => f1 w' h' tk' ex S (e.weaken fun z_ q => absurd q List.not_mem_nil) L X
 | _ => exact f1
noncomputable abbrev EnOut (h : Heap) (e it T : Addr) (f : Bool) (i : Int) (x : Value) : Prop :=
 h.get? e = some { cls := .type "enumerate", dict := none, data := .fields #[rawInt T, .bool f, .ref it, rawInt i, .none, x], slots := #[] }
noncomputable def EnSt (h : Heap) (e it : Addr) (i : Nat) : Prop := (∃ old, IsEnum h e it i old) ∨ ∃ T f x, EnOut h e it T f i x ∧ (∃ o, h.get? T = some o) ∧ T ≠ e ∧ T ≠ it
theorem EnSt.typeIs {s : Shared} {e it : Addr} {i : Nat} (x : EnSt s.heap e it i) : s.TypeIs (.ref e) "enumerate" := by
 rcases x with ⟨_, x⟩ | ⟨_, _, _, x, _⟩ <;> exact ⟨_, x, rfl⟩
theorem EnSt.live {h : Heap} {e it : Addr} {i : Nat} (x : EnSt h e it i) : ∃ o, h.get? e = some o := by
 rcases x with ⟨_, x⟩ | ⟨_, _, _, x, _⟩ <;> exact ⟨_, x⟩
theorem EnSt.keep {h h' : Heap} {e it : Addr} {i : Nat} (x : EnSt h e it i) (k : ∀ a o, h.get? a = some o → h'.get? a = some o) : EnSt h' e it i := by
 rcases x with ⟨old, x⟩ | ⟨T, f, y, x, ⟨o, ho⟩, z⟩
 ·exact .inl ⟨old, k _ _ x⟩
 ·exact .inr ⟨T, f, y, k _ _ x, ⟨o, k _ _ ho⟩, z⟩
section
variable {w : World}
theorem enOut_item {k : Bool} {e it a T : Addr} {f : Bool} {i : Nat} {xs : Array Value} {x old : Value} {Q : Option Value → Shared → Prop} (he : EnOut s.heap e it T f i old) (hT : ∃ o, s.heap.get? T = some o) (hTe : T ≠ e) (hTi : T ≠ it)
  (hit : ItAt k s.heap it a i) (hl : SqAt k s.heap a xs) (hx : xs[i]? = some x) (hne : e ≠ it)
  (hQ : ∀ h' tk, EnOut h' e it T true ((i : Int) + 1) old → ItAt k h' it a (i + 1) → h'.get? s.heap.objs.size = some { cls := .type "tuple", data := .seq #[.int i tk, x] } → h'.objs.size = s.heap.objs.size + 1 →
   (∀ b o, b ≠ e → b ≠ it → s.heap.get? b = some o → h'.get? b = some o) → Q (some (.ref s.heap.objs.size)) { s with heap := h', toks := tk + 1 }) :
  wpAny (model prog w) A (pyNext (.ref e)) Q E s := by
 have hTy : s.TypeIs (.ref e) "enumerate" := ⟨_, he, rfl⟩
 unfold pyNext
 refine wpAny_bind (wpAny_attempt (wpAny_callSpecial?_slot (name := Str.ofString "__next__") hTy F.slot_enumerate_next (wpAny_call_entry F.slot_enumerate_next hTy F.entry_enumerate_next ?_ (F.args_enumerate_next_1 _))))
 obtain ⟨hp, g, d, tk0, os⟩ := s
 show wpAny _ _ (field (.ref e) 2 >>= _) _ _ _
 refine wpAny_bind (wpAny_field he rfl (x := .ref it) rfl ?_)
 refine wpAny_bind (nextOf_item hit hl hx fun h1 hit1 s1 => ?_)
 replace s1 : Heap.SameBut it hp h1 := s1
 have he1 : EnOut h1 e it T f i old := (s1.2 e hne).trans he
 show wpAny _ _ (field (.ref e) 3 >>= _) _ _ ⟨h1, g, d, tk0, os⟩
 refine wpAny_bind (wpAny_field he1 rfl (x := rawInt i) rfl ?_)
 show wpAny _ _ (field (.ref e) 4 >>= _) _ _ ⟨h1, g, d, tk0, os⟩
 refine wpAny_bind (wpAny_field he1 rfl (x := .none) rfl ?_)
 show wpAny _ _ (mkInt i >>= _) _ _ ⟨h1, g, d, tk0, os⟩
 refine wpAny_bind (wpAny_mkInt ?_)
 show wpAny _ _ (setField (.ref e) 3 (rawInt ((i : Int) + 1)) >>= _) _ _ ⟨h1, g, d, tk0 + 1, os⟩
 refine wpAny_bind (wpAny_setField_rec he1 (by simp) fun h2 he2 s2 => ?_)
 replace s2 : Heap.SameBut e h1 h2 := s2
 replace he2 : EnOut h2 e it T f ((i : Int) + 1) old := he2
 show wpAny _ _ (setField (.ref e) 4 .none >>= _) _ _ ⟨h2, g, d, tk0 + 1, os⟩
 refine wpAny_bind (wpAny_setField_rec he2 (by simp) fun h3 he3 s3 => ?_)
 replace s3 : Heap.SameBut e h2 h3 := s3
 replace he3 : EnOut h3 e it T f ((i : Int) + 1) old := he3
 show wpAny _ _ (newTuple [.int i tk0, x] >>= _) _ _ ⟨h3, g, d, tk0 + 1, os⟩
 refine wpAny_bind (wpAny_newTuple ?_)
 have hsz : h3.objs.size = hp.objs.size := by rw [s3.1, s2.1, s1.1]
 have hel : e < hp.objs.size := Heap.lt_size he
 have he4 : EnOut (h3.push { cls := .type "tuple", data := .seq #[.int i tk0, x] }) e it T f ((i : Int) + 1) old := gps _ he3
 have ht4 : (h3.push { cls := .type "tuple", data := .seq #[.int i tk0, x] }).get? hp.objs.size = some { cls := .type "tuple", data := .seq #[.int i tk0, x] } := by rw [← hsz]; exact Heap.get?_push_size _ rfl
 have hz4 : (h3.push { cls := .type "tuple", data := .seq #[.int i tk0, x] }).objs.size = hp.objs.size + 1 := by rw [Heap.size_push, hsz]
 have hk4 : ∀ b o, b ≠ e → b ≠ it → hp.get? b = some o → (h3.push { cls := .type "tuple", data := .seq #[.int i tk0, x] }).get? b = some o := fun b o hbe hbi hb =>
  gps _ (s3.extBut b o hbe (s2.extBut b o hbe (s1.extBut b o hbi hb)))
 have hit4 : ItAt k (h3.push { cls := .type "tuple", data := .seq #[.int i tk0, x] }) it a (i + 1) := ((hit1.ext s2.extBut hne.symm).ext s3.extBut hne.symm).at fun o y => gps _ y
 show wpAny _ _ (Builtin.SmallTypes.ownedTupleIsFree (.ref e) >>= _) _ _ ⟨_, g, d, tk0 + 1, os⟩
 rw [hsz]
 revert he4 ht4 hz4 hk4 hit4
 generalize h3.push { cls := .type "tuple", data := .seq #[.int i tk0, x] } = h4
 intro he4 ht4 hz4 hk4 hit4
 obtain ⟨oT, hoT⟩ := hT
 have hT4 : h4.get? T = some oT := hk4 _ _ hTe hTi hoT
 refine wpAny_bind ?_
 unfold Builtin.SmallTypes.ownedTupleIsFree
 refine wpAny_bind (wpAny_field he4 rfl (x := rawInt T) rfl ?_)
 show wpAny _ _ (loadIfAlive ((T : Int).toNat) >>= _) _ _ _
 rw [Int.toNat_natCast]
 refine wpAny_bind (kdx_alive hT4 ?_)
 simp only [Option.isNone_some, Bool.false_eq_true, if_false]
 refine wpAny_bind (wpAny_field he4 rfl (x := .bool f) rfl ?_)
 cases f with
 | true =>
  rw [if_neg (show ¬ ((Value.bool true != Value.bool true) = true) from Bool.false_ne_true)]
  refine wpAny_pure ?_
  simp only [Bool.false_eq_true, if_false]
  exact wpAny_pure ⟨_, rfl, wpAny_pure (hQ h4 tk0 he4 hit4 ht4 hz4 hk4)⟩
 | false =>
  rw [if_pos (show (Value.bool false != Value.bool true) = true from rfl)]
  refine wpAny_bind (wpAny_setField_rec he4 (by simp) fun h5 he5 s5 => ?_)
  replace s5 : Heap.SameBut e h4 h5 := s5
  replace he5 : EnOut h5 e it T true ((i : Int) + 1) old := he5
  refine wpAny_pure ?_
  simp only [Bool.false_eq_true, if_false]
  exact wpAny_pure ⟨_, rfl, wpAny_pure (hQ h5 tk0 he5 (hit4.ext s5.extBut hne.symm) (s5.extBut _ _ (Nat.ne_of_gt hel) ht4) (by rw [s5.1]; exact hz4) fun b o hbe hbi hb => s5.extBut b o hbe (hk4 b o hbe hbi hb))⟩
theorem enOut_end {k : Bool} {e it a T : Addr} {f : Bool} {i : Nat} {xs : Array Value} {old : Value} {Q : Option Value → Shared → Prop} (hh : A.handled = none) (he : EnOut s.heap e it T f i old) (hit : ItAt k s.heap it a i) (hl : SqAt k s.heap a xs) (hx : xs[i]? = none)
  (hQ : ∀ h', Heap.ExtBut it s.heap h' → Q none { s with heap := h' }) : wpAny (model prog w) A (pyNext (.ref e)) Q E s := by
 have hTy : s.TypeIs (.ref e) "enumerate" := ⟨_, he, rfl⟩
 unfold pyNext
 refine wpAny_bind (wpAny_attempt (wpAny_callSpecial?_slot (name := Str.ofString "__next__") hTy F.slot_enumerate_next (wpAny_call_entry F.slot_enumerate_next hTy F.entry_enumerate_next ?_ (F.args_enumerate_next_1 _))))
 show wpAny _ _ (field (.ref e) 2 >>= _) _ _ _
 refine wpAny_bind (wpAny_field he rfl (x := .ref it) rfl ?_)
 refine wpAny_bind (nextOf_end hh hit hl hx fun h' x he' hx' => ?_)
 obtain ⟨o, ho, hc⟩ := hx'
 refine wpAny_bind (wpAny_isInstance (T := "StopIteration") (b := true) ⟨o, ho, hc⟩ isSubtype_stop ?_)
 exact wpAny_pure (hQ _ he')
theorem en_item {k : Bool} {e it a : Addr} {i : Nat} {xs : Array Value} {x : Value} {Q : Option Value → Shared → Prop} (hh : A.handled = none) (he : EnSt s.heap e it i) (hit : ItAt k s.heap it a i) (hl : SqAt k s.heap a xs) (hx : xs[i]? = some x) (hne : e ≠ it) (hae : a ≠ e) (hai : a ≠ it)
  (hQ : ∀ h' t tk, EnSt h' e it (i + 1) → ItAt k h' it a (i + 1) → h'.get? s.heap.objs.size = some { cls := .type "tuple", data := .seq #[.int i t, x] } → h'.objs.size = s.heap.objs.size + 1 →
   (∀ b o, b ≠ e → b ≠ it → s.heap.get? b = some o → h'.get? b = some o) → Q (some (.ref s.heap.objs.size)) { s with heap := h', toks := tk }) :
  wpAny (model prog w) A (pyNext (.ref e)) Q E s := by
 rcases he with ⟨old, he⟩ | ⟨T, f, y, he, hT, hTe, hTi⟩
 ·have hi : i < xs.size := (Array.getElem?_eq_some_iff.mp hx).1
  refine wpAny_pyNext_enum_itemD (draws_sq (A := A.in1) (k := k) hh it a hai xs) he ⟨hit, hl⟩ hi hne (by intro q; rcases List.mem_cons.mp q with q | q; exact hne q; exact hae (List.mem_singleton.mp q).symm) fun x' h' tk hp he' st' ht hz hk => ?_
  have hx' : x' = x := by
   have : xs[i]? = some x' := hp
   rw [hx] at this
   obtain rfl := sI this; rfl
  subst hx'
  exact hQ h' tk _ (.inr ⟨_, _, _, he', ⟨_, ht⟩, Nat.ne_of_gt (Heap.lt_size he), by obtain ⟨_, z⟩ := hit.live; exact Nat.ne_of_gt (Heap.lt_size z)⟩) st'.1 ht hz hk
 ·exact enOut_item he hT hTe hTi hit hl hx hne fun h' tk he' hit' ht hz hk => hQ h' tk _ (.inr ⟨T, _, _, he', by obtain ⟨o, ho⟩ := hT; exact ⟨o, hk _ _ hTe hTi ho⟩, hTe, hTi⟩) hit' ht hz hk
theorem en_end {k : Bool} {e it a : Addr} {i : Nat} {xs : Array Value} {Q : Option Value → Shared → Prop} (hh : A.handled = none) (he : EnSt s.heap e it i) (hit : ItAt k s.heap it a i) (hl : SqAt k s.heap a xs) (hi : i = xs.size) (hai : a ≠ it)
  (hQ : ∀ h', Heap.ExtBut it s.heap h' → Q none { s with heap := h' }) : wpAny (model prog w) A (pyNext (.ref e)) Q E s := by
 subst hi
 rcases he with ⟨old, he⟩ | ⟨T, f, y, he, _⟩
 ·exact wpAny_pyNext_enum_endD (draws_sq (A := A.in1) (k := k) hh it a hai xs) he ⟨hit, hl⟩ hQ
 ·exact enOut_end hh he hit hl (by simp) hQ
inductive GathAt (h : Heap) (xs acc : Array Value) (e it S : Addr) (j : Nat) : Prop
 | mk (T : Addr) (t : Tok) (x : Value) (g1 : acc[j]? = some (.ref T)) (g2 : xs[j]? = some x) (g3 : h.get? T = some { cls := .type "tuple", data := .seq #[.int j t, x] }) (g4 : T ≠ e) (g5 : T ≠ it) (g6 : S < T)
noncomputable def Gath (h : Heap) (xs acc : Array Value) (i : Nat) (e it S : Addr) : Prop := acc.size = i ∧ ∀ j, j < i → GathAt h xs acc e it S j
theorem en_loop {k : Bool} {e it a S : Addr} {xs : Array Value} {res : Value} {R : Result → Shared → Prop} (hh : A.handled = none) (hne : e ≠ it) (hae : a ≠ e) (hai : a ≠ it) (hSe : S ≠ e) (hSi : S ≠ it) (hSa : S ≠ a) (hn : xs.size ≤ 10000) :
  ∀ (m i : Nat) (s : Shared) (acc : Array Value) (c : Nat), xs.size - i = m → i ≤ xs.size → EnSt s.heap e it i → ItAt k s.heap it a i → SqAt k s.heap a xs → s.heap.get? S = some { cls := .type "list", dict := none, data := .seq acc c, slots := #[] } → Gath s.heap xs acc i e it S →
  (∀ h' tk acc' c', h'.get? S = some { cls := .type "list", dict := none, data := .seq acc' c', slots := #[] } → Gath h' xs acc' xs.size e it S → (∀ b o, b ≠ e → b ≠ it → b ≠ S → s.heap.get? b = some o → h'.get? b = some o) → R (.ok (.ret res)) { s with heap := h', toks := tk }) →
  codeAny (model prog w) A (.builtin "list.extend.loop" ⟨[.ref S, .ref e, res], []⟩) R s := by
 intro m
 induction m with
 | zero =>
  intro i s acc c hm hi he hit hl hS hg hR
  have hin : i = xs.size := by omega
  refine codeAny_builtin F.entry_extend_loop ?_
  rw [Around.under_plainId F.plain_extend_loop _]
  show wpAny _ A.in1 (pyNext (.ref e) >>= _) _ _ s
  refine wpAny_bind (en_end (A := A.in1) hh he hit hl hin hai fun h' hk => ?_)
  subst hin
  refine wpAny_pure (hR h' s.toks acc c (hk _ _ hSi hS) ⟨hg.1, fun j hj => ?_⟩ fun b o z_ hb z_ z => hk b o hb z)
  obtain ⟨T, t, x, g1, g2, g3, g4, g5, g6⟩ := hg.2 j hj
  exact ⟨T, t, x, g1, g2, hk _ _ g5 g3, g4, g5, g6⟩
 | succ m ih =>
  intro i s acc c hm hi he hit hl hS hg hR
  have hlt : i < xs.size := by omega
  refine codeAny_builtin F.entry_extend_loop ?_
  rw [Around.under_plainId F.plain_extend_loop _]
  show wpAny _ A.in1 (pyNext (.ref e) >>= _) _ _ s
  refine wpAny_bind (en_item (A := A.in1) hh he hit hl (Array.getElem?_eq_getElem hlt) hne hae hai fun h' t tk he' hit' hT hz hk => ?_)
  have hS' := hk _ _ hSe hSi hS
  have hl' : SqAt k h' a xs := hl.at fun o z => hk _ _ hae hai z
  show wpAny _ A.in1 (updateSeq S (·.push (.ref s.heap.objs.size)) >>= _) _ _ _
  refine wpAny_bind ?_
  have oth : ∀ b o, b ≠ S → h'.get? b = some o → (h'.update S (Obj.mapSeq (·.push (.ref s.heap.objs.size)))).get? b = some o := fun b o hb z => (Heap.get?_update_other _ _ (Ne.symm hb)).trans z
  have hnS : s.heap.objs.size ≠ S := Nat.ne_of_gt (Heap.lt_size hS)
  have hne' : s.heap.objs.size ≠ e := by obtain ⟨_, z⟩ := he.live; exact Nat.ne_of_gt (Heap.lt_size z)
  have hni' : s.heap.objs.size ≠ it := by obtain ⟨_, z⟩ := hit.live; exact Nat.ne_of_gt (Heap.lt_size z)
  have he2 : EnSt (h'.update S (Obj.mapSeq (·.push (.ref s.heap.objs.size)))) e it (i + 1) := by
   rcases he' with ⟨old, x⟩ | ⟨T, f, y, x, ⟨o, ho⟩, z⟩
   ·exact .inl ⟨old, oth _ _ hSe.symm x⟩
   ·refine .inr ⟨T, f, y, oth _ _ hSe.symm x, ?_, z⟩
    by_cases q : T = S
    ·rw [q]; exact ⟨_, Heap.get?_update_self _ hS' rfl⟩
    ·exact ⟨o, oth _ _ q ho⟩
  refine wpAny_updateSeq hS' rfl (wpAny_pure ⟨plainId_quiet F.plain_extend_loop _, ih (i + 1) _ (acc.push (.ref s.heap.objs.size)) _ (by omega) hlt he2 (hit'.at fun o z => oth _ _ hSi.symm z) (hl'.at fun o z => oth _ _ hSa.symm z) (Heap.get?_update_self _ hS' rfl) ⟨by rw [Array.size_push, hg.1], fun j hj => ?_⟩ fun h2 tk2 acc2 c2 g1 g2 g3 => ?_⟩)
   (by rw [hg.1]; exact Nat.le_trans (Nat.le_of_lt hlt) (Nat.le_trans hn (by decide))) (by show (acc.push _).size ≤ sizeLine + 1; rw [Array.size_push, hg.1]; exact Nat.succ_le_succ (Nat.le_trans (Nat.le_of_lt hlt) (Nat.le_trans hn (by decide))))
  ·rcases Nat.lt_or_ge j i with hji | hji
   ·obtain ⟨T, t', x, g1, g2, g3, g4, g5, g6⟩ := hg.2 j hji
    exact ⟨T, t', x, by rw [Array.getElem?_push, if_neg (by rw [hg.1]; omega)]; exact g1, g2, oth _ _ (Nat.ne_of_gt g6) (hk _ _ g4 g5 g3), g4, g5, g6⟩
   ·have : j = i := by omega
    subst this
    exact ⟨s.heap.objs.size, t, _, by rw [Array.getElem?_push, if_pos (by rw [hg.1])], Array.getElem?_eq_getElem hlt, oth _ _ hnS hT, hne', hni', Heap.lt_size hS⟩
  ·exact hR h2 tk2 acc2 c2 g1 g2 fun b o b1 b2 b3 z => g3 b o b1 b2 b3 (oth _ _ b3 (hk b o b1 b2 z))
end
theorem en_no_len : typeLookup (.type "enumerate") "__len__" = pure none := by rw [typeLookup_type, builtinLookup_eq_fast]; kernel_rfl
theorem en_no_hint : typeLookup (.type "enumerate") "__length_hint__" = pure none := by rw [typeLookup_type, builtinLookup_eq_fast]; kernel_rfl
section
variable {w : World}
theorem en_iter {e : Addr} {Q : VP} (hT : s.TypeIs (.ref e) "enumerate") (h : Q (.ref e) s) : wpAny (model prog w) A (pyIter (.ref e)) Q E s := by
 refine wpAny_pyIter_slot hT F.slot_enumerate_iter (wpAny_call_entry F.slot_enumerate_iter hT F.entry_enumerate_iter ?_ (F.args_enumerate_iter_1 _))
 show wpAny _ _ (ret (.ref e)) _ _ s
 exact wpAny_pure ⟨_, rfl, "enumerate", _, hT, F.slot_enumerate_next.lookup, h⟩
set_option maxHeartbeats 1000000 in
theorem en_collect {k : Bool} {e it a : Addr} {xs : Array Value} {Q : List Value → Shared → Prop} (hh : A.handled = none) (hne : e ≠ it) (hae : a ≠ e) (hai : a ≠ it) (hn : xs.size ≤ 10000) (he : EnSt s.heap e it 0) (hit : ItAt k s.heap it a 0) (hl : SqAt k s.heap a xs)
  (hQ : ∀ h' tk acc, Gath h' xs acc xs.size e it s.heap.objs.size → (∀ b o, b ≠ e → b ≠ it → s.heap.get? b = some o → h'.get? b = some o) → Q acc.toList { s with heap := h', toks := tk }) : wpAny (model prog w) A (collect (.ref e)) Q E s := by
 have lt : ∀ {c o}, s.heap.get? c = some o → s.heap.objs.size ≠ c := fun z => Nat.ne_of_gt (Heap.lt_size z)
 have hSe : s.heap.objs.size ≠ e := by obtain ⟨_, z⟩ := he.live; exact lt z
 have hSi : s.heap.objs.size ≠ it := by obtain ⟨_, z⟩ := hit.live; exact lt z
 have hSa : s.heap.objs.size ≠ a := by obtain ⟨_, z⟩ := hl.live; exact lt z
 unfold collect
 refine wpAny_bind (wpAny_runValue (codeAny_builtin F.entry_proto_collect ?_))
 rw [Around.under_plainId F.plain_proto_collect _]
 show wpAny _ A.in1 (newList [] >>= fun l => again (.builtin "list.__iadd__" ⟨[l, .ref e], []⟩)) _ _ s
 refine wpAny_bind (wpAny_newObj_type ?_)
 refine wpAny_pure ⟨plainId_quiet F.plain_list_iadd _, codeAny_builtin F.entry_list_iadd ?_⟩
 rw [Around.under_plainId F.plain_list_iadd _]
 have kp : ∀ b o, s.heap.get? b = some o → (s.heap.push { cls := .type "list", data := .seq ([] : List Value).toArray }).get? b = some o := fun b o z => gps _ z
 have he1 : EnSt (s.heap.push { cls := .type "list", data := .seq ([] : List Value).toArray }) e it 0 := he.keep kp
 have hT1 : ({ s with heap := s.heap.push { cls := .type "list", data := .seq ([] : List Value).toArray } } : Shared).TypeIs (.ref e) "enumerate" := EnSt.typeIs (s := { s with heap := _ }) he1
 show wpAny _ A.in1 (Builtin.List.listExtendWith (.ref s.heap.objs.size) (.ref e) (.ref s.heap.objs.size)) _ _ _
 unfold Builtin.List.listExtendWith
 refine wpAny_bind (wpAny_typeOf hT1 ?_)
 have h1 : Builtin.List.listSameRef (.ref s.heap.objs.size) (.ref e) = false := by simp [Builtin.List.listSameRef, hSe]
 have h2 : (Value.type "enumerate" == Value.type "list") = false := by decide
 have h3 : (Value.type "enumerate" == Value.type "tuple") = false := by decide
 simp only [h1, h2, h3, Bool.or_false, Bool.false_eq_true, if_false]
 refine wpAny_bind ?_
 refine en_iter hT1 ?_
 refine wpAny_bind (wpAny_holding ?_)
 unfold Builtin.List.listLengthHint
 refine wpAny_bind (wpAny_specialOf hT1 en_no_len ?_)
 show wpAny _ A.in1 (specialOf (Value.ref e) (Str.ofString "__length_hint__") >>= _) _ _ _
 refine wpAny_bind (wpAny_specialOf hT1 en_no_hint ?_)
 refine wpAny_pure ?_
 show wpAny _ A.in1 (rule "list.extend.makes-room" >>= fun z_ => Builtin.List.listTouch (.ref s.heap.objs.size) >>= fun z_ => again (.builtin "list.extend.loop" ⟨[.ref s.heap.objs.size, .ref e, .ref s.heap.objs.size], []⟩)) _ _ _
 refine wpAny_bind (wpAny_rule ?_)
 have hS1 : (s.heap.push { cls := .type "list", data := .seq ([] : List Value).toArray }).get? s.heap.objs.size = some { cls := .type "list", data := .seq ([] : List Value).toArray } := Heap.get?_push_size _ rfl
 refine wpAny_bind ?_
 show wpAny _ A.in1 (updateSeq s.heap.objs.size (·.push .none) >>= fun z_ => updateSeq s.heap.objs.size (·.pop)) _ _ _
 refine wpAny_bind (wpAny_updateSeq hS1 rfl ?_)
 have hS2 := Heap.get?_update_self (Obj.mapSeq (·.push Value.none)) hS1 rfl
 refine wpAny_updateSeq hS2 rfl ?_
 have hS3 := Heap.get?_update_self (Obj.mapSeq (·.pop)) hS2 rfl
 have oth : ∀ b o, b ≠ s.heap.objs.size → (s.heap.push { cls := .type "list", data := .seq ([] : List Value).toArray }).get? b = some o →
   (((s.heap.push { cls := .type "list", data := .seq ([] : List Value).toArray }).update s.heap.objs.size (Obj.mapSeq (·.push Value.none))).update s.heap.objs.size (Obj.mapSeq (·.pop))).get? b = some o :=
  fun b o hb z => (Heap.get?_update_other _ _ (Ne.symm hb)).trans ((Heap.get?_update_other _ _ (Ne.symm hb)).trans z)
 have all : ∀ b o, s.heap.get? b = some o → (((s.heap.push { cls := .type "list", data := .seq ([] : List Value).toArray }).update s.heap.objs.size (Obj.mapSeq (·.push Value.none))).update s.heap.objs.size (Obj.mapSeq (·.pop))).get? b = some o :=
  fun b o z => oth b o (Ne.symm (lt z)) (kp b o z)
 have hS4 : ∃ c0, (((s.heap.push { cls := .type "list", data := .seq ([] : List Value).toArray }).update s.heap.objs.size (Obj.mapSeq (·.push Value.none))).update s.heap.objs.size (Obj.mapSeq (·.pop))).get? s.heap.objs.size = some { cls := .type "list", dict := none, data := .seq #[] c0, slots := #[] } := ⟨_, hS3⟩
 clear hS3 oth hS2 hS1 hT1 he1 kp
 revert hS4 all
 generalize ((s.heap.push { cls := .type "list", data := .seq ([] : List Value).toArray }).update s.heap.objs.size (Obj.mapSeq (·.push Value.none))).update s.heap.objs.size (Obj.mapSeq (·.pop)) = h3
 rintro all ⟨c0, hS4⟩
 refine wpAny_pure ⟨plainId_quiet F.plain_extend_loop _, ?_⟩
 refine en_loop (k := k) (A := A) hh hne hae hai hSe hSi hSa hn xs.size 0 { s with heap := h3 } #[] c0 (Nat.sub_zero _) (Nat.zero_le _) (he.keep all) (hit.at fun o z => all _ _ z) (hl.at fun o z => all _ _ z) hS4 ⟨rfl, fun j hj => absurd hj (Nat.not_lt_zero _)⟩ fun h' tk acc' c' hS' hg hk => ?_
 show wpAny _ A (load s.heap.objs.size >>= _) _ _ _
 refine wpAny_bind (wpAny_load hS' ?_)
 exact wpAny_pure (hQ h' tk acc' hg fun b o b1 b2 z => hk b o b1 b2 (Ne.symm (lt z)) (all _ _ z))
theorem tuple_new_en {k : Bool} {e it a : Addr} {xs : Array Value} {Q₁ : VP} (hh : A.handled = none) (hne : e ≠ it) (hae : a ≠ e) (hai : a ≠ it) (hn : xs.size ≤ 10000) (he : EnSt s.heap e it 0) (hit : ItAt k s.heap it a 0) (hl : SqAt k s.heap a xs)
  (h : ∀ h' tk acc, Gath h' xs acc xs.size e it s.heap.objs.size → (∀ b o, b ≠ e → b ≠ it → s.heap.get? b = some o → h'.get? b = some o) → Q₁ (.ref h'.objs.size) { s with heap := h'.push { cls := .type "tuple", data := .seq acc }, toks := tk }) :
  codeAny (model prog w) A (.call (.builtin "tuple.__new__") ⟨[.type "tuple", .ref e], []⟩) (wants Q₁ E) s := by
 refine codeAny_of_tree ?_
 show wpAny _ A.in1 (do checkBuiltinCall "tuple.__new__" ⟨[.type "tuple", .ref e], []⟩; again (.builtin "tuple.__new__" ⟨[.type "tuple", .ref e], []⟩)) _ _ s
 refine wpAny_bind (wpAny_of_eq (F.newCall_tuple_1 _) (wpAny_pure ⟨plainId_quiet F.plain_tuple_new _, codeAny_builtin F.entry_tuple_new ?_⟩))
 rw [Around.under_plainId F.plain_tuple_new _]
 have hsub := sub_tuple_self
 have hinit := init_tuple_lookup
 have hmh := madeHere_tuple
 have hTI : s.TypeIs (.ref e) "enumerate" := he.typeIs
 wp_walk using wpAny_typeOf hTI, en_collect (A := A.in1) (k := k) hh hne hae hai hn he hit hl
 intro h' tk acc hg hk
 show wpAny _ _ (Builtin.Tuple.tupleExact acc.toList.toArray >>= fun v => ret v) _ _ _
 unfold Builtin.Tuple.tupleExact
 refine wpAny_bind (wpAny_newObj_type ?_ (by show acc.toList.toArray.size ≤ sizeLine; simp only [Array.toArray_toList]; rw [hg.1]; exact Nat.le_trans hn (by decide)))
 refine wpAny_pure ?_
 have z : acc.toList.toArray = acc := by simp
 rw [z]
 exact h h' tk acc hg hk
theorem call_tuple_en {k : Bool} {e it a : Addr} {xs : Array Value} {Q : VP} (hh : A.handled = none) (hne : e ≠ it) (hae : a ≠ e) (hai : a ≠ it) (hn : xs.size ≤ 10000) (he : EnSt s.heap e it 0) (hit : ItAt k s.heap it a 0) (hl : SqAt k s.heap a xs)
  (hQ : ∀ h' tk acc, Gath h' xs acc xs.size e it s.heap.objs.size → (∀ b o, b ≠ e → b ≠ it → s.heap.get? b = some o → h'.get? b = some o) → Q (.ref h'.objs.size) { s with heap := h'.push { cls := .type "tuple", data := .seq acc }, toks := tk }) :
  wpAny (model prog w) A (call (.type "tuple") [.ref e]) Q E s := by
 refine callType_codes (Q₁ := fun obj s₁ => s₁.TypeIs obj "tuple" ∧ Q obj s₁) F.called_tuple (F.typeCall_tuple_1 _) F.entry_object_init
  (tuple_new_en (A := A.in1) (k := k) hh hne hae hai hn he hit hl fun h' tk acc hg hk => ⟨⟨_, Heap.get?_push_size _ rfl, rfl⟩, hQ h' tk acc hg hk⟩) fun obj s₁ h₁ => ?_
 exact ⟨h₁.1, F.args_object_init_2 obj _, object_init_meets F.called_tuple.init.lookup F.called_tuple.made (by decide) prog w A.in1 _ s₁ ⟨h₁.1, rfl, h₁.2⟩⟩
end
theorem e_cs {t k : Nat} {pos : Pos} (O : Ok cf P b A n stk fL en env s w σ) {M : Model} : Tr cf P b M A fL (eval (.Constant (.str (strOf t)) k pos) env) s w (.ok (.str t) σ) := fun z_ z_ f =>
 Constant_str (Fin.ok f O.st (.refl _ _) O.lv (.str _ _))
theorem e_ci {i : Int} {k : Nat} {pos : Pos} (O : Ok cf P b A n stk fL en env s w σ) {M : Model} : Tr cf P b M A fL (eval (.Constant (.int i) k pos) env) s w (.ok (.int i) σ) := fun z_ z_ f =>
 wpAny_Constant_int (Fin.ok f O.st (.refl _ _) O.lv (.int _ _))
theorem e_cb {i : Bool} {k : Nat} {pos : Pos} (O : Ok cf P b A n stk fL en env s w σ) {M : Model} : Tr cf P b M A fL (eval (.Constant (.bool i) k pos) env) s w (.ok (.bool i) σ) := fun z_ z_ f =>
 wpAny_Constant_bool (Fin.ok f O.st (.refl _ _) O.lv (.bool _))
theorem e_cn {k : Nat} {pos : Pos} (O : Ok cf P b A n stk fL en env s w σ) {M : Model} : Tr cf P b M A fL (eval (.Constant .none k pos) env) s w (.ok .none σ) := fun z_ z_ f =>
 wpAny_Constant_none (Fin.ok f O.st (.refl _ _) O.lv .none)
theorem e_cy {l : List Nat} {k : Nat} {pos : Pos} (hl : ∀ c ∈ l, c < 256) (O : Ok cf P b A n stk fL en env s w σ) {M : Model} : Tr cf P b M A fL (eval (.Constant (.bytes (l.map UInt8.ofNat)) k pos) env) s w (.ok (.bytes l) σ) := fun z_ z_ f =>
 Constant_bytes (Fin.ok f O.st (.refl _ _) O.lv (.bytes _ _ hl))
theorem sole_inv {vs : List V} {vals : List Value} {v : V} (e : sole vs = some v) (d : DenLW cf P b w vs vals) : ∃ val, vals = [val] ∧ DenW cf P b w v val := by
 rw [sole_eq e] at d
 obtain ⟨val, _, h, d1, d2⟩ := d.cons_inv
 rw [d2.nil_inv] at h
 exact ⟨val, h, d1⟩
theorem pair_inv {vs : List V} {vals : List Value} {q : V × V} (e : pair vs = some q) (d : DenLW cf P b w vs vals) : ∃ v1 v2, vals = [v1, v2] ∧ DenW cf P b w q.1 v1 ∧ DenW cf P b w q.2 v2 := by
 match vs, e with
 | [_, _], e =>
  obtain rfl := sI e
  obtain ⟨v1, _, h, d1, d2⟩ := d.cons_inv
  obtain ⟨v2, _, h2, d2, d3⟩ := d2.cons_inv
  rw [h2, d3.nil_inv] at h
  exact ⟨v1, v2, h, d1, d2⟩
 | [], e => exact noS e
 | [_], e => exact noS e
 | _ :: _ :: _ :: _, e => exact noS e
theorem seq_int {val : Value} {xs : List V} {Q E : VP} (S : St cf b s.heap w) (L : Live cf wd.params b w σ) {x : V} (d : DenW cf wd.params b w x val) (e : seqOf σ x = some xs) (hz : xs.length ≤ 10000) (f : Fin cf wd.params b fL s w (.ok (.int xs.length) σ) Q E) : wpAny (model prog wd) A (call (.builtin "len") [val]) Q E s := by
 obtain ⟨a, vs, k, rfl, h1, h2⟩ := seqOf_at S L d e
 rw [← h2.length] at hz f
 have lt : ((vs.toArray.size : Nat) : Int) < 2 ^ 63 := Int.lt_of_le_of_lt (Int.ofNat_le.mpr hz) (by decide)
 rcases h1 with h1 | h1
 ·exact call_len_list ⟨_, h1, rfl, _, rfl⟩ lt (Fin.ok f S (.refl _ _) L (.int _ _))
 ·exact len_tuple ⟨_, h1, rfl, _, rfl⟩ lt (Fin.ok f S (.refl _ _) L (.int _ _))
theorem isi_int {n : Int} {u : Tok} {v : V} {val : Value} {j : Nat} (d : DenW cf P b w v val) (e : isiT v = some j) {Q E : VP} (q : ∀ tk, Q (.bool (Nat.beq 0 j)) { s with toks := tk }) : wpAny (model prog wd) A (call (.builtin "isinstance") [.int n u, val]) Q E s := by
 cases v <;> try (exact noS e)
 ·cases b_1 <;> try (exact noS e)
  injection e with e; subst e; obtain rfl := d.inv; exact IsiPair.int_int (q s.toks)
 ·cases t <;> (injection e with e; subst e) <;> obtain rfl := d.inv
  ·exact IsiPair.int_bool (q _)
  ·exact IsiPair.int_bytes (q _)
theorem kit_by {K : Frag} : kitOne K (.type "bytes") (.type "int") = some false ∧ kitOne K (.type "bytes") (.type "bool") = some false ∧ kitOne K (.type "bytes") (.type "bytes") = some true := ⟨by kernel_rfl, by kernel_rfl, by kernel_rfl⟩
theorem isi_by {n : Array UInt8} {u : Tok} {v : V} {val : Value} {j : Nat} (X : K.In s.heap) (d : DenW cf P b w v val) (e : isiT v = some j) {Q E : VP} (q : ∀ tk, Q (.bool (Nat.beq 2 j)) { s with toks := tk }) : wpAny (model prog wd) A (call (.builtin "isinstance") [.bytes n u, val]) Q E s := by
 cases v <;> try (exact noS e)
 ·cases b_1 <;> try (exact noS e)
  injection e with e; subst e; obtain rfl := d.inv; exact kia_one kitx_bytes X trivial kit_by.1 (fun h => nomatch h) q
 ·cases t <;> (injection e with e; subst e) <;> obtain rfl := d.inv
  ·exact kia_one kitx_bytes X trivial kit_by.2.1 (fun h => nomatch h) q
  ·exact kia_one kitx_bytes X trivial kit_by.2.2 (fun h => nomatch h) q
theorem digit_text : ∀ k : Nat, k ≤ 9 → toString (k : Int) = (String.mk [Char.ofNat (48 + k)]) ∧ Str.ofString (toString (k : Int)) = strOf (48 + k) ∧ (k : Int).natAbs.log2 < 1920 := by decide +kernel
theorem call_blt (X : K.In s.heap) (hh : A.handled = none) (S : St cf b s.heap w) (L : Live cf wd.params b w σ) {x : B} {vs : List V} {vals : List Value} (d : DenLW cf wd.params b w vs vals) {Q E : VP} (f : Fin cf wd.params b fL s w (callB x vs σ) Q E) :
  wpAny (model prog wd) A (call (bval x) vals) Q E s := by
 cases x with
 | len =>
  obtain ⟨v, e, f⟩ := Fin.need f
  obtain ⟨xs, e2, f⟩ := f.need
  obtain ⟨hz, f⟩ := f.okIf
  obtain ⟨val, rfl, d1⟩ := sole_inv e d
  exact seq_int S L d1 e2 (nle hz) f
 | int =>
  obtain ⟨v, e, f⟩ := Fin.need f
  obtain ⟨val, rfl, d1⟩ := sole_inv e d
  rcases f.else_ with ⟨i, e0, f2⟩ | ⟨_, f2⟩
  ·rw [intV_eq e0] at d1
   obtain ⟨t, rfl⟩ := den_int d1
   exact call_int_int (Fin.ok f2 S (.refl _ _) L (.int _ _))
  ·obtain ⟨c, e0, f2⟩ := f2.need
   rw [boolV_eq e0] at d1
   obtain rfl := d1.inv
   exact call_int_bool (Fin.ok f2 S (.refl _ _) L (.int _ _))
 | max =>
  obtain ⟨q, e, f⟩ := Fin.need f
  obtain ⟨i, e1, f⟩ := f.need
  obtain ⟨j, e2, f⟩ := f.need
  obtain ⟨v1, v2, rfl, d1, d2⟩ := pair_inv e d
  rw [intV_eq e1] at d1
  rw [intV_eq e2] at d2
  obtain ⟨t1, rfl⟩ := den_int d1
  obtain ⟨t2, rfl⟩ := den_int d2
  refine max_two_ints hh fun h' tk hk => ?_
  by_cases h : i < j
  ·rw [if_pos h] at f ⊢; exact Fin.ok f (S.keeps hk) (.refl _ _) L (.int _ _)
  ·rw [if_neg h] at f ⊢; exact Fin.ok f (S.keeps hk) (.refl _ _) L (.int _ _)
 | min =>
  obtain ⟨q, e, f⟩ := Fin.need f
  obtain ⟨i, e1, f⟩ := f.need
  obtain ⟨j, e2, f⟩ := f.need
  obtain ⟨v1, v2, rfl, d1, d2⟩ := pair_inv e d
  rw [intV_eq e1] at d1
  rw [intV_eq e2] at d2
  obtain ⟨t1, rfl⟩ := den_int d1
  obtain ⟨t2, rfl⟩ := den_int d2
  refine min_two_ints hh fun h' tk hk => ?_
  by_cases h : j < i
  ·rw [if_pos h] at f ⊢; exact Fin.ok f (S.keeps hk) (.refl _ _) L (.int _ _)
  ·rw [if_neg h] at f ⊢; exact Fin.ok f (S.keeps hk) (.refl _ _) L (.int _ _)
 | tuple =>
  obtain ⟨v, e, f⟩ := Fin.need f
  obtain ⟨xs, e2, f⟩ := f.need
  obtain ⟨hz, f⟩ := f.okIf
  obtain ⟨val, rfl, d1⟩ := sole_inv e d
  obtain ⟨a, us, k, rfl, h1, h2⟩ := isLst_at S L d1 e2
  refine call_tuple_list ⟨_, h1, rfl, _, rfl⟩ (fun h' hk => ?_) (by rw [List.size_toArray, h2.length]; exact Nat.le_trans (nle hz) (by decide))
  exact Fin.ok f ((S.keeps hk).addF (fun z_ z_ e => gps _ e) (size_none _) (Heap.get?_push_size h' rfl)) ext_addF L.addF (.tup (n := 0) (.inl (.head _)) (DenLW.ext (own := []) h2 ext_addF))
 | list =>
  obtain ⟨v, e, f⟩ := Fin.need f
  obtain ⟨xs, e2, f⟩ := f.need
  obtain ⟨hz, f⟩ := f.okIf
  obtain ⟨val, rfl, d1⟩ := sole_inv e d
  rw [tupV_eq e2] at d1
  obtain ⟨a, us, k, rfl, h1, h2⟩ := den_tup d1
  refine call_list_seq a (.inr rfl) (S.at_ h1) rfl rfl (fun h' c' hk hg => ?_) (by rw [List.size_toArray, h2.length]; exact Nat.le_trans (nle hz) (by decide))
  exact Fin.ok f (S.addF hk (size_none _) hg) ext_addF L.addF (.lst (n := c') (.inl (.head _)) (DenLW.ext (own := []) h2 ext_addF))
 | isinst =>
  obtain ⟨q, e, f⟩ := Fin.need f
  obtain ⟨i, e1, f⟩ := f.need
  obtain ⟨j, e2, f⟩ := f.need
  obtain ⟨v1, v2, rfl, d1, d2⟩ := pair_inv e d
  have fin : ∀ tk, Q (.bool (Nat.beq (2 * i) j)) { s with toks := tk } := fun tk => Fin.ok f S (.refl _ _) L (.bool _)
  clear f e d
  revert d1
  cases h : q.1 <;> rw [h] at e1 <;> try (exact noS e1)
  ·obtain rfl := sI e1
   intro d1
   obtain ⟨t1, rfl⟩ := den_int d1
   exact isi_int d2 e2 fin
  ·obtain rfl := sI e1
   intro d1
   obtain ⟨t1, rfl, _⟩ := den_bytes d1
   exact isi_by X d2 e2 fin
 | str =>
  obtain ⟨v, e, f⟩ := Fin.need f
  obtain ⟨i, e1, f⟩ := f.need
  obtain ⟨k, e2, f⟩ := f.need
  obtain ⟨hz, f⟩ := f.okIf
  obtain ⟨val, rfl, d1⟩ := sole_inv e d
  rw [intV_eq e1, natI_eq e2] at d1
  obtain ⟨t, rfl⟩ := den_int d1
  obtain ⟨_, h2, h3⟩ := digit_text k (nle hz)
  refine PySem.P.str_of_int h3 ?_
  show Q (.str (Str.ofString (toString (k : Int))) s.toks) { s with toks := s.toks + 1 }
  rw [h2]
  exact Fin.ok f S (.refl _ _) L (.str _ _)
structure LamOk (cf : Cfg) (b : Heap) : Prop where
 hd : CodeHd b cf.codeA cf.tabA
 free : ∀ y ∈ cf.lamS.names, y.2 ≠ .free
 cell : ∀ y ∈ cf.lamS.names, y.2 ≠ .cell
 k : cf.lamS.kind = .function
 co : cf.lamS.isCoroutine = false
 gen : cf.lamS.isGenerator = false
 par : ∃ (as_ : List Arg) (x1 x2 x3 : Nat) (p1 p2 p3 : Pos) (kk : Nat), cf.lamP = { posonlyargs := [], args := as_, vararg := none, kwonlyargs := [], kw_defaults := [], kwarg := none, defaults := [] } ∧ as_.map (·.arg) = [strOf x1, strOf x2, strOf x3] ∧ [strOf x1, strOf x2, strOf x3].Nodup ∧
  cf.lamB = .Subscript (.Name (strOf x2) p1) (.Constant (.int 2) kk p2) p3 ∧ Nat.beq x2 dbgN = false ∧ ∀ x ∈ [x1, x2, x3], cf.lamS.names.lookup (strOf x) = some .local
section
variable {h h' : Heap}
theorem tab_off (S : St cf b h w) {p : Addr × Obj} (hp : p ∈ w.fz ∨ p ∈ w.xt ∨ p ∈ w.mu) : p.1 ≠ cf.tabA := fun e => by
 have e1 := S.nd
 simp only [Wd.all, List.map_append] at e1
 rw [List.nodup_append, List.nodup_append, List.nodup_append] at e1
 rcases hp with hp | hp | hp
 ·exact e1.2.2 _ (mmo hp) _ (List.mem_append_right _ (List.mem_append_right _ (.head _))) e
 ·exact e1.2.1.2.2 _ (mmo hp) _ (List.mem_append_right _ (.head _)) e
 ·exact e1.2.1.2.1.2.2 _ (mmo hp) _ (.head _) e
theorem St.tabNew (S : St cf b h w) {c : Addr} {oc : Obj} {tb : Array Value} (k : ∀ a o, a ≠ cf.tabA → h.get? a = some o → h'.get? a = some o) (ht : h'.get? cf.tabA = some (tabObj tb)) (hc : h'.get? c = some oc) (hn : h.get? c = none) (t : TabOk cf b ((c, oc) :: w.fz) tb) :
  St cf b h' { w with fz := (c, oc) :: w.fz, tb := tb } := by
 have hk : (Wd.all cf { w with fz := (c, oc) :: w.fz, tb := tb }).map (·.1) = c :: (w.all cf).map (·.1) := by
  simp only [Wd.all, List.map_append, List.map_cons, List.cons_append, List.map_nil]
 refine ⟨fun a o e => k a o (fun q => by rw [q, S.new _ mem_tab] at e; exact noS e) (S.stays a o e), fun p hp => ?_, fun p hp => ?_, S.nf, by rw [hk]; exact List.nodup_cons.mpr ⟨S.fresh hn, S.nd⟩, S.rho, S.rnd, t⟩
 ·rcases all_cases hp with hp | hp | hp | hp
  ·rcases List.mem_cons.mp hp with rfl | hp
   ·exact hc
   ·exact k _ _ (tab_off S (.inl hp)) (S.kn p (mem_fz hp))
  ·exact k _ _ (tab_off S (.inr (.inl hp))) (S.kn p (mem_xt hp))
  ·exact k _ _ (tab_off S (.inr (.inr hp))) (S.kn p (mem_mu hp))
  ·rw [hp]; exact ht
 ·rcases all_cases hp with hp | hp | hp | hp
  ·rcases List.mem_cons.mp hp with rfl | hp
   ·exact S.fresh_b hn
   ·exact S.new p (mem_fz hp)
  ·exact S.new p (mem_xt hp)
  ·exact S.new p (mem_mu hp)
  ·rw [hp]; exact S.new (cf.tabA, tabObj w.tb) mem_tab
theorem ext_fz {own : List Addr} {p : Addr × Obj} {tb : Array Value} : Ext own w { w with fz := p :: w.fz, tb := tb } :=
 ⟨fun z_ h => List.mem_cons_of_mem _ h, fun z_ h => h, fun p h z_ z_ => ⟨p.2, h, .refl _⟩, fun p h => mmo h, fun z_ z_ h => h, fun z_ z_ h => h⟩
theorem Live.fz_ {p : Addr × Obj} {tb : Array Value} (L : Live cf P b w σ) : Live cf P b { w with fz := p :: w.fz, tb := tb } σ :=
 ⟨L.len, fun j so e => let ⟨a, o, h1, h2, h3⟩ := L.at_ j so e; ⟨a, o, h1, h2, h3.ext (own := []) ext_fz⟩⟩
theorem closL_nil {env : SE} {l : List (Str × NameKind)} {acc : List (Str × Addr)} (h : ∀ y ∈ l, y.2 ≠ .free) : closL env l acc = acc := by
 induction l generalizing acc with
 | nil => rfl
 | cons y l ih =>
  rw [show closL env (y :: l) acc = _ from closL_cons (n := y.1) (k := y.2), if_neg (fun q => h y (.head _) (eq_of_beq q))]
  exact ih fun z hz => h z (.tail _ hz)
end
theorem e_lam (B : Bs cf K p loose mean mg mb wd.params b G) (LO : LamOk cf b) (O : Ok cf wd.params b A n stk fL en env s w σ) (hn : env.scope.names = cf.lamN) : Tr cf wd.params b (model prog wd) A fL (eval (.Lambda cf.lamP cf.lamB cf.lamS cf.lamPos) env) s w (.ok .lam σ) := fun Q E f => by
 obtain ⟨hcode, hq⟩ := O.eo.lamc hn
 obtain ⟨as_, _, _, _, _, _, _, _, hp, _⟩ := LO.par
 refine kla_eval (by rw [hp]; rfl) ?_
 rw [hq]
 have hcl : closureFor cf.lamS env = pure [] := by rw [clos_eq fun y hy hf => absurd hf (LO.free y hy), closL_nil LO.free]
 have hg := (B.T.keeps O.st.stays).g
 have C := LO.hd.keeps O.st.stays
 have hP := O.st.kn _ (mem_tab (cf := cf) (w := w))
 have bP : b.get? cf.tabA = none := O.st.new _ (mem_tab (w := w))
 obtain ⟨bm, ob, b1, b2, b3, b4, b5, b6⟩ := B.T.bmain
 have hgb : ∃ o es ep, b.get? mainGlobals = some o ∧ o.data = .dict es ep := by obtain ⟨o, es, ep, e, hd, _⟩ := B.T.g; exact ⟨o, es, ep, e, hd⟩
 obtain ⟨og, eg, epg, g1, g2⟩ := hgb
 have hgP : mainGlobals ≠ cf.tabA := fun q => by rw [q, bP] at g1; exact noS g1
 have hbP : bm ≠ cf.tabA := fun q => by rw [q, bP] at b3; exact noS b3
 have hbG : bm ≠ mainGlobals := fun q => by
  rw [q, g1] at b3; obtain rfl := sI b3; rw [g2] at b6; injection b6
 have BA : s.heap.BuiltinsAt mg cf.tabA := ⟨bm, ob, b1, b2, hbG, hbP, O.st.stays _ _ b3, b4, b5, b6⟩
 rcases O.st.tab with h | ⟨c, oc, vs, t, h1, h2, h3, h4⟩
 ·have hP : s.heap.get? cf.tabA = some (tabObj #[]) := h ▸ hP
  refine kla_makeFunction (mg := mg) hcl O.eo.g hg hcode C hP trivial rfl hgP BA fun c' ctv h' tk hx hge hlt hrec htb => ?_
  obtain ⟨c2, oc, vs, t, e2, hoc, hd, hv⟩ := hrec
  injection e2 with e2; subst e2
  have hcn : s.heap.get? c' = none := Heap.get?_none_of_le hge
  have S1 := O.st.tabNew (fun a o hne e => hx a o hne e) htb hoc hcn (.inr ⟨c', oc, vs, t, rfl, .inl (.head _), hd, hv⟩)
  have S2 := S1.addF (o := kla_obj "<lambda>" cf.lamQ cf.lamP cf.lamB cf.lamS [] ((mg "__name__").getD .none) c' ctv) (fun z_ z_ e => gps _ e) (size_none h') (Heap.get?_push_size h' rfl)
  exact Fin.ok f S2 (ext_fz.trans ext_addF) (O.lv.fz_).addF (.lam (.inl (.head _)) (.inl (.tail _ (.head _))) hd hv)
 ·rw [h1] at hP
  refine kla_makeFunctionHit (mg := mg) hcl O.eo.g hg hcode C hP trivial (show codeAmong cf.lamPos [rawInt cf.lamPos.line, rawInt cf.lamPos.col, .ref c] = some (.ref c) from codeAmong_snoc [] trivial rfl) BA fun ctv h' tk hk hsz => ?_
  have S2 := (O.st.keeps hk).addF (o := kla_obj "<lambda>" cf.lamQ cf.lamP cf.lamB cf.lamS [] ((mg "__name__").getD .none) c ctv) (fun z_ z_ e => gps _ e) (size_none h') (Heap.get?_push_size h' rfl)
  exact Fin.ok f S2 ext_addF O.lv.addF (.lam (.inl (.head _)) (h2.mono fun z_ q => .tail _ q) h3 h4)
theorem keep_fun {h : Heap} {a : Addr} {o : Obj} {fd : FuncData} {M : Model} (h1 : h.get? a = some o) (h2 : o.data = .func fd) : KeepAt M h (.ref a) :=
 ⟨.frame, .inl rfl, (Looks.ld (part := none) h1).andThen (by rw [h2]; exact .now)⟩
inductive LamR (cf : Cfg) (b : Heap) (w : Wd) (v : Value) : Prop
 | mk (a c : Addr) (pm ctv : Value) (oc : Obj) (vs : Array Value) (t : Tok) (e : v = .ref a) (h1 : At b w.fz a (kla_obj "<lambda>" cf.lamQ cf.lamP cf.lamB cf.lamS [] pm c ctv)) (h2 : At b w.fz c oc) (h3 : oc.data = .fields vs) (h4 : vs[1]? = some (.str cf.lamQ t))
theorem lam_inv {v : Value} (d : DenW cf P b w .lam v) : LamR cf b w v := by cases d with | lam h1 h2 h3 h4 => exact ⟨_, _, _, _, _, _, _, rfl, h1, h2, h3, h4⟩
theorem call_lam (B : Bs cf K p loose mean mg mb wd.params b G) (LO : LamOk cf b) (cx : Cx A (n + 1) stk fL) (S : St cf b s.heap w) (L : Live cf wd.params b w σ) {v z : V} {vs : List V} {u1 u2 x : V} {lv : Value} {vals : List Value} (d : DenW cf wd.params b w .lam lv) (dl : DenLW cf wd.params b w [v, .tup (u1 :: u2 :: x :: vs), z] vals)
  {Q E : VP} (f : Fin cf wd.params b fL s w (.ok x σ) Q E) : KeepAt (model prog wd) s.heap lv ∧ wpAny (model prog wd) A (call lv vals) Q E s := by
 obtain ⟨a, c, pm, ctv, oc, cv, t, rfl, h1, h2, h3, h4⟩ := lam_inv d
 obtain ⟨as_, x1, x2, x3, p1, p2, p3, kk, hp, ha, hnd, hb, hdb, hloc⟩ := LO.par
 obtain ⟨v1, _, rfl, d1, l1⟩ := dl.cons_inv
 obtain ⟨v2, _, rfl, d2, l2⟩ := l1.cons_inv
 obtain ⟨v3, _, rfl, d3, l3⟩ := l2.cons_inv
 obtain rfl := l3.nil_inv
 have g1 := S.at_ h1
 have g2 := S.at_ h2
 refine ⟨keep_fun g1 rfl, wpAny_call (kla_callFunE (by have := cx.dp; show A.depth < 1000; omega) g1 rfl LO.co LO.gen rfl ⟨c, oc, cv, t, rfl, g2, h3, h4⟩ ?_)⟩
 have hlen : as_.length = 3 := by rw [← List.length_map (f := Arg.arg), ha]; rfl
 have bind := bind_gen (s := s) (fd := kla_fn "<lambda>" cf.lamQ cf.lamP cf.lamB cf.lamS [] pm (.ref c) ctv) (vals := [v1, v2, v3]) (ds := []) hp (fun M A E Q hq => wpAny_pure (hq none rfl)) (by rw [ha]; exact hnd) (by rw [hlen]; exact Nat.le_refl 3) (by rw [hlen]; exact Nat.le_refl 3) (Nat.zero_le _)
 rw [ha] at bind
 refine bind _ _ _ _ (wpAny_newFunctionEnv LO.cell (fun q hq => ?_) (fun hh hns hsb => ⟨((B.T.nolimit).keeps S.stays).fresh _ hsb, kla_codeExpr ?_⟩) LO.k)
 ·have hm : q.1 ∈ [strOf x1, strOf x2, strOf x3] := (List.of_mem_zip (show (q.1, q.2) ∈ _ from hq)).1
  obtain ⟨y, hy, e⟩ := mmp (show q.1 ∈ [x1, x2, x3].map strOf from hm)
  rw [← e]; exact hloc y hy
 have hk : ∀ b o, s.heap.get? b = some o → hh.get? b = some o := fun b o e => hsb.extBut b o (Nat.ne_of_lt (Heap.lt_size e)) (gps _ e)
 have S1 := S.keeps hk
 show wpAny _ _ (eval cf.lamB _) _ _ _
 rw [hb]
 have hl2 : ((([strOf x1, strOf x2, strOf x3].zip [v1, v2, v3]).reverse).lookup (strOf x2)) = some v2 := by
  have n := hnd
  simp only [List.nodup_cons, List.mem_cons, not_or] at n
  show List.lookup (strOf x2) [(strOf x3, v3), (strOf x2, v2), (strOf x1, v1)] = some v2
  rw [List.lookup_cons, beq_eq_false_iff_ne.mpr n.2.1.1, List.lookup_cons, beq_self_eq_true]
 refine Subscript_ (wpAny_Name (wpAny_loadName_local LO.k (hloc x2 (.tail _ (.head _))) hns hl2 (wpAny_Constant_int ?_)) (notDbg hdb))
 exact sub_at (s := { s with heap := hh, toks := _ }) B.sysm S1 L d2 (.int 2 _) (z := x) rfl rfl fun k val dv => Fin.ok f S1 (.refl _ _) L dv
noncomputable def nInit : Nat := 6872339552563453791
structure ClsOk (cf : Cfg) (K : Frag) (G : Glob) (c : Nat) (C : Addr) : Prop where
 ia : cf.ia c = some C
 made : makesIn K C = true
 keep : keepIn K (.ref C) = true
 init : ∃ fI, cf.fa (mkM c nInit) = some fI ∧ findIn K (.ref C) "__init__" = some (some (.ref fI)) ∧ typeIn K (.ref fI) = some (.type "function")
theorem call_cls (X0 : K.In b) (CO : ∀ c C, cf.ca c = some C → (fnOf G (mkM c nInit) G.fns).isSome = true → ClsOk cf K G c C) (HF : SndCF cf wd.params b (model prog wd) n r) {c : Nat} {cv : Value} {vs : List V} {vals : List Value} (cx : Cx A (n + 1) stk fL) (so : StkOk stk w) (S : St cf b s.heap w) (L : Live cf wd.params b w σ)
  (d : DenW cf wd.params b w (.cls c) cv) (dl : DenLW cf wd.params b w vs vals) (hc : (fnOf G (mkM c nInit) G.fns).isSome = true) {Q E : VP}
  (f : Fin cf wd.params b fL s w ((r (.call (.fn (mkM c nInit)) (.obj c σ.length :: vs) (σ ++ [.dct []]))).bind fun v σ' => needO (noneV v) fun z_ => .ok (.obj c σ.length) σ') Q E) :
  KeepAt (model prog wd) s.heap cv ∧ wpAny (model prog wd) A (call cv vals) Q E s := by
 obtain ⟨C, rfl, hC⟩ := d.inv
 obtain ⟨ia, mk, keep, fI, h1, h2, h3⟩ := CO c C hC hc
 have X := X0.keeps S.stays
 refine ⟨keeps_K keep _ X, wpAny_call ?_⟩
 obtain ⟨hh, g, dr, tk, os⟩ := s
 refine make_core (makes_of X mk) (looks_findIn X h2) (fun self => bind_fn X self h3) (.inl rfl) ?_
 have k1 : ∀ a o, hh.get? a = some o → (hh.push emptyDict).get? a = some o := fun a o e => gps _ e
 have S1 := S.addL k1 (size_none hh) (Heap.get?_push_size hh (o := emptyDict) rfl) (fun z_ q => nomatch q)
 have E1 : Ext [] w { w with mu := (hh.objs.size, emptyDict) :: w.mu, rho := w.rho ++ [hh.objs.size] } := ext_addL S (size_none hh)
 have L1 := L.addL S (size_none hh) (o := emptyDict) (so := .dct []) ⟨[], 0, rfl, .nil⟩
 have hz : (hh.push emptyDict).objs.size = hh.objs.size + 1 := Heap.size_push ..
 have S2 := S1.addF (o := instObj C hh.objs.size) (fun z_ z_ e => gps _ e) (size_none (hh.push emptyDict)) (Heap.get?_push_size (hh.push emptyDict) rfl)
 rw [hz] at S2
 have E2 := E1.trans (ext_addF (own := []) (p := (hh.objs.size + 1, instObj C hh.objs.size)))
 have L2 := L1.addF (p := (hh.objs.size + 1, instObj C hh.objs.size))
 have hrho : (w.rho ++ [hh.objs.size])[σ.length]? = some hh.objs.size := by rw [← L.len]; exact List.getElem?_concat_length
 have dx : DenW cf wd.params b { w with fz := (hh.objs.size + 1, instObj C hh.objs.size) :: w.fz, mu := (hh.objs.size, emptyDict) :: w.mu, rho := w.rho ++ [hh.objs.size] } (.obj c σ.length) (.ref (hh.objs.size + 1)) := .obj ia (.inl (.head _)) hrho
 have cx' : Cx (A.under (.builtin "type.__call__" ⟨.ref C :: vals, []⟩)) n stk fL := ⟨cx.hh, cx.fr, cx.top, by have := cx.dp; show A.depth + 1 + 4 * n ≤ 800; omega, by have := cx.un; show A.units + 1 + 30 * n ≤ 9000; omega⟩
 have main := HF (s := ⟨(hh.push emptyDict).push (instObj C hh.objs.size), g, dr, tk, os⟩) cx' (so.ext E2) S2 L2 h1 (.cons dx (dl.ext E2)) (fun v s' => v = .none ∧ Q (.ref (hh.objs.size + 1)) s') E
 refine codeAny_mono (main ?_).2 fun q s' z => ?_
 ·revert f
  generalize r (.call (.fn (mkM c nInit)) (.obj c σ.length :: vs) (σ ++ [.dct []])) = res
  intro f
  cases res with
  | ok v σ' =>
   obtain ⟨_, e, f⟩ := Fin.need f
   obtain rfl := noneV_eq e
   intro w' h' tk' S' E' L' val dv
   obtain rfl := dv.inv
   exact ⟨rfl, Fin.ok f S' (E2.trans E') L' (DenW.ext dx E')⟩
  | exc c' σ' => exact EPst.move f E2
  | _ => exact False.elim f
 ·rcases q with e | (v | _ | _ | _)
  ·exact z
  ·exact z
  ·exact z
  ·exact z
  ·exact z
section
variable {h h' : Heap}
inductive Told (cf : Cfg) (b h : Heap) (w : Wd) (n : Nat) (T : Nat → Addr) (o : Nat → Obj) : Prop
 | mk (l : Led) (S : St cf b h { w with fz := l ++ w.fz }) (m : ∀ j < n, (T j, o j) ∈ l)
theorem told_all (S : St cf b h w) {T : Nat → Addr} {o : Nat → Obj} {n : Nat} (k : ∀ j < n, h.get? (T j) = some (o j) ∧ T j ∉ (w.all cf).map (·.1) ∧ b.get? (T j) = none) : Told cf b h w n T o := by
 induction n with
 | zero => exact ⟨[], S, fun z_ h => absurd h (Nat.not_lt_zero _)⟩
 | succ n ih =>
  obtain ⟨l, S', m⟩ := ih fun j hj => k j (Nat.lt_succ_of_lt hj)
  obtain ⟨k1, k2, k3⟩ := k n (Nat.lt_succ_self n)
  by_cases q : T n ∈ l.map (·.1)
  ·obtain ⟨p, hp, e⟩ := mmp q
   have := S'.kn p (mem_fz (List.mem_append_left _ hp))
   rw [e, k1] at this
   have hn : (T n, o n) ∈ l := by
    have e2 : p = (T n, o n) := Prod.ext e (Option.some.inj this).symm
    exact e2 ▸ hp
   exact ⟨l, S', fun j hj => (Nat.lt_succ_iff_lt_or_eq.mp hj).elim (m j) fun e => e ▸ hn⟩
  ·refine ⟨(T n, o n) :: l, S'.tellF k1 k3 fun z => ?_, fun j hj => (Nat.lt_succ_iff_lt_or_eq.mp hj).elim (fun h => .tail _ (m j h)) fun e => e ▸ .head _⟩
   obtain ⟨p, hp, e⟩ := mmp z
   rcases all_cases hp with hp | hp | hp | hp
   ·rcases List.mem_append.mp hp with hp | hp
    ·exact q (e ▸ mmo (f := (·.1)) hp)
    ·exact k2 (e ▸ mmo (f := (·.1)) (mem_fz hp))
   ·exact k2 (e ▸ mmo (f := (·.1)) (mem_xt (w := w) hp))
   ·exact k2 (e ▸ mmo (f := (·.1)) (mem_mu (w := w) hp))
   ·exact k2 (by rw [← e, hp]; exact mmo (f := (·.1)) (mem_tab (w := w)))
theorem ext_fzs {own : List Addr} {l : Led} : Ext own w { w with fz := l ++ w.fz } :=
 ⟨fun z_ h => List.mem_append_right _ h, fun z_ h => h, fun p h z_ z_ => ⟨p.2, h, .refl _⟩, fun p h => mmo h, fun z_ z_ h => h, fun z_ z_ h => h⟩
theorem Live.fzs {l : Led} (L : Live cf P b w σ) : Live cf P b { w with fz := l ++ w.fz } σ :=
 ⟨L.len, fun j so e => let ⟨a, o, h1, h2, h3⟩ := L.at_ j so e; ⟨a, o, h1, h2, h3.ext (own := []) ext_fzs⟩⟩
theorem den_num {fz : Led} {rho : List Addr} {us : List V} {xs : List Value} {k : Nat} {acc : List Value} (d : DenL cf P b fz rho us xs) (hl : acc.length = us.length) (h : ∀ j < us.length, ∃ T t x, acc[j]? = some (.ref T) ∧ xs[j]? = some x ∧ At b fz T (tupOf #[.int ((k + j : Nat) : Int) t, x] 0)) : DenL cf P b fz rho (numerate k us) acc := by
 induction us generalizing k xs acc with
 | nil => rw [List.length_eq_zero_iff.mp hl]; exact .nil
 | cons u us ih =>
  obtain ⟨x, xs, rfl, d1, l⟩ := d.cons_inv
  cases acc with
  | nil => cases hl
  | cons a acc =>
  obtain ⟨T, t, y, h1, h2, h3⟩ := h 0 (Nat.succ_pos _)
  obtain rfl := sI h1
  obtain rfl := sI h2
  refine .cons (.tup (vs := [.int _ t, x]) h3 (.cons (.int _ _) (.cons d1 .nil))) (ih l (Nat.succ.inj hl) fun j hj => ?_)
  obtain ⟨T, t, y, h1, h2, h3⟩ := h (j + 1) (Nat.succ_lt_succ hj)
  exact ⟨T, t, y, h1, h2, by rw [Nat.add_right_comm]; exact h3⟩
end
theorem tup_en (hh : A.handled = none) {v : V} {us : List V} {val : Value} {Q E : VP} (S : St cf b s.heap w) (L : Live cf wd.params b w σ) (d : DenW cf wd.params b w v val) (e : seqI v = some us) (hz : us.length ≤ 10000) (f : Fin cf wd.params b fL s w (.ok (.tup (numerate 0 us)) σ) Q E) :
  wpAny (model prog wd) A (call (.type "enumerate") [val]) (fun x s1 => wpAny (model prog wd) A (call (.type "tuple") [x]) Q E s1) E s := by
 obtain ⟨k, a, vs, o, rfl, ha, dl, hsq⟩ := seqI_at d e
 have hg := S.at_ ha
 have hsq' := hsq _ hg
 refine call_enum_sq hsq' fun h' he hit hsz hk => ?_
 have hlt := Heap.lt_size hg
 have hl := dl.length
 refine call_tuple_en (k := k) hh (Nat.ne_of_gt (Nat.lt_succ_self _)) (Nat.ne_of_lt (Nat.lt_succ_of_lt hlt)) (Nat.ne_of_lt hlt) (by rw [List.size_toArray, hl]; exact hz) (.inl ⟨_, he⟩) hit (hsq'.at fun o e => hk _ _ e) fun h'' tk acc hga hk2 => ?_
 have hks : ∀ a o, s.heap.get? a = some o → h''.get? a = some o := fun a o z => hk2 a o (fun q => by have := Heap.lt_size z; rw [q] at this; exact absurd this (Nat.not_lt.mpr (Nat.le_succ _))) (fun q => by have := Heap.lt_size z; rw [q] at this; exact absurd this (Nat.lt_irrefl _)) (hk a o z)
 have S1 := S.keeps hks
 have hn : acc.size = us.length := by rw [hga.1, List.size_toArray, hl]
 have hh' : h'.objs.size = s.heap.objs.size + 2 := hsz
 have gAt : ∀ j < us.length, GathAt h'' vs.toArray acc (s.heap.objs.size + 1) s.heap.objs.size h'.objs.size j := fun j hj => hga.2 j (by rw [List.size_toArray, hl]; exact hj)
 have told := told_all S1 (n := us.length) (T := fun j => match acc[j]? with | some (.ref T) => T | _ => 0) (o := fun j => (h''.get? (match acc[j]? with | some (.ref T) => T | _ => 0)).getD (tupOf #[] 0)) fun j hj => by
  obtain ⟨T, t, x, g1, g2, g3, g4, g5, g6⟩ := gAt j hj
  have hT : s.heap.get? T = none := Heap.get?_none_of_le (Nat.le_of_lt (Nat.lt_trans (by rw [hh']; exact Nat.lt_succ_of_lt (Nat.lt_succ_self _)) g6))
  rw [g1]
  exact ⟨by rw [g3]; rfl, S.fresh hT, S.fresh_b hT⟩
 obtain ⟨l, S2, m⟩ := told
 have hD : (h''.push { cls := .type "tuple", data := .seq acc }).get? h''.objs.size = some (tupOf acc.toList.toArray 0) := Heap.get?_push_size h'' rfl
 have S3 := S2.addF (fun z_ z_ e => gps _ e) (size_none h'') hD
 refine Fin.ok (s' := { s with heap := h''.push { cls := .type "tuple", data := .seq acc }, toks := tk }) f S3 (ext_fzs.trans ext_addF) (L.fzs).addF (.tup (.inl (.head _)) ?_)
 refine den_num (DenLW.ext (own := []) dl (ext_fzs.trans (own := []) ext_addF)) (by rw [Array.length_toList]; exact hn) fun j hj => ?_
 obtain ⟨T, t, x, g1, g2, g3, g4, g5, g6⟩ := gAt j hj
 have hm := m j hj
 rw [g1] at hm
 dsimp only at hm
 rw [g3] at hm
 refine ⟨T, t, x, by rw [Array.getElem?_toList]; exact g1, (List.getElem?_toArray ..).symm.trans g2, .inl (.tail _ (List.mem_append_left _ ?_))⟩
 rw [Nat.zero_add]
 exact hm
theorem e_tenm (H : SndE cf wd.params b (model prog wd) n r) (B : Bs cf K p loose mean mg mb wd.params b G) (N : Names K) {e : PE} {a : Ex} {p1 q1 p2 q2 : Pos} (O : Ok cf wd.params b A (n + 1) stk fL en env s w σ) (R : Er cf env.scope e a) (h1 : env.scope.names.lookup (Str.ofString "tuple") = some .globalImplicit) (h2 : env.scope.names.lookup (Str.ofString "enumerate") = some .globalImplicit) :
  Tr cf wd.params b (model prog wd) A fL (eval (.Call (.Name (Str.ofString "tuple") p1) [.Call (.Name (Str.ofString "enumerate") q1) [e] [] p2] [] q2) env) s w (step G r (.e en (.tenm a) σ)) := fun Q E f => by
 refine Call_ (name_type B N (by simp) O h1 ?_) rfl
 refine callWith_type1 (rest := []) (spliced_cons (Call_ (name_type B N (by simp) O h2 ?_) rfl)) rfl rfl
 have hst : starEach [e] env = [(false, eval e env)] := R.star [] env
 refine callWith_type1 (rest := []) (by
  rw [hst]
  refine spliced_cons (Tr.bind (H O.down R) f fun v σ1 w1 h1 tk1 val S e1 L d f => spliced_nil ?_)
  obtain ⟨us, e, f⟩ := f.need
  obtain ⟨hz, f⟩ := f.okIf
  exact wpAny_mono (tup_en (s := { s with heap := h1, toks := tk1 }) O.cx.hh S L d e (nle hz) f) (fun z_ z_ z => spliced_nil z) fun z_ z_ z => z) (by rw [hst]; rfl) rfl
theorem exc_calm {ex : Addr} {c : Nat} {Q : Unit → Shared → Prop} {E : VP} (S : St cf b s.heap w) (X : ExcTr cf b s.heap w c fL ex) (q : ∀ h', St cf b h' w → ExcTr cf b h' w c fL ex → Q () { s with heap := h' }) : wpAny M A (setFlight (.ref ex) none) Q E s := by
 obtain ⟨h1, h2, oe, vs, a0, C, T, oT, ts, g1, g2, g3, g4, g5, g6, g7, g8, g9, g10, g11, g12⟩ := X
 have hlt : 3 < ts.size := by rcases g12 with g | g <;> exact (Array.getElem?_eq_some_iff.mp g).1
 refine wpAny_setFlight_none g1 g4 g6 g10 g11 hlt ?_
 have hd' : (Obj.mapFields (·.setIfInBounds 3 .none) oT).data = .fields (ts.setIfInBounds 3 .none) := Obj.data_mapFields g11 _
 have hT' : (s.heap.update T (Obj.mapFields (·.setIfInBounds 3 .none))).get? T = some (Obj.mapFields (·.setIfInBounds 3 .none) oT) := Heap.get?_update_self _ g10 (Obj.isFreed_of_fields hd')
 have hne : ∀ a o, a ≠ T → s.heap.get? a = some o → (s.heap.update T (Obj.mapFields (·.setIfInBounds 3 .none))).get? a = some o := fun a o hn e => (Heap.get?_update_ne _ _ _ _ hn).trans e
 exact q _ (S.but g8 g9 hne) ⟨h1, h2, oe, vs, a0, C, T, _, _, hne _ _ g7.symm g1, g2, g3, g4, g5, g6, g7, g8, g9, hT', hd', .inl (by rw [Array.getElem?_setIfInBounds_self]; exact if_pos hlt)⟩
theorem handle_ (B : Bs cf K p loose mean mg mb wd.params b G) (S : St cf b s.heap w) (hk : env.scope.kind = .function) (hgl : env.globals = mainGlobals) (hbt : env.builtins = builtinsNs) {c t kk : Nat} {ex : Addr} {p1 q1 q2 q3 : Pos} (hd : Nat.beq c dbgN = false) (hx : env.scope.names.lookup (strOf c) = some .globalImplicit) (hg : glo G c = some (.cls c)) (hm : ∀ C, cf.ca c = some C → exmOne K (.ref C) (.ref C) = some true)
  (X : ExcTr cf b s.heap w c fL ex) {Q : Flow → Shared → Prop} {E : VP} (q : ∀ h' tk, St cf b h' w → ∀ val, DenW cf wd.params b w (.str t) val → Q (.ret val) { s with heap := h', toks := tk }) :
  wpAny (model prog wd) A (handleBy (.ref ex) env [.ExceptHandler (some (.Name (strOf c) p1)) none [.Return (some (.Constant (.str (strOf t)) kk q1)) q2] q3]) Q E s := by
 refine wpAny_handleBy_cons (codeAny_handlers_test (name_raw B S hk hgl hbt hd hx hg fun val d => ?_)) (by intro q; injection q)
 obtain ⟨C, rfl, hC⟩ := d.inv
 have hX := X
 obtain ⟨h1, h2, oe, vs, a0, C', T, oT, ts, g1, g2, g3, _⟩ := hX
 injection hC.symm.trans g2 with j1; subst j1
 have LT : Looks (model prog wd) s.heap (typeOf (.ref ex)) (.ref C) := by rw [← g3]; exact (Looks.ld g1).andThen .now
 refine (exm_one (B.X.keeps S.stays) LT (hm C hC)).here ?_
 refine codeAny_handlers_suite (exc_calm S X fun h' S' X' => wpAny_execs_cons (wpAny_Return_some (Constant_str ?_)))
 exact q h' _ S' _ (.str _ _)
theorem s_try (B : Bs cf K p loose mean mg mb wd.params b G) (HB : SndB cf wd.params b (model prog wd) n r) {c t kk : Nat} {p1 q1 q2 q3 pos : Pos} {a ss : List PySem.Stmt} {x xs : List Sm} (O : Ok cf wd.params b A (n + 1) stk fL en env s w σ) (R : ErB cf env.scope a x) (RB : ErB cf env.scope ss xs)
  (hd : Nat.beq c dbgN = false) (hx : env.scope.names.lookup (strOf c) = some .globalImplicit) (hg : glo G c = some (.cls c)) (hm : ∀ C, cf.ca c = some C → exmOne K (.ref C) (.ref C) = some true) :
  TrB cf wd.params b (model prog wd) A fL env (execs (.Try a [.ExceptHandler (some (.Name (strOf c) p1)) none [.Return (some (.Constant (.str (strOf t)) kk q1)) q2] q3] [] [] pos :: ss) env) s w (step G r (.b en (.try_ x c none [.ret (.cs t)] :: xs) σ)) := fun Q E f => by
 refine wpAny_execs_cons (wpAny_Try_except (HB O.down R _ _ ?_))
 have f1 : FinB cf wd.params b (ownE env) fL env s w (match r (.b en x σ) with
    | .nxt en σ => r (.b en xs σ)
    | .ret v σ => .ret v σ
    | .exc c' σ' => ifB (Nat.beq c c') (.ret (.str t) σ') .bad
    | _ => .bad) Q E := f
 clear f
 revert f1
 generalize r (.b en x σ) = res
 intro f1
 cases res with
 | nxt en1 σ1 => exact fun w1 h1 tk1 S e L eo => wpAny_execs_nil (HB (O.down.set (own := ownE env) S e L eo) RB Q E (FinB.move (h1 := h1) (tk1 := tk1) (res := r (.b en1 xs σ1)) f1 e))
 | ret v σ1 => exact f1
 | exc c' σ1 =>
  obtain ⟨hc, f2⟩ := ifBs (F := fun q => FinB cf wd.params b (ownE env) fL env s w q Q E) id f1
  obtain rfl := nbe hc
  intro w1 h1 tk1 ex S e L X
  obtain ⟨e0, rst, hstk, hf0⟩ := O.cx.top
  have so1 := O.so.ext e
  subst hstk
  refine exc_note2 (s := { s with heap := h1, toks := tk1 }) S L so1 O.cx.fr hf0 O.fr X fun h2 w2 S2 e2 L2 X2 => ?_
  refine exc_calm (s := { s with heap := h2, toks := tk1 }) S2 X2 fun h3 S3 X3 => ?_
  refine handle_ (s := { s with heap := h3, toks := tk1 }) B S3 O.eo.k O.eo.g O.eo.bt hd hx hg hm X3 fun h4 tk4 S4 val d4 => ?_
  exact FinB.ret (s' := { s with heap := h4, toks := tk4 }) f2 S4 (e.trans (e2.weaken fun z_ q => absurd q List.not_mem_nil)) L2 d4
 | _ => exact False.elim f1
section
variable {nm q : Str} {C N : Addr} {bs bm : List Value} {hdct : Bool} {sn : List Str} {sub : List Value} {ab : Bool} {col : Option Bool} {dd : Option Addr} {k0 k1 k2 k3 k5 : Option Value} {Bn newId inN : String} {bmN : List Value}
variable {w : World} {R : Result → Shared → Prop} {h : Heap} {g : Array GenState} {d : Drawn} {t : Nat} {os : OsState}
structure LineOk (C : Addr) (bm : List Value) (Bn : String) : Prop where
 b : (Value.ref C :: bm).contains (.type Bn) = true
 a : (Value.ref C :: bm).contains (.type "AttributeError") = false
 n : (Value.ref C :: bm).contains (.type "NameError") = false
 e : (Value.ref C :: bm).contains (.type "BaseException") = true
 c : (Value.ref C :: bm).contains (.ref C) = true
noncomputable abbrev excO (C T : Addr) : Obj := { cls := .ref C, data := .fields #[.ref T, .none, .none, .none, .bool false, .none] }
noncomputable abbrev tupO (l : List Value) : Obj := { cls := .type "tuple", data := .seq l.toArray }
theorem xc_check (Fn : ExcBaseFacts Bn newId inN bmN) (LO : LineOk C bm Bn) {M : Model} {rest : List Value} {Q : Unit → Shared → Prop} (hC : h.get? C = some (excClassObj nm q C N bs bm hdct sn sub ab col dd k0 k1 k2 k3 k5 newId))
  (hq : Q () ⟨h, g, d, t, os⟩) : wpAny M A (checkBuiltinCall newId ⟨.ref C :: rest, []⟩) Q E ⟨h, g, d, t, os⟩ := by
 have hcont := LO.b
 have hstar := Fn.noStar
 simp only [checkBuiltinCall, Fn.newKind, Fn.newSplit, Fn.newRow]
 repeat (first | refine wpAny_loadPart_at hC ?_ | (refine wpAny_isSubtype_exc hC ?_; rw [hcont]) | refine wpAny_staticBase_exc hC ?_ | refine wpAny_madeBy_exc hC ?_ | simp only [bne_self_eq_false, Bool.false_eq_true, if_false] | wp_step)
 exact hq
theorem xc_new (Fn : ExcBaseFacts Bn newId inN bmN) (LO : LineOk C bm Bn) {rest : List Value} (hC : h.get? C = some (excClassObj nm q C N bs bm hdct sn sub ab col dd k0 k1 k2 k3 k5 newId))
  (hq : R (.ok (.ret (.ref (h.objs.size + 1)))) ⟨(h.push (tupO rest)).push (excO C h.objs.size), g, d, t, os⟩) (hrest : rest.length ≤ sizeLine) :
  codeAny (model prog w) A (.builtin newId ⟨.ref C :: rest, []⟩) R ⟨h, g, d, t, os⟩ := by
 have hends := Fn.ends
 have hcB := LO.b
 have hcA := LO.a
 have hcN := LO.n
 refine PySem.codeAny_builtinAt Fn.entry ?_
 unfold Builtin.«BaseException.__new__»
 refine PySem.wpAt_bind ?_
 show PySem.wpAt _ _ _ (stack >>= _) _ _ _
 refine PySem.wpAt_bind (PySem.wpAt_stack fun p below => PySem.wpAt_of_wpAny ?_)
 wp_walk
 refine PySem.wpAt_of_wpAny ?_
 rw [Fn.owner]
 repeat (first | with_reducible refine wpAny_madeHere_exc Fn.canon hC ?_ | with_reducible refine wpAny_loadPart_at hC ?_ | (with_reducible refine wpAny_isSubtype_exc hC ?_; first | rw [hcB] | rw [hcA] | rw [hcN]) | wp_step)
 show R _ _
 rw [Heap.size_push]
 exact hq
theorem xc_type (Fn : ExcBaseFacts Bn newId inN bmN) (LO : LineOk C bm Bn) {rest : List Value} {fI : Addr} {Q : PySem.Fin → Shared → Prop} (hC : h.get? C = some (excClassObj nm q C N bs bm hdct sn sub ab col dd k0 k1 k2 k3 k5 newId))
  (hi : Looks (model prog w) h (typeLookup (.ref C) "__init__") (some (.ref fI))) (hb : ∀ self, Looks (model prog w) h (bindSpecial (.ref fI) self) (.ref fI, [self]))
  (hq : wpAny (model prog w) A (call (.ref fI) (.ref (h.objs.size + 1) :: rest)) (fun r s' => r = .none ∧ Q (.done (.ret (.ref (h.objs.size + 1)))) s') E ⟨(h.push (tupO rest)).push (excO C h.objs.size), g, d, t, os⟩) (hrest : rest.length ≤ sizeLine) :
  wpAny (model prog w) A (Builtin.«type.__call__» ⟨.ref C :: rest, []⟩) Q E ⟨h, g, d, t, os⟩ := by
 repeat (first | with_reducible refine wpAny_loadPart_at hC ?_ | with_reducible refine wpAny_madeBy_exc hC ?_ | wp_step)
 refine codeAny_call_builtin_code (Code.quiet_builtin _ Fn.quiet) (xc_check Fn LO hC ?_)
 refine xc_new Fn LO hC ?_ hrest
 show wpAny _ _ _ _ _ _
 have k : ∀ a o, h.get? a = some o → ((h.push (tupO rest)).push (excO C h.objs.size)).get? a = some o := fun a o e => gps _ (gps _ e)
 have hC₁ := k _ _ hC
 have hget : ((h.push (tupO rest)).push (excO C h.objs.size)).get? (h.objs.size + 1) = some (excO C h.objs.size) := by heap_get
 have hcC := LO.c
 unfold isInstance
 repeat (first | with_reducible refine wpAny_loadPart_at hget ?_ | (with_reducible refine wpAny_isSubtype_exc hC₁ ?_; rw [hcC]) | wp_step)
 show wpAny _ _ (typeLookup (.ref C) _) _ _ _
 refine (hi.keeps k).here ?_
 refine wpAny_holding (wpAny_bind (((hb _).keeps k).here ?_))
 refine wpAny_bind (wpAny_mono hq (fun r s' hr => ?_) fun z_ z_ x => x)
 obtain ⟨rfl, hQ⟩ := hr
 wp_walk
 exact hQ
theorem xc_call (Fn : ExcBaseFacts Bn newId inN bmN) (LO : LineOk C bm Bn) {rest : List Value} {fI : Addr} {Q : VP} (hC : h.get? C = some (excClassObj nm q C N bs bm hdct sn sub ab col dd k0 k1 k2 k3 k5 newId))
  (hi : Looks (model prog w) h (typeLookup (.ref C) "__init__") (some (.ref fI))) (hb : ∀ self, Looks (model prog w) h (bindSpecial (.ref fI) self) (.ref fI, [self]))
  (hq : wpAny (model prog w) (A.under (.builtin "type.__call__" ⟨.ref C :: rest, []⟩)) (call (.ref fI) (.ref (h.objs.size + 1) :: rest)) (fun r s' => r = .none ∧ Q (.ref (h.objs.size + 1)) s') E ⟨(h.push (tupO rest)).push (excO C h.objs.size), g, d, t, os⟩) (hrest : rest.length ≤ sizeLine) :
  wpAny (model prog w) A (call (.ref C) rest) Q E ⟨h, g, d, t, os⟩ := by
 have f1 := tc_lookup
 have f2 := tc_bind (.ref C)
 have hT : (⟨h, g, d, t, os⟩ : Shared).TypeIs (.ref C) "type" := ⟨_, hC, rfl⟩
 refine wpAny_call (codeAny_of_tree ?_)
 show wpAny _ _ (callAny (.ref C) _) _ _ _
 repeat (any_goals (first | assumption | with_reducible refine wpAny_loadPart_at hC ?_ | wp_step))
 refine ⟨rfl, ?_⟩
 exact codeAny_call_builtin_at (Code.quiet_builtin _ (by decide +kernel)) entry_typeCall (wpAny_check_type_call_sub hC (xc_type Fn LO hC hi hb hq hrest))
theorem xc_raise {env : SE} {M : Model} {s : Shared} {x : Sem Value} {Q : Flow → Shared → Prop} (LO : LineOk C bm Bn) (ht : (Value.ref C :: bm).contains (.type "type") = false) (hh : A.handled = none)
  (hx : wpAny M A x (fun v s₁ => ∃ e oe vs, v = .ref e ∧ s₁.heap.get? C = some (excClassObj nm q C N bs bm hdct sn sub ab col dd k0 k1 k2 k3 k5 newId) ∧ s₁.heap.get? e = some oe ∧ oe.cls = .ref C ∧ oe.data = .fields vs ∧ vs[1]? = some .none ∧ E (.ref e) s₁) E s) :
  wpAny M A (raiseStmt env (some x) none) Q E s := by
 have hcB := LO.e
 unfold raiseStmt
 refine wpAny_bind (wpAny_mono hx (fun v s₁ h₁ => ?_) fun z_ z_ x => x)
 obtain ⟨e, oe, vs, rfl, hC, he, hc, hd, h1, hE⟩ := h₁
 obtain ⟨hp, g, d, tk, os⟩ := s₁
 obtain ⟨oc, od, odt, osl⟩ := oe
 dsimp only at hc hd
 subst hc hd
 repeat (first | with_reducible refine wpAny_loadPart_at he ?_ | with_reducible refine wpAny_loadPart_at hC ?_ | (with_reducible refine wpAny_isSubtype_exc hC ?_; first | rw [hcB] | rw [ht]) | wp_step)
 rw [h1]
 exact wpAny_pure (wif (show ¬ ((Value.none != Value.none) = true) from Bool.false_ne_true) (wpAny_pure (wpAny_raiseNew_none hh hE)))
end
end Mine
end
section
open PySem PySem.W PyProof.Rows PySem.Calls PySem.SeqAt PySem.Builtin PySem.Builtin.ObjectAttr
open PyProof.Rows.LCg (NsObj ns_obj)
namespace Mine
variable {cf : Cfg} {K : Frag} {p : Program} {loose : List Str} {mean : ExcName → Option Value} {mg : Str → Option Value} {mb : Str → Option Value} {prog : Program} {wd : World} {b : Heap} {G : Glob} {A : Around} {n : Nat} {r : Task → Res} {stk : List SE} {fL : Addr} {en : Mine.Env} {env : SE} {s : Shared} {w : Wd} {w0 : Wd} {σ : Store} {P : Params} {tt : Bool} {M : Model} {E : VP}
inductive XI (h0 h : Heap) (x C : Addr) (vs : Array Value) (mA : Str → Option Value) : Prop
 | mk (keep : ∀ a o, a ≠ x → h0.get? a = some o → h.get? a = some o) (ox : Obj) (g : h.get? x = some ox) (k : ox.cls = .ref C) (d : ox.data = .fields vs)
  (i : (ox.dict = none ∧ mA = fun z_ => none) ∨ ∃ dx, ox.dict = some dx ∧ dx ≠ x ∧ h0.get? dx = none ∧ h.Ns1 dx mA)
section
variable {w : World} {h0 : Heap} {x C : Addr} {vs : Array Value} {mA : Str → Option Value}
theorem xs_store {M : Model} {cd : ClassData} {name : Str} {tk : Tok} {v : Value} {b : Bool} {Q : PySem.Fin → Shared → Prop} {ns : List Str} (X : K.In s.heap) (hc : clsIn K C = some cd) (hd : cd.hasDict = true) (I : XI h0 s.heap x C vs mA) (hw : Within mA ns) (hz : ns.length ≤ 10)
  (hq : ∀ h' tk', XI h0 h' x C vs (fun y => if y = name then some v else mA y) → Q (.done (.ret .none)) { s with heap := h', toks := tk' }) :
  wpAny M A (storeInOwnDict (.ref x) (.ref C) (.str name tk) name v b) Q E s := by
 obtain ⟨keep, ox, g, k, d, i⟩ := I
 obtain ⟨oc, odi, oda, osl⟩ := ox
 dsimp only at k d i
 subst k d
 have fin : ∀ {s' : Shared} {dx : Addr} {odi' : Option Addr}, (∀ a o, a ≠ x → h0.get? a = some o → s'.heap.get? a = some o) → s'.heap.get? x = some ⟨.ref C, odi', .fields vs, osl⟩ → odi' = some dx → dx ≠ x → h0.get? dx = none → s'.heap.Ns1 dx mA →
   (∀ h' tk', XI h0 h' x C vs (fun y => if y = name then some v else mA y) → Q (.done (.ret .none)) { s' with heap := h', toks := tk' }) → wpAny M A (storeInDict dx (.str name tk) name v) Q E s' := fun {s' dx odi'} keep' g' e1 e2 e3 e4 hq' => by
  unfold storeInDict newKeyGuard
  refine wpAny_bind (wpAny_pure (wpAny_bind (wpAny_nsSet1 e4 fun h' hn' hs => ?_)))
  obtain ⟨oD, esD, epD, hoD, hdD, hcD⟩ := hn'.count (Within.cons name v hw)
  refine wpAny_bind (wpAny_lookBehind hoD (by rw [hdD]; exact pastItsLine_dict (Nat.le_trans hcD (by rw [List.length_cons, sizeLine_eq]; omega))) ?_)
  refine wpAny_pure (hq' _ _ ⟨fun a o n q => hs.extBut a o (fun q' => ?_) (keep' a o n q), _, hs.extBut _ _ e2.symm g', rfl, rfl, .inr ⟨dx, e1, e2, e3, hn'⟩⟩)
  rw [q', e3] at q; exact noS q
 refine wpAny_bind (wpAny_pure (wpAny_bind (wpAny_bind (wpAny_loadPart g (wpAny_bind ((looks_clsIn X hc).here ?_))))))
 rw [hd]
 rcases i with ⟨rfl, rfl⟩ | ⟨dx, rfl, h1, h2, h3⟩
 ·have hx₁ : (s.heap.push { cls := .type "dict", data := .dict #[] }).get? x = some _ := gps _ g
  have hxs : x ≠ s.heap.objs.size := Nat.ne_of_lt (Heap.lt_size g)
  refine wpAny_bind (wpAny_alloc' (wpAny_bind (wpAny_update' hx₁ (wpAny_pure ?_))))
  have up : ∀ a o, a ≠ x → s.heap.get? a = some o → ((s.heap.push { cls := .type "dict", data := .dict #[] }).update x fun o => { o with dict := some s.heap.objs.size }).get? a = some o := fun a o n q => (Heap.get?_update_ne _ _ _ _ n).trans (gps _ q)
  have hgd : ((s.heap.push { cls := .type "dict", data := .dict #[] }).update x fun o => { o with dict := some s.heap.objs.size }).get? s.heap.objs.size = some { cls := .type "dict", data := .dict #[] } :=
    (Heap.get?_update_ne _ _ _ _ hxs.symm).trans (Heap.get?_push_at rfl rfl)
  have hnd : ((s.heap.push { cls := .type "dict", data := .dict #[] }).update x fun o => { o with dict := some s.heap.objs.size }).Ns s.heap.objs.size (fun z_ => none) :=
    ⟨_, #[], _, hgd, rfl, fun e he => absurd he (by simp), fun z_ => rfl⟩
  refine fin (s' := { s with heap := _ }) (fun a o n q => up a o n (keep a o n q)) (Heap.get?_update_self _ hx₁ rfl) rfl hxs.symm ?_ (Heap.Ns1.of_empty hnd) hq
  cases q : h0.get? s.heap.objs.size with
  | none => rfl
  | some o => exact absurd (keep _ _ hxs.symm q) (by rw [size_none]; exact nofun)
 ·exact wpAny_pure (fin keep g rfl h1 h2 h3 hq)
structure StOk (K : Frag) (C : Addr) (cd : ClassData) : Prop where
 c : clsIn K C = some cd
 d : cd.hasDict = true
 r : ∀ self : Value, refuseLoop self "__setattr__" cd.mro = pure ()
 m : mroIn K C (.type "object") = some true
 s : findIn K (.ref C) "__setattr__" = some (some (.builtin "object.__setattr__"))
theorem xs_call {cd : ClassData} {name : Str} {tk : Tok} {v : Value} {R : Result → Shared → Prop} {ns : List Str} (SO : StOk K C cd) (X : K.In s.heap) (ha : findIn K (.ref C) name = some none) (I : XI h0 s.heap x C vs mA) (LT : Looks (model prog w) s.heap (typeOf (.ref x)) (.ref C)) (hw : Within mA ns) (hz : ns.length ≤ 10)
  (hq : ∀ h' tk', XI h0 h' x C vs (fun y => if y = name then some v else mA y) → R (.ok (.ret .none)) { s with heap := h', toks := tk' }) : codeAny (model prog w) A (.call (.builtin "object.__setattr__") ⟨[.ref x, .str name tk, v], []⟩) R s := by
 have SF := PySem.F.store_object
 have hm : Looks (model prog w) s.heap (mroOf (.ref C)) cd.mro := (looks_clsIn X SO.c).andThen .now
 have sub : Looks (model prog w) s.heap (isInstance (.ref x) (.type "object")) true := LT.andThen (looks_mroIn X SO.m)
 refine codeAny_call_builtin SF.slot.plain SF.entry (@check_slot (model prog w) _ _ s "object.__setattr__" "object" "__setattr__" (.ref x) [.str name tk, v] [] _ SF.kind SF.split sub (SF.args (.ref x) (.str name tk) v) ?_)
 rw [osa_eq, refuse_eq]
 refine wpAny_bind (wpAny_bind (LT.here (wpAny_bind (hm.here ?_))))
 rw [SO.r]
 refine wpAny_pure (wpAny_bind (LT.here (wpAny_bind ((looks_findIn X ha).here (wpAny_bind (wpAny_pure ?_))))))
 exact xs_store X SO.c SO.d I hw hz fun h' tk' I' => hq h' tk' I'
theorem xs_attr {cd : ClassData} {name : Str} {v : Value} {Q : Unit → Shared → Prop} {ns : List Str} (SO : StOk K C cd) (X : K.In s.heap) (ha : findIn K (.ref C) name = some none) (I : XI h0 s.heap x C vs mA) (hw : Within mA ns) (hz : ns.length ≤ 10)
  (hq : ∀ h' tk', XI h0 h' x C vs (fun y => if y = name then some v else mA y) → Q () { s with heap := h', toks := tk' }) : wpAny (model prog w) A (setAttr (.ref x) name v) Q E s := by
 have LT : Looks (model prog w) s.heap (typeOf (.ref x)) (.ref C) := by
  obtain ⟨keep, ox, g, k, d, i⟩ := I
  exact k ▸ (Looks.ld g).andThen .now
 refine wpAny_bind (wpAny_mkText (wpAny_bind (wpAny_bind (wpAny_bind (LT _ _ _ _ (fun z_ z_ e => e) (looks_findIn X SO.s _ _ _ _ (fun z_ z_ e => e) (wpAny_holding ?_)))))))
 rw [PySem.F.store_object.slot.bind]
 refine wpAny_bind (wpAny_pure (wpAny_bind (wpAny_call ?_)))
 exact xs_call (s := { s with toks := s.toks + 1 }) SO X ha I LT hw hz fun h' tk' I' => wpAny_pure (wpAny_pure (hq h' tk' I'))
end
section
variable {nm q : Str} {C N : Addr} {bs bm bmB : List Value} {hdct : Bool} {sn : List Str} {sub : List Value} {ab : Bool} {col : Option Bool} {dd : Option Addr} {k0 k1 k2 k3 k5 : Option Value} {Bn nid inN : String} {newId : String}
variable {w : World} {h h0 : Heap} {x : Addr} {vs : Array Value} {mA : Str → Option Value}
variable {g : Array GenState} {d : Drawn} {t : Nat} {os : OsState}
theorem xi_check (F : ExcBaseFacts Bn nid inN bmB) (LO : LineOk C bm Bn) {M : Model} {e : Addr} {oe : Obj} {rest : List Value} {Q : Unit → Shared → Prop}
  (hC : h.get? C = some (excClassObj nm q C N bs bm hdct sn sub ab col dd k0 k1 k2 k3 k5 newId)) (he : h.get? e = some oe) (hcls : oe.cls = .ref C) (hq : Q () ⟨h, g, d, t, os⟩) :
  wpAny M A (checkBuiltinCall inN ⟨.ref e :: rest, []⟩) Q E ⟨h, g, d, t, os⟩ := by
 have hcB := LO.b
 have hshort := F.noStar
 simp only [checkBuiltinCall, F.initKind, F.initSplit, F.initRow]
 repeat (first | (with_reducible refine wpAny_loadPart_at he ?_; rw [hcls]) | with_reducible refine wpAny_loadPart_at hC ?_ | (with_reducible refine wpAny_isSubtype_exc hC ?_; rw [hcB]) | wp_step)
 refine wpAny_onRaise ?_
 rw [show ∀ (a b : String) (n : Nat), Bind.check ⟨.positional, "*", Bn, .self, [⟨"args", .varPos, false⟩]⟩ a b n (List.map (fun x => x.fst) ({ pos := Value.ref e :: rest } : Args).kw) = pure () from
  fun a b n => check_star_args _ _ _ _ _ _]
 exact wpAny_pure hq
theorem xi_init (F : ExcBaseFacts Bn nid inN bmB) (LO : LineOk C bm Bn) {m y : Value} {Q : VP} (hC : s.heap.get? C = some (excClassObj nm q C N bs bm hdct sn sub ab col dd k0 k1 k2 k3 k5 newId)) (I : XI h0 s.heap x C vs (fun z_ => none)) (h0v : vs[0]? = some y)
  (hq : ∀ h' v, XI h0 h' x C (vs.setIfInBounds 0 v) (fun z_ => none) → Q .none { s with heap := h' }) : wpAny (model prog w) A (call (.builtin inN) [.ref x, m]) Q E s := by
 obtain ⟨keep, ox, hg, k, hd, i⟩ := I
 obtain ⟨oc, odi, oda, osl⟩ := ox
 dsimp only at k hd i
 subst k hd
 obtain ⟨hh, g, d, t, os⟩ := s
 refine wpAny_call (codeAny_call_builtin F.init.plain F.initEntry (xi_check F LO hC hg rfl ?_))
 have g1 : (hh.push (tupO [m])).get? x = some ⟨.ref C, odi, .fields vs, osl⟩ := gps _ hg
 refine wpAny_bind (wpAny_newTuple ?_ (by show 1 ≤ sizeLine; rw [sizeLine_eq]; decide))
 refine wpAny_bind (wpAny_bind (wpAny_field g1 rfl h0v (wpAny_bind (wpAny_setField g1 rfl (Array.getElem?_eq_some_iff.mp h0v).1 ?_))))
 have up : ∀ a o, a ≠ x → hh.get? a = some o → ((hh.push (tupO [m])).update x (Obj.mapFields (·.setIfInBounds 0 (.ref hh.objs.size)))).get? a = some o := fun a o n e => (Heap.get?_update_ne _ _ _ _ n).trans (gps _ e)
 have J : XI h0 ((hh.push (tupO [m])).update x (Obj.mapFields (·.setIfInBounds 0 (.ref hh.objs.size)))) x C (vs.setIfInBounds 0 (.ref hh.objs.size)) (fun z_ => none) := by
  refine ⟨fun a o n e => up a o n (keep a o n e), ⟨.ref C, odi, .fields (vs.setIfInBounds 0 (.ref hh.objs.size)), osl⟩, Heap.get?_update_self _ g1 rfl, rfl, rfl, ?_⟩
  rcases i with i | ⟨dx, i1, i2, i3, i4⟩
  ·exact .inl i
  ·exact .inr ⟨dx, i1, i2, i3, i4.at fun o e => up _ o i2 e⟩
 have z := hq _ _ J
 cases y <;> first | exact wpAny_pure (wpAny_pure z) | exact wpAny_letGo (wpAny_pure z)
end
noncomputable abbrev initBody (a1 a2 a3 a4 a5 a6 b1 b2 b3 b4 c1 c2 c3 c4 : Pos) : List PySem.Stmt :=
 [.Expr (.Call (.Attribute (.Name (Str.ofString "Exception") a1) (Str.ofString "__init__") a2) [.Name (Str.ofString "self") a3, .Name (Str.ofString "message") a4] [] a5) a6,
  .Assign [.Attribute (.Name (Str.ofString "self") b1) (Str.ofString "message") b2] (.Name (Str.ofString "message") b3) b4,
  .Assign [.Attribute (.Name (Str.ofString "self") c1) (Str.ofString "spot") c2] (.Name (Str.ofString "spot") c3) c4]
inductive XcFn (K : Frag) (fI : Addr) : Prop
 | mk (o : Obj) (fd : FuncData) (as_ : List Arg) (dd : List PE) (a1 a2 a3 a4 a5 a6 b1 b2 b3 b4 c1 c2 c3 c4 : Pos) (T : Addr) (k : Nat) (v : Value) (h1 : K.lookup fI = some o) (h2 : o.data = .func fd)
  (h3 : fd.params = { posonlyargs := [], args := as_, vararg := none, kwonlyargs := [], kw_defaults := [], kwarg := none, defaults := dd }) (h4 : as_.map (·.arg) = [Str.ofString "self", Str.ofString "message", Str.ofString "spot"])
  (h5 : fd.defaults = .ref T) (h5' : K.lookup T = some (tupOf #[v] k)) (h6 : fd.scope.kind = .function) (h7 : fd.scope.isCoroutine = false) (h8 : fd.scope.isGenerator = false) (h9 : fd.closure = []) (h10 : fd.globals = mainGlobals) (h11 : fd.builtins = builtinsNs)
  (h12 : fd.body = .stmts (initBody a1 a2 a3 a4 a5 a6 b1 b2 b3 b4 c1 c2 c3 c4)) (hl : (a2.endLine == a5.line) = true) (h13 : codeIn K fd.code fd.qualname = true) (h14 : ∀ z ∈ fd.scope.names, z.2 ≠ .cell)
  (h15 : fd.scope.names.lookup (Str.ofString "self") = some .local) (h16 : fd.scope.names.lookup (Str.ofString "message") = some .local) (h17 : fd.scope.names.lookup (Str.ofString "spot") = some .local) (h18 : fd.scope.names.lookup (Str.ofString "Exception") = some .globalImplicit)
noncomputable abbrev xEnv (fd : FuncData) (L fI : Addr) : SE := newEnv fd.scope L fd.globals [] (fd.qualname ++ ".<locals>.") (some fI) fd.code none fd.builtins
inductive XDone (h h' : Heap) (x C : Addr) : Prop
 | mk (keep : ∀ a o, a ≠ x → h.get? a = some o → h'.get? a = some o) (ox : Obj) (vs : Array Value) (a0 : Value) (g : h'.get? x = some ox) (k : ox.cls = .ref C) (d : ox.data = .fields vs) (z : vs[0]? = some a0) (o : vs[1]? = some .none)
theorem exc_kw {K : Frag} : findCls K (.type "Exception") (.type "type") (Str.ofString "__init__") = some (.val (.builtin "Exception.__init__")) := by kernel_rfl
theorem two_binds {x m : Value} {rest : List Value} {v : Value} (hr : rest.length ≤ 1) : ∃ sp, [Str.ofString "self", Str.ofString "message", Str.ofString "spot"].zip ((x :: m :: rest) ++ [v].drop ((x :: m :: rest).length + 1 - 3)) = [(Str.ofString "self", x), (Str.ofString "message", m), (Str.ofString "spot", sp)] := by
 cases rest with
 | nil => exact ⟨v, rfl⟩
 | cons y r => cases r with
  | nil => exact ⟨y, rfl⟩
  | cons => exact absurd hr (by simp)
section
variable {nm q : Str} {C N : Addr} {bs bm : List Value} {hdct : Bool} {sn : List Str} {sub : List Value} {ab : Bool} {col : Option Bool} {dd : Option Addr} {k0 k1 k2 k3 k5 : Option Value} {newId : String}
variable {x : Addr}
theorem xi_fn (B : Bs cf K p loose mean mg mb wd.params b G) (NK : Names K) {fI : Addr} (F : XcFn K fI) (LO : LineOk C bm "Exception") {cd : ClassData} (SO : StOk K C cd) (ha1 : findIn K (.ref C) (Str.ofString "message") = some none) (ha2 : findIn K (.ref C) (Str.ofString "spot") = some none)
  (hC : K.lookup C = some (excClassObj nm q C N bs bm hdct sn sub ab col dd k0 k1 k2 k3 k5 newId)) (hs : b.StaysIn s.heap) (hbx : b.get? x = none) {T : Addr} (hx : s.heap.get? x = some (excO C T)) (hd : A.depth ≤ 900) {m : Value} {rest : List Value} (hr : rest.length ≤ 1) {R : Result → Shared → Prop}
  (hq : ∀ h' tk, XDone s.heap h' x C → R (.ok (.ret .none)) { s with heap := h', toks := tk }) : codeAny (model prog wd) A (.call (.ref fI) ⟨.ref x :: m :: rest, []⟩) R s := by
 obtain ⟨o, fd, as_, dfl, a1, a2, a3, a4, a5, a6, b1, b2, b3, b4, c1, c2, c3, c4, Td, k, v, h1, h2, h3, h4, h5, h5', h6, h7, h8, h9, h10, h11, h12, hl, h13, h14, h15, h16, h17, h18⟩ := F
 have X := B.X.keeps hs
 have hps : as_.length = 3 := by rw [← List.length_map (f := (·.arg)), h4]; rfl
 have hlen : (Value.ref x :: m :: rest).length = rest.length + 2 := rfl
 have bind := bind_gen (s := s) (vals := .ref x :: m :: rest) (ds := [v]) h3 (fun M A E Q hq => by rw [h5]; exact wpAny_seqItems (X _ _ h5') rfl (hq _ rfl)) (by rw [h4]; decide +kernel) (by rw [hps, hlen]; omega) (by rw [hps, hlen]; show 3 ≤ rest.length + 2 + 1; omega) (by rw [hps]; show 1 ≤ 3; decide)
 obtain ⟨sp, hsp⟩ := two_binds (x := .ref x) (m := m) (v := v) hr
 rw [h4, hps] at bind
 rw [show [v].length = 1 from rfl, hsp] at bind
 refine codeAny_call_function (o := o) (fd := fd) (by show A.depth < 1000; omega) (X _ _ h1) h2 h7 h8 h12 (codeRec_of X h13) ?_
 refine bind _ _ _ _ ?_
 rw [h9]
 refine wpAny_newFunctionEnv h14 (fun z hz => ?_) (fun h₁ hns hsb => ?_) h6
 ·rcases List.mem_cons.mp hz with rfl | hz
  ·exact h15
  rcases List.mem_cons.mp hz with rfl | hz
  ·exact h16
  rcases List.mem_cons.mp hz with rfl | hz
  ·exact h17
  ·cases hz
 have keep : ∀ a o, s.heap.get? a = some o → h₁.get? a = some o := fun a o e => hsb.extBut a o (Nat.ne_of_lt (Heap.lt_size e)) (gps _ e)
 have st : b.StaysIn h₁ := fun a o e => keep _ _ (hs _ _ e)
 have hx1 := keep _ _ hx
 have hxL : s.heap.objs.size ≠ x := (Nat.ne_of_lt (Heap.lt_size hx)).symm
 have I1 : XI h₁ h₁ x C #[.ref T, .none, .none, .none, .bool false, .none] (fun z_ => none) := ⟨fun z_ z_ z_ e => e, _, hx1, rfl, rfl, .inl ⟨rfl, rfl⟩⟩
 refine ⟨B.T.nolimit.keeps st, codeAny_func ?_⟩
 have rd : ∀ {A' : Around} {h2 : Heap} {tk : Nat} {us : Array Value} {mA : Str → Option Value} {y : Str} {u : Value} {pos : Pos} {Q' E' : VP}, XI h₁ h2 x C us mA → fd.scope.names.lookup y = some .local → [(Str.ofString "self", Value.ref x), (Str.ofString "message", m), (Str.ofString "spot", sp)].reverse.lookup y = some u → (y == Str.ofString "__debug__") = false → Q' u { s with heap := h2, toks := tk } → wpAny (model prog wd) A' (eval (.Name y pos) (xEnv fd s.heap.objs.size fI)) Q' E' { s with heap := h2, toks := tk } := fun {A' h2 tk us mA y u pos Q' E'} I hy hm hd hq => by
  obtain ⟨kp, _⟩ := I
  obtain ⟨o, es, ep, e, r⟩ := hns
  exact wpAny_Name (wpAny_loadName_local (v := u) h6 hy (show h2.Ns s.heap.objs.size _ from ⟨o, es, ep, kp _ _ hxL e, r⟩) hm hq) hd
 refine wpAny_execs_cons (wpAny_Expr_any (method_raw rfl hl rfl (by show 2 ≤ 20; decide) (name_typeR B NK (by simp) st h6 h10 h11 h18 fun pl => ⟨fun fx s₂ => fx = (.builtin "Exception.__init__", []) ∧ s₂ = { s with heap := h₁, toks := s.toks + 3 + 1 }, method_type (h₀ := s.heap) (L := s.heap.objs.size) (m := _) ⟨hns, keep, Nat.le_refl _⟩ X (by kernel_rfl) (by decide +kernel) exc_kw rfl (And.intro rfl rfl), ?_⟩)) ?_ ?_)
 ·rintro fx s₂ ⟨rfl, rfl⟩
  refine callWith_of (P := fun z_ => True) rfl (fun z_ z_ => ⟨.machine, .inr (.inl rfl), .now⟩) (evalArgs_plain (spliced_cons (rd I1 h15 rfl rfl (spliced_cons (rd I1 h16 rfl rfl (spliced_nil ⟨trivial, ?_⟩))))))
  refine xi_init (s := { s with heap := h₁, toks := s.toks + 3 + 1 }) PySem.F.excBase_Exception LO ((B.X.keeps st) _ _ hC) I1 rfl fun h₂ u I2 => ?_
  have kx : ∀ {h2 : Heap} {us : Array Value} {mA : Str → Option Value}, XI h₁ h2 x C us mA → K.In h2 := fun I a o e => by
   obtain ⟨kp, _⟩ := I
   exact kp a o (fun q => by rw [q] at e; rw [B.X _ _ e] at hbx; injection hbx) (st _ _ (B.X _ _ e))
  refine wpAny_execs_cons (plainObj_wpAny_Assign_Attribute (rd I2 h16 rfl rfl (rd I2 h15 rfl rfl ?_)) rfl)
  refine xs_attr (s := { s with heap := h₂, toks := s.toks + 3 + 1 }) SO (kx I2) ha1 I2 Within.nil (by decide) fun h₃ t₃ I3 => ?_
  refine wpAny_execs_cons (plainObj_wpAny_Assign_Attribute (rd I3 h17 rfl rfl (rd I3 h15 rfl rfl ?_)) rfl)
  refine xs_attr (s := { s with heap := h₃, toks := t₃ }) SO (kx I3) ha2 I3 (Within.cons _ _ Within.nil) (by decide) fun h₄ t₄ I4 => wpAny_execs_nil (hq h₄ t₄ ?_)
  obtain ⟨kp, ox, g, k, d, _⟩ := I4
  exact ⟨fun a o n e => kp a o n (keep a o e), ox, _, u, g, k, d, rfl, rfl⟩
 ·show interactive (xEnv fd s.heap.objs.size fI) = false
  unfold interactive
  rw [show (xEnv fd s.heap.objs.size fI).scope.kind = _ from h6]; rfl
 ·rfl
end
end Mine
end
section
open PySem PySem.W PyProof.Rows PySem.Calls PySem.SeqAt
open PyProof.Rows.LCg (NsObj ns_obj)
namespace Mine
variable {cf : Cfg} {K : Frag} {p : Program} {loose : List Str} {mean : ExcName → Option Value} {mg : Str → Option Value} {mb : Str → Option Value} {prog : Program} {wd : World} {b : Heap} {G : Glob} {A : Around} {n : Nat} {r : Task → Res} {stk : List SE} {fL : Addr} {en : Mine.Env} {env : SE} {s : Shared} {w : Wd} {w0 : Wd} {σ : Store} {P : Params} {tt : Bool} {M : Model} {E : VP}
inductive XcOk (K : Frag) (C : Addr) : Prop
 | mk (nm q : Str) (N : Addr) (bs bm : List Value) (hdct : Bool) (sn : List Str) (sub : List Value) (ab : Bool) (col : Option Bool) (dd : Option Addr) (k0 k1 k2 k3 k5 : Option Value)
  (hC : K.lookup C = some (excClassObj nm q C N bs bm hdct sn sub ab col dd k0 k1 k2 k3 k5 "Exception.__new__")) (LO : LineOk C bm "Exception") (ht : (Value.ref C :: bm).contains (.type "type") = false) (keep : keepIn K (.ref C) = true)
  (fI : Addr) (hi : findIn K (.ref C) "__init__" = some (some (.ref fI))) (hf : typeIn K (.ref fI) = some (.type "function")) (F : XcFn K fI) (cd : ClassData) (SO : StOk K C cd)
  (ha1 : findIn K (.ref C) (Str.ofString "message") = some none) (ha2 : findIn K (.ref C) (Str.ofString "spot") = some none)
theorem s_rse (B : Bs cf K p loose mean mg mb wd.params b G) (NK : Names K) {c : Nat} (XO : ∀ C, cf.ca c = some C → XcOk K C) (HL : SndL cf wd.params b (model prog wd) n r) {e : PE} {es : List PE} {xs : List Ex} {ys : List Sm} {ss : List PySem.Stmt} {p1 q1 pos : Pos}
  (O : Ok cf wd.params b A (n + 1) stk fL en env s w σ) (hd : Nat.beq c dbgN = false) (hx : env.scope.names.lookup (strOf c) = some .globalImplicit) (hg : glo G c = some (.cls c)) (RL : ErL cf env.scope (e :: es) xs) (h1 : es.length ≤ 1) (hr : LenR r) :
  TrB cf wd.params b (model prog wd) A fL env (execs (.Raise (some (.Call (.Name (strOf c) p1) (e :: es) [] q1)) none pos :: ss) env) s w (step G r (.b en (.rse c xs :: ys) σ)) := fun Q E f => by
 refine wpAny_execs_cons ?_
 rw [arm_exec_Raise]
 obtain ⟨val, _, d⟩ := B.glo c _ hg
 obtain ⟨C, rfl, hC⟩ := d.inv
 obtain ⟨nm, q, N, bs, bm, hdct, sn, sub, ab, col, dd, k0, k1, k2, k3, k5, hK, LO, ht, keep, fI, hi, hf, F, cd, SO, ha1, ha2⟩ := XO C hC
 refine wpAny_bind (wpAny_standAt (xc_raise (C := C) (nm := nm) (q := q) (N := N) (bs := bs) (bm := bm) (hdct := hdct) (sn := sn) (sub := sub) (ab := ab) (col := col) (dd := dd) (k0 := k0) (k1 := k1) (k2 := k2) (k3 := k3) (k5 := k5) (newId := "Exception.__new__") LO ht O.cx.hh ?_))
 refine wpAny_bind (wpAny_mono (Call_ (name_glo B O hd hx hg fun val d2 => ?_) rfl) (fun v s2 h => wpAny_bind (wpAny_standAt (wpAny_pure h))) fun z_ z_ x => x)
 obtain ⟨C', rfl, hC'⟩ := d2.inv
 injection hC.symm.trans hC' with j1; subst j1
 refine callWith_er RL (TrL.bindsB (own := ownE env) (HL O.down RL) f fun vs σ2 w2 h2 tk2 vals hres S2 e2 L2 d2 f => ?_)
 have X : K.In h2 := B.X.keeps S2.stays
 have hlen : vals.length = es.length + 1 := by rw [d2.length, hr _ _ _ _ _ hres, ← RL.length]; rfl
 refine ⟨keeps_K keep _ X, ?_⟩
 cases vals with
 | nil => cases hlen
 | cons m rest =>
 have hrest : rest.length ≤ 1 := by rw [Nat.succ.inj hlen]; exact h1
 obtain ⟨h0, g0, dr0, t0, os0⟩ := s
 have hsz : ((h2.push (tupO (m :: rest))).push (excO C h2.objs.size)).get? (h2.objs.size + 1) = some (excO C h2.objs.size) := by
  have := Heap.get?_push_size (h2.push (tupO (m :: rest))) (o := excO C h2.objs.size) rfl
  rwa [Heap.size_push] at this
 have hnone : h2.get? (h2.objs.size + 1) = none := Heap.get?_none_of_le (Nat.le_succ _)
 have kp : ∀ a o, h2.get? a = some o → ((h2.push (tupO (m :: rest))).push (excO C h2.objs.size)).get? a = some o := fun a o e => gps _ (gps _ e)
 refine xc_call (rest := m :: rest) PySem.F.excBase_Exception LO (X _ _ hK) (looks_findIn X hi) (fun self => bind_fn X self hf) (wpAny_call ?_) (by show rest.length + 1 ≤ sizeLine; rw [sizeLine_eq]; omega)
 refine xi_fn (s := ⟨(h2.push (tupO (m :: rest))).push (excO C h2.objs.size), g0, dr0, tk2, os0⟩) B NK F LO SO ha1 ha2 hK (fun a o e => kp a o (S2.stays a o e)) (S2.fresh_b hnone) hsz (by have := O.cx.dp; show A.depth + 1 ≤ 900; omega) hrest fun h' tk D => ?_
 obtain ⟨keep', ox, vs', a0, g', k', d', z', o'⟩ := D
 have hk : ∀ a o, h2.get? a = some o → h'.get? a = some o := fun a o e => keep' a o (fun q => by rw [q, hnone] at e; exact noS e) (kp a o e)
 refine ⟨rfl, _, ox, vs', rfl, hk _ _ (X _ _ hK), g', k', d', o', ?_⟩
 exact f w2 h' tk _ (S2.keeps hk) (.refl _ _) L2 ⟨S2.fresh hnone, S2.fresh_b hnone, ox, vs', a0, C, g', hC, k', d', z', .inl o'⟩
theorem s_try2 (HB : SndB cf wd.params b (model prog wd) n r) {m c : Nat} {pos : Pos} {a ss : List PySem.Stmt} {x y xs : List Sm} {hd : PySem.ExceptHandler} {hs : List PySem.ExceptHandler} (O : Ok cf wd.params b A (n + 1) stk fL en env s w σ) (R : ErB cf env.scope a x) (RB : ErB cf env.scope ss xs) :
  TrB cf wd.params b (model prog wd) A fL env (execs (.Try a (hd :: hs) [] [] pos :: ss) env) s w (step G r (.b en (.try_ x c (some m) y :: xs) σ)) := fun Q E f => by
 refine wpAny_execs_cons (wpAny_Try_except (HB O.down R _ _ ?_))
 have f1 : FinB cf wd.params b (ownE env) fL env s w (match r (.b en x σ) with
    | .nxt en σ => r (.b en xs σ)
    | .ret v σ => .ret v σ
    | _ => .bad) Q E := by
  have f0 : FinB cf wd.params b (ownE env) fL env s w (match r (.b en x σ) with
    | .nxt en σ => r (.b en xs σ)
    | .ret v σ => .ret v σ
    | .exc c' σ' => needO (hndl (some m) y) fun t => ifB (Nat.beq c c') (.ret (.str t) σ') .bad
    | _ => .bad) Q E := f
  revert f0
  generalize r (.b en x σ) = res
  intro f0
  cases res <;> exact f0
 clear f
 revert f1
 generalize r (.b en x σ) = res
 intro f1
 cases res with
 | nxt en1 σ1 => exact fun w1 h1 tk1 S e L eo => wpAny_execs_nil (HB (O.down.set (own := ownE env) S e L eo) RB Q E (FinB.move (h1 := h1) (tk1 := tk1) (res := r (.b en1 xs σ1)) f1 e))
 | ret v σ1 => exact f1
 | _ => exact False.elim f1
theorem finT_plain {res : Res} {Q : Bool → Shared → Prop} {E : VP} (f : FinT cf P b fL s w (res.bind fun v σ => needO (boolV v) fun c => .ok (.bool c) σ) Q E) : FinT cf P b fL s w res Q E := by
 cases res with
 | ok v σ1 =>
  obtain ⟨c, e, f⟩ := FinT.need f
  obtain rfl := boolV_eq e
  exact f
 | exc c σ1 => exact f
 | _ => exact f
structure PrOk (cf : Cfg) (K : Frag) (prog : Program) (P : Params) (b : Heap) (G : Glob) : Prop where
 fn : ∀ f g a, fnOf G f G.fns = some g → cf.fa f = some a → FnAt cf K P b g a
 cls : ∀ c C, cf.ca c = some C → (fnOf G (mkM c nInit) G.fns).isSome = true → ClsOk cf K G c C
 xg : ∀ c, inL c cf.xs = true → glo G c = some (.cls c)
 xc : ∀ c C, inL c cf.xs = true → cf.ca c = some C → XcOk K C ∧ exmOne K (.ref C) (.ref C) = some true
 lam : LamOk cf b
 nms : Names K
 te : TokEq cf P b
 tree : prog.given.tree = none
noncomputable def CallAt (cf : Cfg) (P : Params) (b : Heap) (M : Model) (n f : Nat) (vs : List V) (σ : Store) (q : Res) : Prop := ∀ {A : Around} {stk : List SE} {fL : Addr} {s : Shared} {w : Wd} {a : Addr} {vals : List Value},
 Cx A n stk fL → StkOk stk w → St cf b s.heap w → Live cf P b w σ → cf.fa f = some a → DenLW cf P b w vs vals → ∀ Q E, Fin cf P b fL s w q Q E → KeepAt M s.heap (.ref a) ∧ codeAny M A (.call (.ref a) ⟨vals, []⟩) (wants Q E) s
noncomputable def HookOk (cf : Cfg) (P : Params) (b : Heap) (M : Model) (G : Glob) : Prop := ∀ f vs σ k q, G.hook f vs σ = some (k, q) → (fnOf G f G.fns).isSome = true ∧ CallAt cf P b M k f vs σ q
theorem Cx.le {m : Nat} (h : Cx A n stk fL) (hm : m ≤ n) : Cx A m stk fL := ⟨h.hh, h.fr, h.top, by have := h.dp; omega, by have := h.un; omega⟩
structure All (cf : Cfg) (prog : Program) (wd : World) (b : Heap) (n : Nat) (r : Task → Res) : Prop where
 E : SndE cf wd.params b (model prog wd) n r
 L : SndL cf wd.params b (model prog wd) n r
 T : SndT cf wd.params b (model prog wd) n r
 B : SndB cf wd.params b (model prog wd) n r
 P : SndP cf prog wd b n r
 C : SndC cf wd.params b (model prog wd) n r
 CF : SndCF cf wd.params b (model prog wd) n r
 R : SndR cf prog wd b n r
 F : SndF cf prog wd b n r
 W : SndW cf prog wd b n r
 K : SndK cf prog wd b n r
 U : SndU cf prog wd b n r
 N : LenR r
theorem all_zero : All cf prog wd b 0 (run G 0) :=
 ⟨@fun z_ z_ z_ z_ z_ z_ z_ z_ z_ z_ z_ z_ z_ z_ f => f.elim, @fun z_ z_ z_ z_ z_ z_ z_ z_ z_ z_ z_ z_ z_ z_ z_ f => f.elim, @fun z_ z_ z_ z_ z_ z_ z_ z_ z_ z_ z_ z_ z_ z_ f => f.elim, @fun z_ z_ z_ z_ z_ z_ z_ z_ z_ z_ z_ z_ z_ z_ f => f.elim, @fun z_ z_ z_ z_ z_ z_ z_ z_ z_ z_ z_ z_ z_ z_ z_ z_ z_ z_ z_ f => f.elim, @fun z_ z_ z_ z_ z_ z_ z_ z_ z_ z_ z_ z_ z_ z_ z_ z_ z_ z_ f => f.elim, @fun z_ z_ z_ z_ z_ z_ z_ z_ z_ z_ z_ z_ z_ z_ z_ z_ z_ z_ f => f.elim, @fun z_ z_ z_ z_ z_ z_ z_ z_ z_ z_ z_ z_ z_ z_ z_ z_ z_ z_ f => f.elim, @fun z_ z_ z_ z_ z_ z_ z_ z_ z_ z_ z_ z_ z_ z_ z_ z_ z_ z_ z_ z_ z_ z_ z_ z_ z_ z_ z_ z_ z_ z_ f => f.elim, @fun z_ z_ z_ z_ z_ z_ z_ z_ z_ z_ z_ z_ z_ z_ z_ z_ z_ f => f.elim, @fun z_ z_ z_ z_ z_ z_ z_ z_ z_ z_ z_ z_ z_ z_ z_ z_ z_ z_ z_ z_ z_ z_ z_ z_ z_ z_ z_ z_ z_ z_ z_ z_ z_ z_ z_ z_ z_ z_ z_ z_ z_ z_ z_ z_ f => f.elim, @fun z_ z_ z_ z_ z_ z_ z_ z_ z_ z_ z_ z_ z_ z_ z_ z_ z_ z_ z_ z_ z_ z_ f => f.elim, fun z_ z_ z_ z_ z_ h => nomatch h⟩
theorem E_succ (B : Bs cf K p loose mean mg mb wd.params b G) (PO : PrOk cf K prog wd.params b G) (I : All cf prog wd b n (run G n)) : SndE cf wd.params b (model prog wd) (n + 1) (run G (n + 1)) := by
 intro A stk fL en env s w σ e x O R
 cases R with
 | cn => exact e_cn O
 | cb => exact e_cb O
 | ci => exact e_ci O
 | cs => exact e_cs O
 | cy h => exact e_cy h O
 | neg h => exact e_neg (G := G) @I.E O h
 | nam h1 h2 => exact e_v (G := G) B O (.nam h1 h2)
 | tupR h1 h2 h3 => exact e_tup (G := G) @I.L I.N O (.of h1 h2) h3
 | lstR h1 h2 h3 => exact e_lst (G := G) @I.L I.N O (.of h1 h2) h3
 | dctR h0 h1 h2 h3 h4 h5 => exact e_dct (G := G) @I.P B.sysm O h0 (.of h1 h2) h3 h4 h5
 | bin h1 h2 => exact e_bin (G := G) @I.E B PO.tree O h1 h2
 | cmp h1 h2 => exact e_cmp (G := G) PO.te @I.E B.sysm O h1 h2
 | cmp2 h1 h2 h3 => exact e_cmp2 (G := G) PO.te @I.E B.sysm O h1 h2 h3
 | andR h1 h2 => exact e_and (G := G) @I.E O (.of h1 h2)
 | orR h1 h2 => exact e_or (G := G) @I.E O (.of h1 h2)
 | not_ h => exact e_not (G := G) @I.E O h
 | ite h1 h2 h3 => exact e_ite (G := G) @I.E @I.T O h1 h2 h3
 | sub h1 h2 h3 => exact e_sub (G := G) @I.E B.sysm O h1 h2 h3
 | slcR h1 h2 h3 h4 h5 => exact e_slc (G := G) @I.E O h1 (.of h2 h3) (.of h4 h5)
 | att h1 h2 h3 => exact e_att (G := G) @I.E B O h1 h2 h3
 | callR h1 h2 h3 h4 h5 => exact e_call (G := G) @I.E @I.L @I.C O h1 h2 (.of h3 h4)
 | methR h1 h2 h3 h4 h5 h6 => exact e_meth (G := G) @I.E @I.L @I.C B O h1 h2 h3 (.of h4 h5) h6
 | tenm h1 h2 h3 => exact e_tenm (G := G) @I.E B PO.nms O h1 h2 h3
 | compR h1 h2 h3 h4 h5 h6 h7 h8 h9 h10 h11 h12 h13 => exact e_comp (G := G) @I.R @I.K B.last O (.mk h1 h2 ⟨h3, .of h4 h5⟩ (.of h6 h7) h8 h9 h10 h11 h12 h13)
 | lam h => exact e_lam B PO.lam O h
theorem T_succ (B : Bs cf K p loose mean mg mb wd.params b G) (PO : PrOk cf K prog wd.params b G) (J : ∀ m, m < n → SndE cf wd.params b (model prog wd) m (run G m)) (I : All cf prog wd b n (run G n)) : SndT cf wd.params b (model prog wd) (n + 1) (run G (n + 1)) := by
 intro A stk fL en env s w σ e x O R
 cases R with
 | not_ h => exact t_not (G := G) @I.T O h
 | andR h1 h2 => exact t_and (G := G) @I.T O (.of h1 h2)
 | orR h1 h2 => exact t_or (G := G) @I.T O (.of h1 h2)
 | ite => exact fun z_ z_ f => f.elim
 | cmp2 => exact fun z_ z_ f => f.elim
 | cmp h1 h2 =>
  cases n with
  | zero => exact fun z_ z_ f => f.elim
  | succ m => exact fun Q E f => t_cmp (G := G) PO.te (J m (Nat.lt_succ_self m)) B.sysm O.down h1 h2 Q E (finT_plain (res := step G (run G m) _) f)
 | cn => exact t_plain @I.E O .cn rfl
 | cb => exact t_plain @I.E O .cb rfl
 | ci => exact t_plain @I.E O .ci rfl
 | cs => exact t_plain @I.E O .cs rfl
 | cy h => exact t_plain @I.E O (.cy h) rfl
 | neg h => exact t_plain @I.E O (.neg h) rfl
 | nam h1 h2 => exact t_plain @I.E O (.nam h1 h2) rfl
 | tupR h1 h2 h3 => exact t_plain @I.E O (.tupR h1 h2 h3) rfl
 | lstR h1 h2 h3 => exact t_plain @I.E O (.lstR h1 h2 h3) rfl
 | dctR h0 h1 h2 h3 h4 h5 => exact t_plain @I.E O (.dctR h0 h1 h2 h3 h4 h5) rfl
 | bin h1 h2 => exact t_plain @I.E O (.bin h1 h2) rfl
 | sub h1 h2 h3 => exact t_plain @I.E O (.sub h1 h2 h3) rfl
 | slcR h1 h2 h3 h4 h5 => exact t_plain @I.E O (.slcR h1 h2 h3 h4 h5) rfl
 | att h1 h2 h3 => exact t_plain @I.E O (.att h1 h2 h3) rfl
 | callR h1 h2 h3 h4 h5 => exact t_plain @I.E O (.callR h1 h2 h3 h4 h5) rfl
 | methR h1 h2 h3 h4 h5 h6 => exact t_plain @I.E O (.methR h1 h2 h3 h4 h5 h6) rfl
 | tenm h1 h2 h3 => exact t_plain @I.E O (.tenm h1 h2 h3) rfl
 | compR h1 h2 h3 h4 h5 h6 h7 h8 h9 h10 h11 h12 h13 => exact t_plain @I.E O (.compR h1 h2 h3 h4 h5 h6 h7 h8 h9 h10 h11 h12 h13) rfl
 | lam h => exact t_plain @I.E O (.lam h) rfl
theorem pl_iset {e : PE} (h : plE e = true) : isSet e = false := by cases e <;> first | rfl | exact nomatch h
theorem B_succ (B : Bs cf K p loose mean mg mb wd.params b G) (PO : PrOk cf K prog wd.params b G) (I : All cf prog wd b n (run G n)) : SndB cf wd.params b (model prog wd) (n + 1) (run G (n + 1)) := by
 intro A stk fL en env s w σ ss xs O R
 cases R with
 | nil => exact s_nil (r := run G n) (G := G) O
 | @cons st x ss xs h l =>
  cases h with
  | asgL h1 h2 h3 => exact s_asgL (G := G) @I.E @I.B O h1 h2 h3 l
  | asgX h1 h2 h3 h4 => exact s_asgX (G := G) @I.U @I.B O h1 h2 h3 h4 l
  | asgC h1 h2 h3 => exact s_asgC (G := G) @I.E @I.B O h1 h2 h3 l
  | asgA h1 h2 h3 h4 => exact s_asgA (G := G) @I.E @I.B B O h1 h2 h3 h4 l
  | asgS h1 h2 h3 h4 => exact s_asgS (G := G) @I.E @I.B B.sysm O h1 h2 h3 h4 l
  | asgT h1 h2 h3 h4 => exact s_asgT (G := G) @I.E @I.B O h1 h2 h3 h4 l
  | ret h => exact s_ret (G := G) (xs := xs) @I.E O h
  | ret0 => exact s_ret0 (r := run G n) (G := G) (xs := xs) O
  | ife h1 h2 h3 => exact s_ife (G := G) @I.T @I.B O h1 h2 h3 l
  | whl h1 h2 => exact s_whl (G := G) @I.W @I.B O h1 h2 l
  | for_ h1 h2 h3 h4 => exact s_for (G := G) @I.R @I.F @I.B O h1 h2 h3 (pl_iset h2.pl) h4 l
  | exp h1 h2 => exact s_exp (G := G) @I.E @I.B O h1 h2 l
  | rse h1 h2 h3 h4 h5 => exact s_rse (G := G) (ys := xs) B PO.nms (fun C hC => (PO.xc _ C h2 hC).1) @I.L O h1 h3 (PO.xg _ h2) h4 h5 I.N
  | try1 h1 h2 h3 h4 => exact s_try (G := G) B @I.B O h4 l h1 h3 (PO.xg _ h2) fun C hC => (PO.xc _ C h2 hC).2
  | try2 h => exact s_try2 (G := G) @I.B O h l
  | pass => exact s_pass (G := G) @I.B O l
  | dead => exact fun z_ z_ f => f.elim
theorem CF_succ (B : Bs cf K p loose mean mg mb wd.params b G) (PO : PrOk cf K prog wd.params b G) (HO : HookOk cf wd.params b (model prog wd) G) (I : All cf prog wd b n (run G n)) : SndCF cf wd.params b (model prog wd) (n + 1) (run G (n + 1)) := by
 intro A stk fL s w σ f a vs vals cx so S L ha dl Q E ff
 have plain : Fin cf wd.params b fL s w (step G (run G n) (.call (.fn f) vs σ)) Q E → KeepAt (model prog wd) s.heap (.ref a) ∧ codeAny (model prog wd) A (.call (.ref a) ⟨vals, []⟩) (wants Q E) s := fun ff => by
  obtain ⟨g, hg, _⟩ := Fin.need ff
  exact call_fn B @I.B (PO.fn f g a hg ha) hg cx.z so S L dl ff
 have e : run G (n + 1) (.call (.fn f) vs σ) = match (match G.hook f vs σ with
  | some (k, q) => match Nat.ble k n with
   | true => some q
   | false => none
  | none => none : Option Res) with
  | some q => q
  | none => step G (run G n) (.call (.fn f) vs σ) := rfl
 rw [e] at ff
 cases hh : G.hook f vs σ with
 | none => rw [hh] at ff; exact plain ff
 | some kq =>
  obtain ⟨k, q⟩ := kq
  rw [hh] at ff
  cases hk : Nat.ble k n with
  | false => dsimp only at ff; rw [hk] at ff; exact plain ff
  | true =>
   dsimp only at ff
   rw [hk] at ff
   exact (HO f vs σ k q hh).2 (cx.le (Nat.le_succ_of_le (nle hk))) so S L ha dl Q E ff
theorem third_eq {us : List V} {x : V} (e : third us = some x) : ∃ u1 u2 r, us = u1 :: u2 :: x :: r := by
 cases us with
 | nil => exact noS e
 | cons u1 us => cases us with
  | nil => exact noS e
  | cons u2 us => cases us with
   | nil => exact noS e
   | cons u3 us => obtain rfl := sI e; exact ⟨_, _, _, rfl⟩
theorem mid3_eq {vs : List V} {t : V} (e : mid3 vs = some t) : ∃ v z, vs = [v, t, z] := by
 cases vs with
 | nil => exact noS e
 | cons v vs => cases vs with
  | nil => exact noS e
  | cons u vs => cases vs with
   | nil => exact noS e
   | cons z vs => cases vs with
    | nil => obtain rfl := sI e; exact ⟨_, _, rfl⟩
    | cons _ _ => exact noS e
theorem lamA_eq {vs : List V} {x : V} (e : lamA vs = some x) : ∃ v u1 u2 us z, vs = [v, .tup (u1 :: u2 :: x :: us), z] := by
 unfold lamA at e
 obtain ⟨t, h1, e1⟩ := obe e
 obtain ⟨us, h2, e2⟩ := obe e1
 obtain ⟨v, z, rfl⟩ := mid3_eq h1
 obtain ⟨u1, u2, r, rfl⟩ := third_eq e2
 obtain rfl := tupV_eq h2
 exact ⟨_, _, _, _, _, rfl⟩
theorem C_succ (B : Bs cf K p loose mean mg mb wd.params b G) (PO : PrOk cf K prog wd.params b G) (HO : HookOk cf wd.params b (model prog wd) G) (CF : SndCF cf wd.params b (model prog wd) (n + 1) (run G (n + 1))) (I : All cf prog wd b n (run G n)) : SndC cf wd.params b (model prog wd) (n + 1) (run G (n + 1)) := by
 intro A stk fL s w σ fv fval vs vals cx so S L d dl Q E ff
 cases fv with
 | fn f =>
  obtain ⟨a, rfl, ha⟩ := d.inv
  have := CF cx so S L ha dl Q E ff
  exact ⟨this.1, wpAny_call this.2⟩
 | cls c =>
  cases hn : (fnOf G (mkM c nInit) G.fns).isSome with
  | true => exact call_cls B.X PO.cls @I.CF cx so S L d dl hn ff
  | false =>
   exfalso
   have hnone : fnOf G (mkM c nInit) G.fns = none := by cases h : fnOf G (mkM c nInit) G.fns with | none => rfl | some g => rw [h] at hn; injection hn
   have f1 : Fin cf wd.params b fL s w ((run G n (.call (.fn (mkM c nInit)) (.obj c σ.length :: vs) (σ ++ [.dct []]))).bind fun v σ' => needO (noneV v) fun z_ => .ok (.obj c σ.length) σ') Q E := ff
   have bad : run G n (.call (.fn (mkM c nInit)) (.obj c σ.length :: vs) (σ ++ [.dct []])) = .bad := by
    cases n with
    | zero => rfl
    | succ m =>
     have e : run G (m + 1) (.call (.fn (mkM c nInit)) (.obj c σ.length :: vs) (σ ++ [.dct []])) = match hooked G m (.call (.fn (mkM c nInit)) (.obj c σ.length :: vs) (σ ++ [.dct []])) with
      | some q => q
      | none => step G (run G m) (.call (.fn (mkM c nInit)) (.obj c σ.length :: vs) (σ ++ [.dct []])) := rfl
     have hk : hooked G m (.call (.fn (mkM c nInit)) (.obj c σ.length :: vs) (σ ++ [.dct []])) = none := by
      show (match G.hook (mkM c nInit) (.obj c σ.length :: vs) (σ ++ [.dct []]) with
       | some (k, q) => match Nat.ble k m with
        | true => some q
        | false => none
       | none => none : Option Res) = none
      cases hh : G.hook (mkM c nInit) (.obj c σ.length :: vs) (σ ++ [.dct []]) with
      | none => rfl
      | some kq => have := (HO _ _ _ kq.1 kq.2 hh).1; rw [hn] at this; exact noB this
     rw [e, hk]
     show needO (fnOf G (mkM c nInit) G.fns) _ = _
     rw [hnone]; rfl
   rw [bad] at f1
   exact f1
 | blt x =>
  obtain rfl := d.inv
  exact ⟨⟨.machine, .inr (.inl rfl), by cases x <;> exact .now⟩, call_blt (B.X.keeps S.stays) cx.hh S L dl ff⟩
 | lam =>
  obtain ⟨x, e, ff⟩ := oko_ok (o := lamA vs) ff
  obtain ⟨v, u1, u2, us, z, rfl⟩ := lamA_eq e
  exact call_lam B PO.lam cx S L d dl ff
 | _ => exact False.elim ff
theorem N_succ (N : LenR (run G n)) : LenR (run G (n + 1)) := by
 intro en xs σ vs σ' e
 cases xs with
 | nil => injection e with j1 j2; subst j1; subst j2; rfl
 | cons x xs =>
  have e : (run G n (.e en x σ)).bind (fun v σ => (run G n (.es en xs σ)).binds fun vs σ => .oks (v :: vs) σ) = .oks vs σ' := e
  cases h1 : run G n (.e en x σ) with
  | ok v σ1 =>
   rw [h1] at e
   have e : (run G n (.es en xs σ1)).binds (fun vs σ => .oks (v :: vs) σ) = .oks vs σ' := e
   cases h2 : run G n (.es en xs σ1) with
   | oks us σ2 => rw [h2] at e; injection e with j1 j2; subst j1; subst j2; exact congrArg (· + 1) (N _ _ _ _ _ h2)
   | _ => rw [h2] at e; cases e
  | _ => rw [h1] at e; cases e
theorem all_succ (B : Bs cf K p loose mean mg mb wd.params b G) (PO : PrOk cf K prog wd.params b G) (HO : HookOk cf wd.params b (model prog wd) G) (J : ∀ m, m < n → SndE cf wd.params b (model prog wd) m (run G m)) (I : All cf prog wd b n (run G n)) : All cf prog wd b (n + 1) (run G (n + 1)) :=
 have CF : SndCF cf wd.params b (model prog wd) (n + 1) (run G (n + 1)) := by intro A stk fL s w σ f a vs vals; exact CF_succ B PO HO I
 {E := by intro A stk fL en env s w σ e x; exact E_succ B PO I
  L := by intro A stk fL en env s w σ pos e x O R; exact es_ (G := G) @I.E @I.L O R
  T := by intro A stk fL en env s w σ e x; exact T_succ B PO J I
  B := by intro A stk fL en env s w σ ss xs; exact B_succ B PO I
  P := by intro A stk fL en env s w σ pos ks ns es xs O R1 R2 hl Q E f; exact ps_ (G := G) @I.E @I.P O R1 R2 hl f
  C := by intro A stk fL s w σ fv fval vs vals; exact C_succ B PO HO @CF I
  CF := @CF
  R := by intro A stk fL en env s w σ iter tar src tt O R ho hs Q E f; exact src_ (G := G) @I.E B PO.nms O R ho hs f
  F := by intro A stk fL en env s w0 w σ tar ts tt pre items body bx It xs fp Sti; exact for_ (G := G) @I.B @I.F
  W := by intro A stk fL en env s w σ test c body bx; exact whl_ (G := G) @I.T @I.B @I.W
  K := by intro A stk fL en cenv s w0 w σ el tar iter a ifs cond ts tt pre items acc accv sc2 pos It D xs fp Sti q; exact comp_ (G := G) @I.E @I.T @I.K
  U := by intro A stk fL en env s w σ el tar iter ifs sc2 pos py x y; exact use_ (G := G) @I.R @I.K B.last
  N := N_succ I.N }
theorem all_run (B : Bs cf K p loose mean mg mb wd.params b G) (PO : PrOk cf K prog wd.params b G) (HO : HookOk cf wd.params b (model prog wd) G) (n : Nat) : ∀ m, m ≤ n → All cf prog wd b m (run G m) := by
 induction n with
 | zero => intro m hm; obtain rfl := Nat.le_zero.mp hm; exact all_zero
 | succ n ih =>
  intro m hm
  rcases Nat.lt_or_ge m (n + 1) with h | h
  ·exact ih m (Nat.le_of_lt_succ h)
  ·obtain rfl := Nat.le_antisymm hm h
   exact all_succ B PO HO (fun m hm => by intro A stk fL en env s w σ e x; exact (ih m (Nat.le_of_lt hm)).E) (ih n (Nat.le_refl n))
end Mine
end
section
open PySem PySem.W PyProof.Rows PySem.Calls PySem.SeqAt
namespace Mine
noncomputable abbrev PS := PySem.Stmt
noncomputable section
noncomputable def eqS (s : Str) (n : Nat) : Bool := Fast.sEq s (strOf n)
theorem eqS_eq {s : Str} {n : Nat} (h : eqS s n = true) : s = strOf n := Fast.sEq_iff.mp h
noncomputable def gd {α : Type} (b : Bool) (x : α) : Option α := match b with
 | true => some x
 | false => none
theorem gdS {α : Type} {b : Bool} {x y : α} (h : gd b x = some y) : b = true ∧ x = y := by
 cases b with
 | true => exact ⟨rfl, Option.some.inj h⟩
 | false => exact noS h
theorem bndS {α β : Type} {o : Option α} {k : α → Option β} {y : β} (h : o.bind k = some y) : ∃ x, o = some x ∧ k x = some y := by
 cases o with
 | some x => exact ⟨x, rfl, h⟩
 | none => exact noS h
theorem mapS {α β : Type} {o : Option α} {k : α → β} {y : β} (h : o.map k = some y) : ∃ x, o = some x ∧ k x = y := by
 cases o with
 | some x => exact ⟨x, rfl, Option.some.inj h⟩
 | none => exact noS h
theorem and2 {a b : Bool} (h : (a && b) = true) : a = true ∧ b = true := Bool.and_eq_true_iff.mp h
theorem not_f {b : Bool} (h : (!b) = true) : b = false := by cases b <;> first | rfl | exact noB h
theorem beqN {a b : Nat} (h : (!Nat.beq a b) = true) : a ≠ b := fun q => by rw [q, Nat.beq_refl] at h; exact noB h
noncomputable def cod (s : Str) : Option Nat := gd (eqS s (encL s.cps.toList)) (encL s.cps.toList)
theorem cod_eq {s : Str} {n : Nat} (h : cod s = some n) : s = strOf n := by
 obtain ⟨h1, h2⟩ := gdS h
 rw [← h2]; exact eqS_eq h1
noncomputable def lkS (s : Str) : List (Str × NameKind) → Option NameKind
 | [] => none
 | p :: r => match Fast.sEq p.1 s with
  | true => some p.2
  | false => lkS s r
theorem lkS_eq (s : Str) (l : List (Str × NameKind)) : l.lookup s = lkS s l := by
 induction l with
 | nil => rfl
 | cons p r ih =>
  rw [List.lookup_cons]
  unfold lkS
  cases h : Fast.sEq p.1 s with
  | true => rw [Fast.sEq_iff.mp h, beq_self_eq_true]
  | false =>
   have : (s == p.1) = false := beq_eq_false_iff_ne.mpr fun q => by rw [Fast.sEq_iff.mpr q.symm] at h; injection h
   rw [this]
   exact ih
noncomputable def isK (sc : Scope) (s : Str) (k : NameKind) : Bool := decide (lkS s sc.names = some k)
theorem isK_eq {sc : Scope} {s : Str} {k : NameKind} (h : isK sc s k = true) : sc.names.lookup s = some k := (lkS_eq s _).trans (of_decide_eq_true h)
noncomputable def vk : NameKind → Option VK
 | .local => some .loc
 | .cell => some .cel
 | .globalImplicit => some .glo
 | _ => none
theorem vk_eq {k : NameKind} {v : VK} (h : vk k = some v) : k = kV v := by cases k <;> cases h <;> rfl
noncomputable def nam (sc : Scope) (s : Str) : Option (VK × Nat) := (cod s).bind fun n => (lkS s sc.names).bind fun k => (vk k).map fun v => (v, n)
theorem nam_eq {sc : Scope} {s : Str} {p : VK × Nat} (h : nam sc s = some p) : s = strOf p.2 ∧ sc.names.lookup (strOf p.2) = some (kV p.1) := by
 obtain ⟨n, h1, h⟩ := bndS h
 obtain ⟨k, h2, h⟩ := bndS h
 obtain ⟨v, h3, h⟩ := mapS h
 subst h
 have e := cod_eq h1
 exact ⟨e, by rw [← e, lkS_eq, h2, vk_eq h3]⟩
noncomputable def trL (f : PE → Option Ex) : List PE → Option (List Ex)
 | [] => some []
 | e :: es => (f e).bind fun x => (trL f es).map (x :: ·)
theorem trL_eq {R : PE → Ex → Prop} {f : PE → Option Ex} (ih : ∀ {e x}, f e = some x → R e x) {es : List PE} {xs : List Ex} (h : trL f es = some xs) : es.length = xs.length ∧ ∀ p ∈ es.zip xs, R p.1 p.2 := by
 induction es generalizing xs with
 | nil => obtain rfl := sI h; exact ⟨rfl, fun z_ h => nomatch h⟩
 | cons e es jh =>
  obtain ⟨x, h1, h⟩ := bndS h
  obtain ⟨ys, h2, h⟩ := mapS h
  subst h
  obtain ⟨h3, h4⟩ := jh h2
  refine ⟨congrArg (· + 1) h3, fun p hp => ?_⟩
  rcases List.mem_cons.mp hp with rfl | hp
  ·exact ih h1
  ·exact h4 p hp
noncomputable def trO (f : PE → Option Ex) : Option PE → Option (Option Ex)
 | none => some none
 | some e => (f e).map some
theorem trO_eq {R : PE → Ex → Prop} {f : PE → Option Ex} (ih : ∀ {e x}, f e = some x → R e x) {es : Option PE} {xs : Option Ex} (h : trO f es = some xs) : es.toList.length = xs.toList.length ∧ ∀ p ∈ es.toList.zip xs.toList, R p.1 p.2 := by
 cases es with
 | none => obtain rfl := sI h; exact ⟨rfl, fun z_ h => nomatch h⟩
 | some e =>
  obtain ⟨x, h1, h⟩ := mapS h
  subst h
  exact ⟨rfl, fun p hp => by obtain rfl := List.mem_singleton.mp hp; exact ih h1⟩
noncomputable def kstC : Const → Option Str
 | .str s => some s
 | _ => none
noncomputable def kst : PE → Option Str
 | .Constant c _ _ => kstC c
 | _ => none
theorem kst_eq {e : PE} {s : Str} (h : kst e = some s) : ∃ k p, e = .Constant (.str s) k p := by
 cases e with
 | Constant c k p => cases c with
  | str t => obtain rfl := sI h; exact ⟨_, _, rfl⟩
  | _ => exact noS h
 | _ => exact noS h
noncomputable def kys : List (Option PE) → Option (List Nat)
 | [] => some []
 | none :: _ => none
 | some e :: r => (kst e).bind fun s => (cod s).bind fun n => (kys r).map (n :: ·)
theorem kys_eq {ks : List (Option PE)} {ns : List Nat} (h : kys ks = some ns) : KeysEr ks ns := by
 induction ks generalizing ns with
 | nil => obtain rfl := sI h; exact .nil
 | cons k r ih =>
  cases k with
  | none => exact noS h
  | some e =>
   obtain ⟨s, h1, h⟩ := bndS h
   obtain ⟨n, h2, h⟩ := bndS h
   obtain ⟨l, h3, h⟩ := mapS h
   subst h
   obtain ⟨k, p, rfl⟩ := kst_eq h1
   rw [cod_eq h2]
   exact .cons (ih h3)
noncomputable def nodupN : List Nat → Bool
 | [] => true
 | x :: r => !inL x r && nodupN r
theorem inL_mem {x : Nat} {l : List Nat} (h : x ∈ l) : inL x l = true := by
 induction h with
 | head => unfold inL; rw [Nat.beq_refl]; rfl
 | tail _ _ ih => unfold inL; rw [ih]; exact Bool.or_true _
theorem nodupN_eq {l : List Nat} (h : nodupN l = true) : l.Nodup := by
 induction l with
 | nil => exact List.nodup_nil
 | cons x r ih =>
  obtain ⟨h1, h2⟩ := and2 h
  refine List.nodup_cons.mpr ⟨fun q => ?_, ih h2⟩
  rw [inL_mem q] at h1; exact noB h1
noncomputable def trC : Const → Option Ex
 | .none => some .cn
 | .bool b => some (.cb b)
 | .int i => some (.ci i)
 | .str s => (cod s).map .cs
 | .bytes l => gd ((l.map UInt8.toNat).all fun c => Nat.blt c 256) (.cy (l.map UInt8.toNat))
 | _ => none
theorem trC_eq {cf : Cfg} {sc : Scope} {c : Const} {k : Nat} {p : Pos} {x : Ex} (h : trC c = some x) : Er cf sc (.Constant c k p) x := by
 cases c with
 | none => obtain rfl := sI h; exact .cn
 | bool b => obtain rfl := sI h; exact .cb
 | int i => obtain rfl := sI h; exact .ci
 | str s =>
  obtain ⟨n, h1, h⟩ := mapS h
  subst h
  rw [cod_eq h1]; exact .cs
 | bytes l =>
  obtain ⟨h1, rfl⟩ := gdS h
  have e : l = (l.map UInt8.toNat).map UInt8.ofNat := by
   rw [List.map_map]
   exact (List.map_congr_left fun c z_ => UInt8.ofNat_toNat).symm ▸ (List.map_id l).symm
  rw [congrArg Const.bytes e]
  exact .cy fun c hc => nle (List.all_eq_true.mp h1 c hc)
 | _ => exact noS h
noncomputable def bop : Operator → Option Bop
 | .Add => some .add
 | .Sub => some .sub
 | .Mult => some .mul
 | .FloorDiv => some .fdiv
 | .Mod => some .mod
 | .Pow => some .pow
 | _ => none
theorem bop_eq {o : Operator} {b : Bop} (h : bop o = some b) : o = opOf b := by cases o <;> cases h <;> rfl
noncomputable def tarN (sc : Scope) : PE → Option Nat
 | .Name s _ => (cod s).bind fun n => gd (isK sc s .local) n
 | _ => none
theorem tarN_eq {sc : Scope} {e : PE} {n : Nat} (h : tarN sc e = some n) : (∃ p, e = .Name (strOf n) p) ∧ sc.names.lookup (strOf n) = some .local := by
 cases e with
 | Name s p =>
  obtain ⟨m, h1, h⟩ := bndS h
  obtain ⟨h2, rfl⟩ := gdS h
  obtain rfl := cod_eq h1
  exact ⟨⟨p, rfl⟩, isK_eq h2⟩
 | _ => exact noS h
noncomputable def two {α : Type} : List α → Option (α × α)
 | [a, b] => some (a, b)
 | _ => none
theorem two_eq {α : Type} {l : List α} {p : α × α} (h : two l = some p) : l = [p.1, p.2] := by
 match l, h with
 | [_, _], h => obtain rfl := sI h; rfl
noncomputable def tarX (sc : Scope) : PE → Option (List Nat × Bool)
 | .Name s p => (tarN sc (.Name s p)).map fun n => ([n], false)
 | .Tuple l _ _ => (two l).bind fun q => (tarN sc q.1).bind fun n => (tarN sc q.2).bind fun m => gd (!Nat.beq n m) ([n, m], true)
 | _ => none
theorem tarX_eq {sc : Scope} {e : PE} {r : List Nat × Bool} (h : tarX sc e = some r) : TarEr sc e r.1 r.2 := by
 cases e with
 | Name s p =>
  obtain ⟨n, h1, h⟩ := mapS h
  subst h
  obtain ⟨⟨q, e⟩, h2⟩ := tarN_eq h1
  rw [e]; exact .one h2
 | Tuple l k p =>
  obtain ⟨q, h1, h⟩ := bndS h
  obtain ⟨n, h2, h⟩ := bndS h
  obtain ⟨m, h3, h⟩ := bndS h
  obtain ⟨h4, rfl⟩ := gdS h
  rw [two_eq h1]
  obtain ⟨⟨p1, e1⟩, g1⟩ := tarN_eq h2
  obtain ⟨⟨p2, e2⟩, g2⟩ := tarN_eq h3
  rw [e1, e2]
  exact .two g1 g2 (beqN h4)
 | _ => exact noS h
noncomputable def nEnum : Nat := encL [101, 110, 117, 109, 101, 114, 97, 116, 101]
noncomputable def nTup : Nat := encL [116, 117, 112, 108, 101]
noncomputable def nRng : Nat := encL [114, 97, 110, 103, 101]
noncomputable def nZip : Nat := encL [122, 105, 112]
theorem s_enum : strOf nEnum = Str.ofString "enumerate" := by decide +kernel
theorem s_tup : strOf nTup = Str.ofString "tuple" := by decide +kernel
theorem s_rng : strOf nRng = Str.ofString "range" := by decide +kernel
theorem s_zip : strOf nZip = Str.ofString "zip" := by decide +kernel
noncomputable def pOwn (sc : Scope) (n : Nat) : PE → Option (List PE)
 | .Call g l ks _ => match g with
  | .Name s _ => match ks with
   | [] => gd (eqS s n && isK sc s .globalImplicit) l
   | _ :: _ => none
  | _ => none
 | _ => none
theorem pOwn_eq {sc : Scope} {n : Nat} {e : PE} {l : List PE} (h : pOwn sc n e = some l) : ∃ p q, e = .Call (.Name (strOf n) p) l [] q ∧ sc.names.lookup (strOf n) = some .globalImplicit := by
 cases e with
 | Call g l ks p => cases g with
  | Name s q => cases ks with
   | nil =>
    obtain ⟨h1, rfl⟩ := gdS h
    obtain ⟨h1, h2⟩ := and2 h1
    obtain rfl := eqS_eq h1
    exact ⟨_, _, rfl, isK_eq h2⟩
   | cons => exact noS h
  | _ => exact noS h
 | _ => exact noS h
noncomputable def one_ {α : Type} : List α → Option α
 | [a] => some a
 | _ => none
theorem one_eq {α : Type} {l : List α} {p : α} (h : one_ l = some p) : l = [p] := by
 match l, h with
 | [_], h => obtain rfl := sI h; rfl
noncomputable def trSrc (f : PE → Option Ex) (sc : Scope) (e : PE) : Option Src :=
 match pOwn sc nRng e with
 | some l => (one_ l).bind fun a => (f a).map .rng
 | none => match pOwn sc nEnum e with
  | some l => (one_ l).bind fun a => (f a).map .enm
  | none => match pOwn sc nZip e with
   | some l => (two l).bind fun a => (f a.1).bind fun x => (f a.2).map fun y => .zip x y
   | none => (f e).map .seq
structure SrcR (R : PE → Ex → Prop) (sc : Scope) (e : PE) (s : Src) : Prop where
 at_ : ∃ es xs, SrcSh sc e s es xs ∧ es.length = xs.length ∧ ∀ p ∈ es.zip xs, R p.1 p.2
theorem trSrc_eq {R : PE → Ex → Prop} {f : PE → Option Ex} (ih : ∀ {e x}, f e = some x → R e x) {sc : Scope} {e : PE} {s : Src} (h : trSrc f sc e = some s) : SrcR R sc e s := by
 have single : ∀ {a : PE} {x : Ex}, f a = some x → ∀ p ∈ [a].zip [x], R p.1 p.2 := fun h p hp => by obtain rfl := List.mem_singleton.mp hp; exact ih h
 unfold trSrc at h
 cases e1 : pOwn sc nRng e with
 | some l1 =>
  rw [e1] at h
  obtain ⟨a, h1, h⟩ := bndS h
  obtain ⟨x, h2, rfl⟩ := mapS h
  obtain ⟨p, q, rfl, g⟩ := pOwn_eq e1
  rw [s_rng] at g ⊢
  rw [one_eq h1]
  exact ⟨_, _, .rng g, rfl, single h2⟩
 | none =>
  rw [e1] at h
  cases e1 : pOwn sc nEnum e with
  | some l1 =>
   rw [e1] at h
   obtain ⟨a, h1, h⟩ := bndS h
   obtain ⟨x, h2, rfl⟩ := mapS h
   obtain ⟨p, q, rfl, g⟩ := pOwn_eq e1
   rw [s_enum] at g ⊢
   rw [one_eq h1]
   exact ⟨_, _, .enm g, rfl, single h2⟩
  | none =>
   rw [e1] at h
   cases e1 : pOwn sc nZip e with
   | some l1 =>
    rw [e1] at h
    obtain ⟨a, h1, h⟩ := bndS h
    obtain ⟨x, h2, h⟩ := bndS h
    obtain ⟨y, h3, rfl⟩ := mapS h
    obtain ⟨p, q, rfl, g⟩ := pOwn_eq e1
    rw [s_zip] at g ⊢
    rw [two_eq h1]
    exact ⟨_, _, .zip g, rfl, fun p hp => by
     rcases List.mem_cons.mp hp with rfl | hp
     ·exact ih h2
     ·exact single h3 p hp⟩
   | none =>
    rw [e1] at h
    obtain ⟨x, h2, rfl⟩ := mapS h
    exact ⟨_, _, .seq, rfl, single h2⟩
noncomputable def neN : List (Str × NameKind) → List (Str × NameKind) → Bool
 | [], m => match m with
  | [] => false
  | _ :: _ => true
 | p :: l, m => match m with
  | [] => true
  | q :: m => !Fast.sEq p.1 q.1 || neN l m
theorem neN_ne {l m : List (Str × NameKind)} (h : neN l m = true) : l ≠ m := fun e => by
 subst e
 induction l with
 | nil => exact noB h
 | cons p l ih =>
  have h : (!Fast.sEq p.1 p.1 || neN l l) = true := h
  rw [Fast.sEq_iff.mpr rfl] at h
  exact ih h
noncomputable def okK (sc sc2 : Scope) (y : Str × NameKind) : Bool := match y.2 with
 | .cell => false
 | .local => isK sc2 y.1 .local
 | .free => isK sc y.1 .cell
 | _ => true
theorem okK_eq {sc sc2 : Scope} (h : sc2.names.all (okK sc sc2) = true) : (∀ y ∈ sc2.names, y.2 ≠ .cell) ∧ (∀ y ∈ sc2.names, y.2 = .local → sc2.names.lookup y.1 = some .local) ∧ ∀ y ∈ sc2.names, y.2 = .free → sc.names.lookup y.1 = some .cell := by
 have h := List.all_eq_true.mp h
 refine ⟨fun y hy q => ?_, fun y hy q => ?_, fun y hy q => ?_⟩ <;> have := h y hy <;> unfold okK at this <;> rw [q] at this
 ·exact noB this
 ·exact isK_eq this
 ·exact isK_eq this
noncomputable def slP : PE → Option (Option PE × Option PE)
 | .Slice a b c _ => match c with
  | none => some (a, b)
  | some _ => none
 | _ => none
theorem slP_eq {e : PE} {c} (h : slP e = some c) : ∃ p, e = .Slice c.1 c.2 none p := by
 cases e with
 | Slice a b c p => cases c with
  | none => obtain rfl := sI h; exact ⟨_, rfl⟩
  | some => exact noS h
 | _ => exact noS h
noncomputable def gen1 (l : List Comprehension) : Option (PE × PE × List PE) := (one_ l).bind fun g => gd (decide (g.is_async = 0)) (g.target, g.iter, g.ifs)
theorem gen1_eq {l : List Comprehension} {c} (h : gen1 l = some c) : l = [⟨c.1, c.2.1, c.2.2, 0⟩] := by
 obtain ⟨⟨t, i, s, a⟩, h1, h⟩ := bndS h
 obtain ⟨h2, rfl⟩ := gdS h
 cases of_decide_eq_true h2
 exact one_eq h1
noncomputable def opt1 : List Ex → Option (Option Ex)
 | [] => some none
 | [x] => some (some x)
 | _ => none
theorem opt1_eq {l : List Ex} {c : Option Ex} (h : opt1 l = some c) : c.toList = l := by
 match l, h with
 | [], h => obtain rfl := sI h; rfl
 | [_], h => obtain rfl := sI h; rfl
noncomputable def atP : PE → Option (PE × Str × Pos)
 | .Attribute o s p => some (o, s, p)
 | _ => none
theorem atP_eq {e : PE} {c} (h : atP e = some c) : e = .Attribute c.1 c.2.1 c.2.2 := by
 cases e with
 | Attribute a s p => obtain rfl := sI h; rfl
 | _ => exact noS h
noncomputable def trCall (f : PE → Option Ex) (g : PE) (es : List PE) (p : Pos) : Option Ex := (trL f es).bind fun xs => match atP g with
 | some (o, s, q) => (cod s).bind fun n => (f o).bind fun x => gd (!isCall o && q.endLine == p.line && Nat.ble es.length 20) (.meth x n xs)
 | none => (f g).bind fun x => gd (!isAttr g && Nat.ble es.length 20) (.call x xs)
theorem trCall_eq {cf : Cfg} {sc : Scope} {f : PE → Option Ex} (ih : ∀ {e x}, f e = some x → Er cf sc e x) {g : PE} {es : List PE} {p : Pos} {x : Ex} (h : trCall f g es p = some x) : Er cf sc (.Call g es [] p) x := by
 obtain ⟨xs, h1, h⟩ := bndS h
 obtain ⟨l1, l2⟩ := trL_eq (R := Er cf sc) ih h1
 cases e1 : atP g with
 | some q =>
  obtain ⟨o, s, q⟩ := q
  rw [e1] at h
  obtain ⟨n, h2, h⟩ := bndS h
  obtain ⟨y, h3, h⟩ := bndS h
  obtain ⟨h4, rfl⟩ := gdS h
  obtain ⟨h4, h5⟩ := and2 h4
  obtain ⟨h4, h6⟩ := and2 h4
  have e2 := atP_eq e1
  dsimp only at e2
  rw [e2, cod_eq h2]
  exact .methR (ih h3) (not_f h4) h6 l1 l2 (nle h5)
 | none =>
  rw [e1] at h
  obtain ⟨y, h3, h⟩ := bndS h
  obtain ⟨h4, rfl⟩ := gdS h
  obtain ⟨h4, h5⟩ := and2 h4
  exact .callR (ih h3) (not_f h4) l1 l2 (nle h5)
noncomputable def trCmp (f : PE → Option Ex) (a : PE) (os : List CmpOp) (rs : List PE) : Option Ex := (f a).bind fun x => match one_ os with
 | some o => (one_ rs).bind fun r => (f r).map fun y => .cmp o x y
 | none => (two os).bind fun o => (two rs).bind fun r => (f r.1).bind fun y => (f r.2).map fun z => .cmp2 o.1 o.2 x y z
theorem trCmp_eq {cf : Cfg} {sc : Scope} {f : PE → Option Ex} (ih : ∀ {e x}, f e = some x → Er cf sc e x) {a : PE} {os : List CmpOp} {rs : List PE} {p : Pos} {x : Ex} (h : trCmp f a os rs = some x) : Er cf sc (.Compare a os rs p) x := by
 obtain ⟨y, h1, h⟩ := bndS h
 cases e1 : one_ os with
 | some l1 =>
  rw [e1] at h
  obtain ⟨r, h2, h⟩ := bndS h
  obtain ⟨z, h3, rfl⟩ := mapS h
  rw [one_eq e1, one_eq h2]
  exact .cmp (ih h1) (ih h3)
 | none =>
  rw [e1] at h
  obtain ⟨o, h2, h⟩ := bndS h
  obtain ⟨r, h3, h⟩ := bndS h
  obtain ⟨z, h4, h⟩ := bndS h
  obtain ⟨u, h5, rfl⟩ := mapS h
  rw [two_eq h2, two_eq h3]
  exact .cmp2 (ih h1) (ih h4) (ih h5)
noncomputable def trSub (f : PE → Option Ex) (o i : PE) : Option Ex := (f o).bind fun x => match slP i with
 | some (l, u) => (trO f l).bind fun y => (trO f u).map fun z => .slc x y z
 | none => (f i).bind fun y => gd (!isSlice i) (.sub x y)
theorem trSub_eq {cf : Cfg} {sc : Scope} {f : PE → Option Ex} (ih : ∀ {e x}, f e = some x → Er cf sc e x) {o i : PE} {p : Pos} {x : Ex} (h : trSub f o i = some x) : Er cf sc (.Subscript o i p) x := by
 obtain ⟨y, h1, h⟩ := bndS h
 cases e1 : slP i with
 | some lu =>
  obtain ⟨l', u'⟩ := lu
  rw [e1] at h
  obtain ⟨l, h2, h⟩ := bndS h
  obtain ⟨u, h3, rfl⟩ := mapS h
  obtain ⟨q, e2⟩ := slP_eq e1
  rw [e2]
  have a := trO_eq (R := Er cf sc) ih h2
  have b := trO_eq (R := Er cf sc) ih h3
  exact .slcR (ih h1) a.1 a.2 b.1 b.2
 | none =>
  rw [e1] at h
  obtain ⟨z, h2, h⟩ := bndS h
  obtain ⟨h3, rfl⟩ := gdS h
  exact .sub (ih h1) (ih h2) (not_f h3)
noncomputable def muA (mu : List Nat) (p : Pos) : Bool := inL (p.line * 1000 + p.col) mu
noncomputable def tenP (sc : Scope) (e : PE) : Option PE := (pOwn sc nTup e).bind fun l => (one_ l).bind fun g => (pOwn sc nEnum g).bind fun m => one_ m
theorem tenP_eq {cf : Cfg} {sc : Scope} {e a : PE} {x : Ex} (h : tenP sc e = some a) (hx : Er cf sc a x) : Er cf sc e (.tenm x) := by
 obtain ⟨l, h1, h⟩ := bndS h
 obtain ⟨g, h2, h⟩ := bndS h
 obtain ⟨m, h3, h4⟩ := bndS h
 clear h
 obtain ⟨p, q, rfl, k1⟩ := pOwn_eq h1
 obtain rfl := one_eq h2
 obtain ⟨p2, q2, rfl, k2⟩ := pOwn_eq h3
 obtain rfl := one_eq h4
 rw [s_tup] at k1 ⊢
 rw [s_enum] at k2 ⊢
 exact .tenm hx k1 k2
noncomputable def unX (o : PySem.UnaryOp) (x : Ex) : Option Ex := match o with
 | .USub => some (.neg x)
 | .Not => some (.not_ x)
 | _ => none
noncomputable def boX (o : PySem.BoolOp) (xs : List Ex) : Ex := match o with
 | .And => .and_ xs
 | .Or => .or_ xs
noncomputable def tr (cf : Cfg) (mu : List Nat) : Nat → Scope → PE → Option Ex
 | 0, _, _ => none
 | f + 1, sc, e => match e with
  | .Constant c _ _ => trC c
  | .UnaryOp o a _ => (tr cf mu f sc a).bind (unX o)
  | .Name s _ => (nam sc s).bind fun p => gd (!Nat.beq p.2 dbgN) (.v p.1 p.2)
  | .Tuple es _ _ => (trL (tr cf mu f sc) es).bind fun xs => gd (Nat.ble es.length 100) (.tup xs)
  | .List es p => (trL (tr cf mu f sc) es).bind fun xs => gd (Nat.ble es.length 100) (.lst (muA mu p) xs)
  | .Dict ks es p => (kys ks).bind fun ns => (trL (tr cf mu f sc) es).bind fun xs => gd (Nat.beq ks.length es.length && nodupN ns && Nat.ble ns.length 15) (.dct (muA mu p) ns xs)
  | .BinOp a o b _ => (bop o).bind fun op => (tr cf mu f sc a).bind fun x => (tr cf mu f sc b).map fun y => .bin op x y
  | .Compare a os rs _ => trCmp (tr cf mu f sc) a os rs
  | .BoolOp o es _ => (trL (tr cf mu f sc) es).map (boX o)
  | .IfExp a b c _ => (tr cf mu f sc a).bind fun x => (tr cf mu f sc b).bind fun y => (tr cf mu f sc c).map fun z => .ite x y z
  | .Subscript o i _ => trSub (tr cf mu f sc) o i
  | .Attribute o s _ => (cod s).bind fun n => (tr cf mu f sc o).bind fun x => gd (!isCall o && inL n cf.an) (.att x n)
  | .Call g es ks p => match ks with
   | _ :: _ => none
   | [] => match tenP sc (.Call g es [] p) with
    | some a => (tr cf mu f sc a).map .tenm
    | none => trCall (tr cf mu f sc) g es p
  | .ListComp elt gs sc2 _ => (gen1 gs).bind fun c => (tarX sc2 c.1).bind fun t => (trSrc (tr cf mu f sc) sc c.2.1).bind fun src => (trL (tr cf mu f (relS sc2 sc)) c.2.2).bind fun xs => (opt1 xs).bind fun cond => (tr cf mu f (relS sc2 sc) elt).bind fun x =>
   gd (decide (sc2.kind = .function) && sc2.names.all (okK sc sc2) && neN (relS sc2 sc).names cf.lamN && srcOk src t.2) (.comp x t.1 t.2 src cond)
  | _ => none
theorem tr_eq {cf : Cfg} {mu : List Nat} {f : Nat} {sc : Scope} {e : PE} {x : Ex} (h : tr cf mu f sc e = some x) : Er cf sc e x := by
 induction f generalizing sc e x with
 | zero => exact noS h
 | succ f ih =>
  have L : ∀ {es xs sc}, trL (tr cf mu f sc) es = some xs → es.length = xs.length ∧ ∀ p ∈ es.zip xs, Er cf sc p.1 p.2 := fun {es xs sc} h => trL_eq (R := Er cf sc) (fun h => ih h) h
  cases e with
  | Constant c k p => exact trC_eq h
  | UnaryOp o a p =>
   obtain ⟨y, h1, h⟩ := bndS h
   cases o with
   | USub => obtain rfl := sI h; exact .neg (ih h1)
   | Not => obtain rfl := sI h; exact .not_ (ih h1)
   | _ => exact noS h
  | Name s p =>
   obtain ⟨p, h1, h⟩ := bndS h
   obtain ⟨h2, rfl⟩ := gdS h
   obtain ⟨h3, h4⟩ := nam_eq h1
   rw [h3]
   exact .nam (not_f h2) h4
  | Tuple es k p =>
   obtain ⟨xs, h1, h⟩ := bndS h
   obtain ⟨h2, rfl⟩ := gdS h
   exact .tupR (L h1).1 (L h1).2 (nle h2)
  | List es p =>
   obtain ⟨xs, h1, h⟩ := bndS h
   obtain ⟨h2, rfl⟩ := gdS h
   exact .lstR (L h1).1 (L h1).2 (nle h2)
  | Dict ks es p =>
   obtain ⟨ns, h1, h⟩ := bndS h
   obtain ⟨xs, h2, h⟩ := bndS h
   obtain ⟨h3, rfl⟩ := gdS h
   obtain ⟨h3, h4⟩ := and2 h3
   obtain ⟨h3, h5⟩ := and2 h3
   exact .dctR (kys_eq h1) (L h2).1 (L h2).2 (nbe h3) (nodupN_eq h5) (nle h4)
  | BinOp a o b p =>
   obtain ⟨op, h1, h⟩ := bndS h
   obtain ⟨y, h2, h⟩ := bndS h
   obtain ⟨z, h3, rfl⟩ := mapS h
   rw [bop_eq h1]
   exact .bin (ih h2) (ih h3)
  | Compare a os rs p => exact trCmp_eq ih h
  | BoolOp o es p =>
   obtain ⟨xs, h1, rfl⟩ := mapS h
   cases o with
   | And => exact .andR (L h1).1 (L h1).2
   | Or => exact .orR (L h1).1 (L h1).2
  | IfExp a b c p =>
   obtain ⟨y, h1, h⟩ := bndS h
   obtain ⟨z, h2, h⟩ := bndS h
   obtain ⟨u, h3, rfl⟩ := mapS h
   exact .ite (ih h1) (ih h2) (ih h3)
  | Subscript o i p => exact trSub_eq ih h
  | Attribute o s p =>
   obtain ⟨n, h1, h⟩ := bndS h
   obtain ⟨y, h2, h⟩ := bndS h
   obtain ⟨h3, rfl⟩ := gdS h
   obtain ⟨h3, h4⟩ := and2 h3
   rw [cod_eq h1]
   exact .att (ih h2) (not_f h3) h4
  | Call g es ks p => cases ks with
   | cons => exact noS h
   | nil =>
    have h : (match tenP sc (.Call g es [] p) with
     | some a => (tr cf mu f sc a).map .tenm
     | none => trCall (tr cf mu f sc) g es p) = some x := h
    cases e1 : tenP sc (.Call g es [] p) with
    | some a =>
     rw [e1] at h
     obtain ⟨y, h1, rfl⟩ := mapS h
     exact tenP_eq e1 (ih h1)
    | none =>
     rw [e1] at h
     exact trCall_eq ih h
  | ListComp elt gs sc2 p =>
   obtain ⟨c, h1, h⟩ := bndS h
   obtain ⟨t, h2, h⟩ := bndS h
   obtain ⟨src, h3, h⟩ := bndS h
   obtain ⟨xs, h4, h⟩ := bndS h
   obtain ⟨cond, h5, h⟩ := bndS h
   obtain ⟨y, h6, h⟩ := bndS h
   obtain ⟨h7, rfl⟩ := gdS h
   obtain ⟨h7, g4⟩ := and2 h7
   obtain ⟨h7, g3⟩ := and2 h7
   obtain ⟨g1, g2⟩ := and2 h7
   obtain ⟨⟨es, ys, k1, k2, k3⟩⟩ := trSrc_eq (R := Er cf sc) (fun h => ih h) h3
   obtain ⟨n1, n2, n3⟩ := okK_eq g2
   have l := L h4
   rw [← opt1_eq h5] at l
   rw [gen1_eq h1]
   exact .compR (ih h6) (tarX_eq h2) k1 k2 k3 l.1 l.2 (of_decide_eq_true g1) n1 n2 n3 (neN_ne g3) g4
  | _ => exact noS h
end
noncomputable section
set_option backward.match.sparseCases true in
noncomputable def starF : PE → Bool
 | .Starred .. => true
 | _ => false
set_option backward.match.sparseCases true in
noncomputable def namF (kd : Str → Option NameKind) (line : Nat) : PE → Option Str
 | .Name id pos => if kd id == some .local && pos.line == line then some id else none
 | _ => none
noncomputable def swF (sc : Scope) (ts vs : List PE) : Option (Option (List Str)) :=
 if !(ts.length == 2 || ts.length == 3) || vs.length != ts.length then some none else
 if vs.any starF then some none else
 let names := ts.filterMap (namF (fun x => sc.names.lookup x) ((ts.head?.map (fun z : PE => z.pos.line)).getD 0))
 if names.length != ts.length || names.eraseDups.length != names.length then some none else
 if vs.all (foldedForSure 8) then some none else
 if vs.all (constantsAlone 8) then none else some (some names)
set_option backward.match.sparseCases true in
set_option tactic.hygienic true in
theorem swF_eq {sc : Scope} {ts vs : List PE} {r : Option (List Str)} {env : SE} {k k2 : Nat} {p p2 : Pos} (h : swF sc ts vs = some r) (he : env.scope = sc) (hk : sc.kind = .function) : swappedStores [.Tuple ts k p] (.Tuple vs k2 p2) env = pure r := by
 subst he
 have hb : (env.blockKind != .function) = false := by
  unfold PySem.Env.blockKind
  rw [hk]; rfl
 show (if (!(ts.length == 2 || ts.length == 3) || vs.length != ts.length || env.blockKind != .function) = true then pure none else
  if (vs.any starF) = true then pure none else
  if ((ts.filterMap (namF (fun x => env.scope.names.lookup x) ((ts.head?.map (fun z : PE => z.pos.line)).getD 0))).length != ts.length || (ts.filterMap (namF (fun x => env.scope.names.lookup x) ((ts.head?.map (fun z : PE => z.pos.line)).getD 0))).eraseDups.length != (ts.filterMap (namF (fun x => env.scope.names.lookup x) ((ts.head?.map (fun z : PE => z.pos.line)).getD 0))).length) = true then pure none else
  if (vs.all (foldedForSure 8)) = true then pure none else
  if (vs.all (constantsAlone 8)) = true then (do unsupported "assign.tuple-of-constant-expressions:order-of-the-stores"; pure (some (ts.filterMap (namF (fun x => env.scope.names.lookup x) ((ts.head?.map (fun z : PE => z.pos.line)).getD 0))))) else pure (some (ts.filterMap (namF (fun x => env.scope.names.lookup x) ((ts.head?.map (fun z : PE => z.pos.line)).getD 0))))) = _
 rw [hb, Bool.or_false]
 unfold swF at h
 dsimp only at h
 generalize ts.filterMap (namF (fun x => env.scope.names.lookup x) ((ts.head?.map (fun z : PE => z.pos.line)).getD 0)) = nm at h ⊢
 split at h
 ·rename_i c; rw [if_pos c]; obtain rfl := sI h; rfl
 ·rename_i c
  rw [if_neg c]
  split at h
  ·rename_i c2; rw [if_pos c2]; obtain rfl := sI h; rfl
  ·rename_i c2
   rw [if_neg c2]
   split at h
   ·rename_i c3; rw [if_pos c3]; obtain rfl := sI h; rfl
   ·rename_i c3
    rw [if_neg c3]
    split at h
    ·rename_i c4; rw [if_pos c4]; obtain rfl := sI h; rfl
    ·rename_i c4
     rw [if_neg c4]
     split at h
     ·exact noS h
     ·rename_i c5; rw [if_neg c5]; obtain rfl := sI h; rfl
noncomputable def tupP : PE → Option (List PE)
 | .Tuple l _ _ => some l
 | _ => none
theorem tupP_eq {e : PE} {l : List PE} (h : tupP e = some l) : ∃ k p, e = .Tuple l k p := by
 cases e with
 | Tuple l k p => obtain rfl := sI h; exact ⟨_, _, rfl⟩
 | _ => exact noS h
noncomputable def glF : VK → Bool
 | .glo => true
 | _ => false
noncomputable def tgL (sc : Scope) : List PE → Option (List (VK × Nat))
 | [] => some []
 | e :: es => match e with
  | .Name s _ => (nam sc s).bind fun p => gd (!glF p.1) p |>.bind fun p => (tgL sc es).map (p :: ·)
  | _ => none
theorem tgL_eq {sc : Scope} {es : List PE} {ts : List (VK × Nat)} (h : tgL sc es = some ts) : TgL sc es ts := by
 induction es generalizing ts with
 | nil => obtain rfl := sI h; exact .nil
 | cons e es ih =>
  cases e with
  | Name s p =>
   obtain ⟨q, h1, h⟩ := bndS h
   obtain ⟨q2, h2, h⟩ := bndS h
   obtain ⟨h3, rfl⟩ := gdS h2
   obtain ⟨l, h4, rfl⟩ := mapS h
   obtain ⟨e1, e2⟩ := nam_eq h1
   rw [e1]
   exact .cons (fun z => by rw [z] at h3; exact noB h3) e2 (ih h4)
  | _ => exact noS h
noncomputable def locP (t : VK × Nat) : Option Nat := match t.1 with
 | .loc => some t.2
 | _ => none
theorem locP_eq {t : VK × Nat} {n : Nat} (h : locP t = some n) : t = (.loc, n) := by
 obtain ⟨k, m⟩ := t
 cases k <;> cases h
 rfl
noncomputable def swK (sc : Scope) (ts : List (VK × Nat)) (r : Option (List Str)) : Bool := match r with
 | none => true
 | some l => (do
  let a ← two l
  let q ← two ts
  let x ← locP q.1
  let y ← locP q.2
  gd (eqS a.1 x && eqS a.2 y && !Nat.beq x y && isK sc (strOf x) .local && isK sc (strOf y) .local) ()).isSome
noncomputable def swO (sc : Scope) (es : List PE) (v : PE) (ts : List (VK × Nat)) : Bool := match tupP v with
 | none => !isTup v
 | some vs => (swF sc es vs).any (swK sc ts)
theorem swO_eq {sc : Scope} {es : List PE} {v : PE} {ts : List (VK × Nat)} (h : swO sc es v ts = true) : SwapOk sc es v ts := by
 unfold swO at h
 cases e1 : tupP v with
 | none => rw [e1] at h; exact .plain fun env z_ z_ k p => swapped_plain (not_f h)
 | some vs =>
  rw [e1] at h
  have h9 : (swF sc es vs).any (swK sc ts) = true := h
  clear h
  obtain ⟨k2, p2, rfl⟩ := tupP_eq e1
  cases e2 : swF sc es vs with
  | none => rw [e2] at h9; exact noB h9
  | some r =>
   rw [e2] at h9
   have h : swK sc ts r = true := h9
   cases r with
   | none => exact .plain fun env he hk k p => swF_eq e2 he hk
   | some l =>
    obtain ⟨u, h⟩ := Option.isSome_iff_exists.mp h
    obtain ⟨a, h1, h⟩ := bndS h
    obtain ⟨q, h2, h⟩ := bndS h
    obtain ⟨x, h3, h⟩ := bndS h
    obtain ⟨y, h4, h⟩ := bndS h
    obtain ⟨h5, _⟩ := gdS h
    obtain ⟨h5, g5⟩ := and2 h5
    obtain ⟨h5, g4⟩ := and2 h5
    obtain ⟨h5, g3⟩ := and2 h5
    obtain ⟨g1, g2⟩ := and2 h5
    rw [two_eq h1, eqS_eq g1, eqS_eq g2] at e2
    rw [two_eq h2, locP_eq h3, locP_eq h4]
    exact .swap (beqN g3) (fun env he hk k p => swF_eq e2 he hk) (isK_eq g4) (isK_eq g5)
theorem Er.comp_inv {cf : Cfg} {sc sc2 : Scope} {elt tar iter : PE} {ifs : List PE} {pos : Pos} {v : Ex} (h : Er cf sc (.ListComp elt [⟨tar, iter, ifs, 0⟩] sc2 pos) v) : ErC cf sc elt tar iter ifs sc2 v := by
 cases h with
 | compR h1 h2 h3 h4 h5 h6 h7 h8 h9 h10 h11 h12 h13 => exact .mk h1 h2 ⟨h3, .of h4 h5⟩ (.of h6 h7) h8 h9 h10 h11 h12 h13
noncomputable def xOk (x : Nat) (y : Str × NameKind) : Bool := !eqS y.1 x || (match y.2 with
 | .local => false
 | .cell => false
 | _ => true)
theorem xOk_eq {sc2 : Scope} {x : Nat} (h : sc2.names.all (xOk x) = true) : ∀ y ∈ sc2.names, y.1 = strOf x → y.2 ≠ .local ∧ y.2 ≠ .cell := fun y hy q => by
 have := List.all_eq_true.mp h y hy
 unfold xOk at this
 rw [show eqS y.1 x = true from Fast.sEq_iff.mpr q] at this
 refine ⟨fun z => ?_, fun z => ?_⟩ <;> · rw [z] at this; exact noB this
noncomputable def cmpP : PE → Option (PE × (PE × PE × List PE) × Scope × Pos)
 | .ListComp e l s p => (gen1 l).map fun c => (e, c, s, p)
 | _ => none
theorem cmpP_eq {e : PE} {c} (h : cmpP e = some c) : e = .ListComp c.1 [⟨c.2.1.1, c.2.1.2.1, c.2.1.2.2, 0⟩] c.2.2.1 c.2.2.2 := by
 cases e with
 | ListComp a l s p =>
  obtain ⟨d, h1, rfl⟩ := mapS h
  rw [gen1_eq h1]
 | _ => exact noS h
noncomputable def trA (cf : Cfg) (f : PE → Option Ex) (sc : Scope) (v : PE) : PE → Option Sm
 | .Name s p => (f v).bind fun y => (nam sc s).bind fun n => match n.1 with
  | .loc => match cmpP v with
   | some c => gd (Nat.beq p.line c.2.2.2.line && c.2.2.1.names.all (xOk n.2)) (.asg (.loc n.2) y)
   | none => gd (!isComp v) (.asg (.loc n.2) y)
  | .cel => gd (!isComp v) (.asg (.cel n.2) y)
  | .glo => none
 | .Attribute o s _ => (f v).bind fun y => (cod s).bind fun n => (f o).bind fun x => gd (!isComp v && inL n cf.an) (.asg (.att x n) y)
 | .Subscript o i _ => (f v).bind fun y => (f o).bind fun x => (f i).bind fun z => gd (!isComp v) (.asg (.sub x z) y)
 | .Tuple es _ _ => (f v).bind fun y => (tgL sc es).bind fun ts => gd (!isComp v && swO sc es v ts) (.asg (.tup ts) y)
 | _ => none
theorem trA_eq {cf : Cfg} {f : PE → Option Ex} {sc : Scope} {v t : PE} {p : Pos} {x : Sm} (ih : ∀ {e x}, f e = some x → Er cf sc e x) (h : trA cf f sc v t = some x) : ErS cf sc (.Assign [t] v p) x := by
 cases t with
 | Name s q =>
  obtain ⟨y, h1, h⟩ := bndS h
  obtain ⟨⟨k, n⟩, h2, h⟩ := bndS h
  obtain ⟨e1, e2⟩ := nam_eq h2
  rw [e1]
  cases k with
  | loc =>
   have h : (match cmpP v with
    | some c => gd (Nat.beq q.line c.2.2.2.line && c.2.2.1.names.all (xOk n)) (.asg (.loc n) y)
    | none => gd (!isComp v) (.asg (.loc n) y)) = some x := h
   cases e3 : cmpP v with
   | some c =>
    rw [e3] at h
    obtain ⟨h3, rfl⟩ := gdS h
    obtain ⟨h3, h4⟩ := and2 h3
    have e4 := cmpP_eq e3
    have R := ih h1
    rw [e4] at R ⊢
    exact .asgX e2 R.comp_inv (nbe h3) (xOk_eq h4)
   | none =>
    rw [e3] at h
    obtain ⟨h3, rfl⟩ := gdS h
    exact .asgL e2 (ih h1) (not_f h3)
  | cel =>
   obtain ⟨h3, rfl⟩ := gdS h
   exact .asgC e2 (ih h1) (not_f h3)
  | glo => exact noS h
 | Attribute o s q =>
  obtain ⟨y, h1, h⟩ := bndS h
  obtain ⟨n, h2, h⟩ := bndS h
  obtain ⟨z, h3, h⟩ := bndS h
  obtain ⟨h4, rfl⟩ := gdS h
  obtain ⟨h4, h5⟩ := and2 h4
  rw [cod_eq h2]
  exact .asgA (ih h1) (not_f h4) (ih h3) h5
 | Subscript o i q =>
  obtain ⟨y, h1, h⟩ := bndS h
  obtain ⟨z, h2, h⟩ := bndS h
  obtain ⟨u, h3, h⟩ := bndS h
  obtain ⟨h4, rfl⟩ := gdS h
  exact .asgS (ih h1) (not_f h4) (ih h2) (ih h3)
 | Tuple es k q =>
  obtain ⟨y, h1, h⟩ := bndS h
  obtain ⟨ts, h2, h⟩ := bndS h
  obtain ⟨h3, rfl⟩ := gdS h
  obtain ⟨h3, h4⟩ := and2 h3
  exact .asgT (tgL_eq h2) (ih h1) (not_f h3) (swO_eq h4)
 | _ => exact noS h
noncomputable def trX (cf : Cfg) (f : PE → Option Ex) (sc : Scope) : PE → Option Sm
 | .Call g l ks _ => match g with
  | .Name s _ => match ks with
   | [] => (cod s).bind fun c => (trL f l).bind fun xs => gd (!Nat.beq c dbgN && inL c cf.xs && isK sc s .globalImplicit && Nat.ble 1 l.length && Nat.ble l.length 2) (.rse c xs)
   | _ :: _ => none
  | _ => none
 | _ => none
theorem trX_eq {cf : Cfg} {f : PE → Option Ex} {sc : Scope} {e : PE} {p : Pos} {x : Sm} (ih : ∀ {e x}, f e = some x → Er cf sc e x) (h : trX cf f sc e = some x) : ErS cf sc (.Raise (some e) none p) x := by
 cases e with
 | Call g l ks q => cases g with
  | Name s q2 => cases ks with
   | nil =>
    obtain ⟨c, h1, h⟩ := bndS h
    obtain ⟨xs, h2, h⟩ := bndS h
    obtain ⟨h3, rfl⟩ := gdS h
    obtain ⟨h3, g5⟩ := and2 h3
    obtain ⟨h3, g4⟩ := and2 h3
    obtain ⟨h3, g3⟩ := and2 h3
    obtain ⟨g1, g2⟩ := and2 h3
    have := trL_eq (R := Er cf sc) ih h2
    cases l with
    | nil => exact noB g4
    | cons a es =>
     obtain rfl := cod_eq h1
     exact .rse (not_f g1) g2 (isK_eq g3) (.of this.1 this.2) (Nat.le_of_succ_le_succ (nle g5))
   | cons => exact noS h
  | _ => exact noS h
 | _ => exact noS h
noncomputable def namP : PE → Option Str
 | .Name s _ => some s
 | _ => none
theorem namP_eq {e : PE} {s : Str} (h : namP e = some s) : ∃ p, e = .Name s p := by
 cases e with
 | Name s p => obtain rfl := sI h; exact ⟨_, rfl⟩
 | _ => exact noS h
noncomputable def retP : PS → Option PE
 | .Return v _ => v
 | _ => none
theorem retP_eq {s : PS} {e : PE} (h : retP s = some e) : ∃ p, s = .Return (some e) p := by
 cases s with
 | Return v p => cases h; exact ⟨_, rfl⟩
 | _ => exact noS h
noncomputable def hdP : PySem.ExceptHandler → Option (Option Str × PE × List PS)
 | .ExceptHandler t n b _ => t.map fun e => (n, e, b)
theorem hdP_eq {h : PySem.ExceptHandler} {c} (q : hdP h = some c) : ∃ p, h = .ExceptHandler (some c.2.1) c.1 c.2.2 p := by
 cases h with
 | ExceptHandler t n b p =>
  obtain ⟨e, rfl, rfl⟩ := mapS q
  exact ⟨_, rfl⟩
noncomputable def trT (cf : Cfg) (sc : Scope) (b : List Sm) (h : PySem.ExceptHandler) (hs : List PySem.ExceptHandler) : Option Sm := (hdP h).bind fun c => (namP c.2.1).bind fun s => (cod s).bind fun n => match c.1 with
 | some m => (cod m).map fun m => .try_ b n (some m) [.dead]
 | none => match hs with
  | _ :: _ => none
  | [] => (one_ c.2.2).bind fun z => (retP z).bind fun r => (kst r).bind fun u => (cod u).bind fun t => gd (!Nat.beq n dbgN && inL n cf.xs && isK sc s .globalImplicit) (.try_ b n none [.ret (.cs t)])
theorem trT_eq {cf : Cfg} {sc : Scope} {b : List Sm} {a : List PS} {h : PySem.ExceptHandler} {hs : List PySem.ExceptHandler} {p : Pos} {x : Sm} (q : trT cf sc b h hs = some x) (R : ErB cf sc a b) : ErS cf sc (.Try a (h :: hs) [] [] p) x := by
 obtain ⟨⟨m, e, bd⟩, h1, q⟩ := bndS q
 obtain ⟨s, h2, q⟩ := bndS q
 obtain ⟨n, h3, q⟩ := bndS q
 cases m with
 | some m => obtain ⟨k, _, rfl⟩ := mapS q; exact .try2 R
 | none => cases hs with
  | cons => exact noS q
  | nil =>
   obtain ⟨z, h4, q⟩ := bndS q
   obtain ⟨r, h5, q⟩ := bndS q
   obtain ⟨u, h6, q⟩ := bndS q
   obtain ⟨t, h7, q⟩ := bndS q
   obtain ⟨h8, rfl⟩ := gdS q
   obtain ⟨h8, g3⟩ := and2 h8
   obtain ⟨g1, g2⟩ := and2 h8
   obtain ⟨p1, rfl⟩ := hdP_eq h1
   obtain ⟨p2, e1⟩ := namP_eq h2
   obtain ⟨p3, e2⟩ := retP_eq h5
   obtain ⟨k, p4, e3⟩ := kst_eq h6
   dsimp only at e1 h4 ⊢
   rw [e1, one_eq h4, e2, e3, cod_eq h7]
   obtain rfl := cod_eq h3
   exact .try1 (not_f g1) g2 (isK_eq g3) R
noncomputable def trS (cf : Cfg) (mu : List Nat) : Nat → Scope → PS → Option Sm
 | 0, _, _ => none
 | f + 1, sc, s =>
  let b (ss : List PS) : List Sm := ss.map fun s => (trS cf mu f sc s).getD .dead
  match s with
  | .Assign ts v _ => (one_ ts).bind fun t => trA cf (tr cf mu f sc) sc v t
  | .Return v _ => match v with
   | none => some .ret0
   | some e => (tr cf mu f sc e).map .ret
  | .If c x y _ => (tr cf mu f sc c).map fun z => .ife z (b x) (b y)
  | .While c x o _ => match o with
   | [] => (tr cf mu f sc c).map fun z => .whl z (b x)
   | _ :: _ => none
  | .For t i x o _ => match o with
   | [] => (tarX sc t).bind fun q => (trSrc (tr cf mu f sc) sc i).bind fun src => gd (srcOk src q.2) (.for_ q.1 q.2 src (b x))
   | _ :: _ => none
  | .Expr e _ => (tr cf mu f sc e).bind fun z => gd (!isComp e) (.exp z)
  | .Raise e c _ => match c with
   | none => e.bind fun e => trX cf (tr cf mu f sc) sc e
   | some _ => none
  | .Try x hs o z _ => match hs with
   | [] => none
   | h :: hs => match o with
    | [] => match z with
     | [] => trT cf sc (b x) h hs
     | _ :: _ => none
    | _ :: _ => none
  | .Pass _ => some .pass
  | _ => none
noncomputable def trB (cf : Cfg) (mu : List Nat) (f : Nat) (sc : Scope) (ss : List PS) : List Sm := ss.map fun s => (trS cf mu f sc s).getD .dead
theorem trB_of {cf : Cfg} {mu : List Nat} {f : Nat} {sc : Scope} (ih : ∀ {s x}, trS cf mu f sc s = some x → ErS cf sc s x) (ss : List PS) : ErB cf sc ss (trB cf mu f sc ss) := by
 induction ss with
 | nil => exact .nil
 | cons s ss jh =>
  refine .cons ?_ jh
  show ErS cf sc s ((trS cf mu f sc s).getD .dead)
  cases h : trS cf mu f sc s with
  | none => exact .dead
  | some x => exact ih h
theorem trS_eq {cf : Cfg} {mu : List Nat} {f : Nat} {sc : Scope} {s : PS} {x : Sm} (h : trS cf mu f sc s = some x) : ErS cf sc s x := by
 induction f generalizing sc s x with
 | zero => exact noS h
 | succ f ih =>
  have L : ∀ ss, ErB cf sc ss (trB cf mu f sc ss) := trB_of fun h => ih h
  cases s with
  | Assign ts v p =>
   obtain ⟨t, h1, h⟩ := bndS h
   rw [one_eq h1]
   exact trA_eq (fun h => tr_eq h) h
  | Return v p => cases v with
   | none => obtain rfl := sI h; exact .ret0
   | some e => obtain ⟨y, h1, rfl⟩ := mapS h; exact .ret (tr_eq h1)
  | If c a o p => obtain ⟨y, h1, rfl⟩ := mapS h; exact .ife (tr_eq h1) (L a) (L o)
  | While c a o p => cases o with
   | nil => obtain ⟨y, h1, rfl⟩ := mapS h; exact .whl (tr_eq h1) (L a)
   | cons => exact noS h
  | For t i a o p => cases o with
   | nil =>
    obtain ⟨q, h1, h⟩ := bndS h
    obtain ⟨src, h2, h⟩ := bndS h
    obtain ⟨h3, rfl⟩ := gdS h
    obtain ⟨⟨es, xs, k1, k2, k3⟩⟩ := trSrc_eq (R := Er cf sc) (fun h => tr_eq h) h2
    exact .for_ (tarX_eq h1) ⟨k1, .of k2 k3⟩ h3 (L a)
   | cons => exact noS h
  | Expr e p =>
   obtain ⟨y, h1, h⟩ := bndS h
   obtain ⟨h2, rfl⟩ := gdS h
   exact .exp (tr_eq h1) (not_f h2)
  | Raise e c p => cases c with
   | none =>
    obtain ⟨e, rfl, h⟩ := bndS h
    exact trX_eq (fun h => tr_eq h) h
   | some => exact noS h
  | Try a hs o z p => cases hs with
   | nil => exact noS h
   | cons hd hs => cases o with
    | cons => exact noS h
    | nil => cases z with
     | cons => exact noS h
     | nil => exact trT_eq h (L a)
  | Pass p => obtain rfl := sI h; exact .pass
  | _ => exact noS h
theorem trB_eq {cf : Cfg} {mu : List Nat} {f : Nat} {sc : Scope} {ss : List PS} {xs : List Sm} (h : trB cf mu f sc ss = xs) : ErB cf sc ss xs := h ▸ trB_of (fun h => trS_eq h) ss
end
end Mine
end
section
open PySem PySem.W PyProof.Rows
namespace Mine
noncomputable def faT : List (Nat × Addr) := [(0x747865745f65707974, 64), (0x666f5f676e69796c7265646e75, 71), (0x64656d616e5f7369, 78), (0x64657079746e755f7369, 85), (0x657079745f746c7561666564, 92), (0x656361667265746e695f7369, 99), (0x68747572745f7369, 106), (0x6c696e5f736168, 113), (0x666f5f746e656d656c65, 120), (0x64656b636170, 127), (0x6563616c705f7369, 135), (0x5f5f74696e695f5f2e64656863616552, 206), (0x7265746e696f705f74756f68746977, 220), (0x73646f6874656d5f6e776f, 227), (0x74615f737265626d656d, 232), (0x6e695f6465646465626d65, 239), (0x5f5f74696e695f5f2e736c6576654c, 253), (0x6e6f5f6f672e736c6576654c, 260), (0x657079745f7472617473, 274), (0x7265626d656d5f646e6966, 281), (0x646574726f7078655f7369, 288), (0x6e65646469685f7369, 295), (0x666f5f72656e776f, 302), (0x666f5f7265626d656d, 309), (0x6867756f7268745f64656c, 316), (0x74615f646c656966, 323), (0x676e6f6c615f656e6f67, 330), (0x666f5f7265766965636572, 337), (0x657079745f746c75736572, 345), (0x73746e656d756772615f6e69616c70, 350), (0x73746e656d756772615f6b63656863, 357), (0x6c6c61635f646f6874656d5f6b63656863, 364), (0x6c6c61635f65756c61765f6b63656863, 371), (0x64656e6769736e755f7369, 379), (0x65676e61725f746e69, 386), (0x65676e61725f6e695f7369, 393), (0x656c6261746e65736572706572, 400), (0x6e6168635f656b696c5f7369, 447), (0x656361665f737465656d, 454), (0x656c62616e67697373615f7369, 462), (0x656c62616e67697373615f74736e6f635f7369, 469), (0x5f5f74696e695f5f2e65706f6353, 484), (0x5f5f74696e695f5f2e72656b63656843, 558), (0x727078652e72656b63656843, 566), (0x65756c61762e72656b63656843, 574), (0x656372656f632e72656b63656843, 588), (0x657079745f73656b61742e72656b63656843, 595), (0x5f5f74696e695f5f2e776f5264656d614e, 670), (0x73776f725f6e776f6e6b, 684), (0x5f5f74696e695f5f2e646c726f57, 699), (0x666f5f657361622e646c726f57, 706), (0x6c6f6f705f77616c5f, 727), (0x656b61745f77616c5f, 734), (0x656e6f5f77616c5f, 741), (0x73636e75665f77616c5f, 750), (0x72656b636568635f77616c5f, 757), (0x646c6f745f77616c5f, 762), (0x65756c61765f77616c5f, 769), (0x73615f77616c5f, 776), (0x73746e656d756772615f77616c5f, 781), (0x746c757365725f77616c5f, 788), (0x74686769725f6e6f6974636e75665f77616c5f, 795), (0x74686769725f646f6874656d5f77616c5f, 802), (7823724, 809)]
noncomputable def caT : List (Nat × Addr) := [(0x726f7272456e616843, 153), (0x746c756146656d614e, 166), (0x746c75614665707954, 178), (0x746c756146776f6c46, 190), (0x64656863616552, 209), (0x736c6576654c, 263), (435678045011, 538), (0x72656b63656843, 649), (0x776f5264656d614e, 673), (431316168535, 716)]
noncomputable def iaT : List (Nat × Addr) := [(0x64656863616552, 209), (0x736c6576654c, 263), (435678045011, 538), (0x72656b63656843, 649), (0x776f5264656d614e, 673), (431316168535, 716)]
noncomputable def anT : List Nat := [0x736569646f62, 0x6465727574706163, 0x7374736e6f63, 495622842726, 495589422438, 0x736c61626f6c67, 0x73656d616e5f746c757365725f736168, 1701995880, 0x64656b636568635f7369, 0x646573755f7369, 0x656c6f68775f7369, 7955819, 0x7379656b5f6574616c, 0x736c61726574696c, 0x736c61636f6c, 495807590252, 0x6567617373656d, 0x73646f6874656d, 431198396782, 491327353455, 491328402799, 491328010095, 0x6567616b636170, 0x736567616b636170, 0x736d61726170, 1752457584, 0x73726564616572, 0x736c61636f6c5f746c75736572, 0x73746c75736572, 1937207154, 0x79646f625f6e7572, 435678045043, 0x7365706f6373, 1852138867, 0x656c74746573, 1953460339, 0x737472617473, 495806936179, 1684828020, 0x676e69796c7265646e75, 431316168567]
noncomputable def xsT : List Nat := [0x746c756146656d614e, 0x746c75614665707954]
noncomputable def muT : List Nat := [147020, 173016, 493011, 530011, 561011]
noncomputable def dcT : List (Addr × List (Nat × Tok × Value) × Nat) := [(27, [(1819242338, 208, .ref 23), (7630441, 209, .ref 24), (1701737842, 210, .ref 25), (0x676e69727473, 211, .ref 22)], 4),
 (338, [(0x6b636f4c2e786574754d2e636e7973, 657, .str (Str.ofString "lock") 658), (0x6b636f6c6e552e786574754d2e636e7973, 659, .str (Str.ofString "unlock") 660), (0x6464412e70756f7247746961572e636e7973, 661, .str (Str.ofString "add") 662), (0x656e6f442e70756f7247746961572e636e7973, 663, .str (Str.ofString "done") 664), (0x746961572e70756f7247746961572e636e7973, 665, .str (Str.ofString "wait") 666)], 5),
 (372, [(7630441, 732, .int 64 733), (947154537, 734, .int 8 735), (232757948009, 736, .int 16 737), (215611633257, 738, .int 32 739), (224251899497, 740, .int 64 741), (1953393013, 742, .int 64 743), (242471561589, 744, .int 8 745), (59586034690421, 746, .int 16 747), (55196578113909, 748, .int 32 749), (57408486271349, 750, .int 64 751)], 10)]
noncomputable def lcC : Addr := 756
end Mine
end
section
open PySem PySem.W PyProof.Rows PySem.Calls PySem.SeqAt
open PyProof.Rows.LCg (NsObj ns_obj)
namespace Mine
open Hp (objs H1 hB)
noncomputable section
noncomputable def ksT : List Addr := [3, 11, 13, 14, 15, 17, 18, 20, 21, 22, 23, 24, 25, 26, 27, 28, 29, 32, 33, 34, 37, 38, 39, 41, 42, 44, 45, 46, 48, 49, 51, 52, 53, 55, 56, 58, 59, 60, 63, 64, 65, 67, 68, 70, 71, 72, 74, 75, 77, 78, 79, 81, 82, 84, 85, 86, 88, 89, 91, 92, 93, 95, 96, 98, 99, 100, 102, 103, 105, 106, 107, 109, 110, 112, 113, 114, 116, 117, 119, 120, 121, 122, 123, 126, 127, 128, 129, 131, 132, 134, 135, 136, 137, 138, 139, 141, 142, 143, 144, 146, 147, 149, 150, 151, 152, 153, 154, 155, 156, 157, 158, 159, 160, 162, 163, 164, 165, 166, 167, 168, 169, 170, 171, 172, 174, 175, 176, 177, 178, 179, 180, 181, 182, 183, 184, 186, 187, 188, 189, 190, 191, 192, 193, 194, 195, 196, 198, 199, 200, 202, 203, 205, 206, 207, 208, 209, 210, 211, 212, 213, 214, 216, 217, 219, 220, 221, 223, 224, 226, 227, 228, 231, 232, 233, 235, 236, 238, 239, 240, 241, 242, 243, 245, 246, 247, 249, 250, 252, 253, 254, 256, 257, 259, 260, 261, 262, 263, 264, 265, 266, 267, 268, 270, 271, 273, 274, 275, 277, 278, 280, 281, 282, 284, 285, 287, 288, 289, 291, 292, 294, 295, 296, 298, 299, 301, 302, 303, 305, 306, 308, 309, 310, 312, 313, 315, 316, 317, 319, 320, 322, 323, 324, 326, 327, 329, 330, 331, 333, 334, 336, 337, 338, 339, 341, 342, 344, 345, 346, 349, 350, 351, 353, 354, 356, 357, 358, 360, 361, 363, 364, 365, 367, 368, 370, 371, 372, 373, 375, 376, 378, 379, 380, 382, 383, 385, 386, 387, 389, 390, 392, 393, 394, 396, 397, 399, 400, 401, 403, 404, 406, 407, 408, 410, 411, 413, 414, 415, 418, 419, 420, 422, 423, 425, 426, 427, 429, 430, 432, 433, 434, 436, 437, 439, 440, 441, 443, 444, 446, 447, 448, 450, 451, 453, 454, 455, 456, 458, 459, 461, 462, 463, 465, 466, 468, 469, 470, 471, 472, 473, 475, 476, 477, 478, 480, 481, 483, 484, 485, 486, 488, 489, 491, 492, 493, 495, 496, 498, 499, 500, 502, 503, 505, 506, 507, 508, 510, 511, 513, 514, 515, 517, 518, 520, 521, 522, 524, 525, 527, 528, 529, 531, 532, 534, 535, 536, 537, 538, 539, 540, 541, 542, 543, 544, 545, 546, 547, 549, 550, 551, 552, 554, 555, 557, 558, 559, 560, 562, 563, 565, 566, 567, 568, 570, 571, 573, 574, 575, 577, 578, 580, 581, 582, 584, 585, 587, 588, 589, 591, 592, 594, 595, 596, 598, 599, 601, 602, 603, 605, 606, 608, 609, 610, 611, 613, 614, 616, 617, 618, 619, 621, 622, 624, 625, 626, 628, 629, 631, 632, 633, 635, 636, 638, 639, 640, 642, 643, 645, 646, 647, 648, 649, 650, 651, 652, 653, 654, 655, 656, 657, 658, 659, 660, 662, 663, 664, 666, 667, 669, 670, 671, 672, 673, 674, 675, 676, 677, 678, 680, 681, 683, 684, 685, 686, 687, 688, 690, 691, 692, 693, 695, 696, 698, 699, 700, 702, 703, 705, 706, 707, 709, 710, 712, 713, 714, 715, 716, 717, 718, 719, 720, 721, 723, 724, 726, 727, 728, 730, 731, 733, 734, 735, 737, 738, 740, 741, 742, 743, 744, 746, 747, 749, 750, 751, 753, 754, 756, 757, 758, 761, 762, 763, 765, 766, 768, 769, 770, 772, 773, 775, 776, 777, 780, 781, 782, 784, 785, 787, 788, 789, 791, 792, 794, 795, 796, 798, 799, 801, 802, 803, 805, 806, 808, 809]
noncomputable def pick : Nat → List Obj → List Addr → Frag
 | _, [], _ => []
 | i, o :: l, ks => match ks with
  | [] => []
  | k :: ks => match Nat.beq i k with
   | true => (k, o) :: pick (i + 1) l ks
   | false => pick (i + 1) l (k :: ks)
theorem pick_at {l : List Obj} {i : Nat} {ks : List Addr} {p : Addr × Obj} (h : p ∈ pick i l ks) : ∃ j, p.1 = i + j ∧ l[j]? = some p.2 := by
 induction l generalizing i ks with
 | nil => cases h
 | cons o l ih =>
  cases ks with
  | nil => cases h
  | cons k ks =>
   have h : p ∈ (match Nat.beq i k with
    | true => (k, o) :: pick (i + 1) l ks
    | false => pick (i + 1) l (k :: ks)) := h
   cases hk : Nat.beq i k with
   | true =>
    rw [hk] at h
    rcases List.mem_cons.mp h with rfl | h
    ·exact ⟨0, (nbe hk).symm, rfl⟩
    ·obtain ⟨j, h1, h2⟩ := ih h
     exact ⟨j + 1, by rw [h1, Nat.add_assoc, Nat.add_comm 1 j], h2⟩
   | false =>
    rw [hk] at h
    obtain ⟨j, h1, h2⟩ := ih h
    exact ⟨j + 1, by rw [h1, Nat.add_assoc, Nat.add_comm 1 j], h2⟩
noncomputable def KK (P : Params) : Frag := pick 0 (objs P) ksT
theorem lookup_mem' {l : Frag} {a : Addr} {o : Obj} (h : l.lookup a = some o) : (a, o) ∈ l := by
 induction l with
 | nil => exact noS h
 | cons p r ih =>
  rw [List.lookup_cons] at h
  cases q : (a == p.1) with
  | true => rw [q] at h; obtain rfl := sI h; obtain rfl := eq_of_beq q; exact .head _
  | false => rw [q] at h; exact .tail _ (ih h)
noncomputable def alv (p : Addr × Obj) : Bool := !p.2.isFreed && !Nat.beq p.1 752
theorem alv_all (P : Params) : (KK P).all alv = true := by kernel_rfl
theorem get_objs {P : Params} {a : Nat} {o : Obj} (h : (objs P)[a]? = some o) (hf : o.isFreed = false) : (H1 P).get? a = some o := by
 unfold Heap.get?
 have e : (H1 P).objs[a]? = some o := by
  show (Array.mk (objs P))[a]? = some o
  rw [← h]; exact List.getElem?_toArray ..
 rw [e]
 obtain ⟨x, y, z, u⟩ := o
 cases z <;> first | rfl | injection hf
theorem KK_in (P : Params) : (KK P).In (hB P) := fun a o h => by
 have hm := lookup_mem' h
 have ha := List.all_eq_true.mp (alv_all P) _ hm
 obtain ⟨h1, h2⟩ := and2 ha
 obtain ⟨j, e, h3⟩ := pick_at hm
 dsimp only at e h3
 rw [Nat.zero_add] at e
 subst e
 exact hideAll_get _ (get_objs h3 (not_f h1)) fun q => by
  rw [List.mem_singleton.mp q] at h2
  exact noB h2
noncomputable abbrev ps (l c l2 c2 : Nat) : Pos := ⟨l, c, l2, c2⟩
noncomputable def lamP : Arguments := { posonlyargs := [], args := [⟨Str.ofString "checker", none, ps 551 67 551 74⟩, ⟨Str.ofString "node", none, ps 551 76 551 80⟩, ⟨Str.ofString "wanted", none, ps 551 82 551 88⟩], vararg := none, kwonlyargs := [], kw_defaults := [], kwarg := none, defaults := [] }
noncomputable def lamB : PE := .Subscript (.Name (Str.ofString "node") (ps 551 90 551 94)) (.Constant (.int 2) 0 (ps 551 95 551 96)) (ps 551 90 551 97)
noncomputable def lamS : Scope := { kind := .function, names := [(Str.ofString "checker", .local), (Str.ofString "node", .local), (Str.ofString "wanted", .local)], isGenerator := false, isCoroutine := false }
noncomputable def lamN : List (Str × NameKind) := [(Str.ofString "world", .local), (Str.ofString "methods", .local), (Str.ofString "World", .globalImplicit), (Str.ofString "_law_funcs", .globalImplicit), (Str.ofString "NamedRow", .globalImplicit), (Str.ofString "Checker", .globalImplicit), (Str.ofString "Scope", .globalImplicit)]
noncomputable def lkA (x : Nat) : List (Nat × Addr) → Option Addr
 | [] => none
 | p :: r => match Nat.beq x p.1 with
  | true => some p.2
  | false => lkA x r
theorem lkA_mem {x : Nat} {l : List (Nat × Addr)} {a : Addr} (h : lkA x l = some a) : (x, a) ∈ l := by
 induction l with
 | nil => exact noS h
 | cons p r ih =>
  have h : (match Nat.beq x p.1 with
   | true => some p.2
   | false => lkA x r) = some a := h
  cases q : Nat.beq x p.1 with
  | true => rw [q] at h; obtain rfl := sI h; obtain rfl := nbe q; exact .head _
  | false => rw [q] at h; exact .tail _ (ih h)
noncomputable abbrev TokD := Bool → Nat → Params → Heap → Led → Value → Prop
noncomputable abbrev TokM (td : TokD) : Prop := ∀ {t : Bool} {i : Nat} {P : Params} {b : Heap} {fz fz' : Led} {v : Value}, td t i P b fz v → (∀ p ∈ fz, p ∈ fz') → td t i P b fz' v
noncomputable def mkCf (td : TokD) (tm : TokM td) : Cfg where
 fa := fun f => lkA f faT
 ca := fun f => lkA f caT
 ia := fun f => lkA f iaT
 an := anT
 xs := xsT
 lamP := lamP
 lamB := lamB
 lamS := lamS
 lamQ := Str.ofString "_law_checker.<locals>.<lambda>"
 lamPos := ps 551 60 551 97
 lamN := lamN
 tabA := 752
 codeA := lcC
 tokD := td
 tokM := tm
noncomputable def fdAt (K : Frag) (a : Addr) : Option FuncData := (K.lookup a).bind fun o => match o.data with
 | .func fd => some fd
 | _ => none
theorem fdAt_eq {K : Frag} {a : Addr} {fd : FuncData} (h : fdAt K a = some fd) : ∃ o, K.lookup a = some o ∧ o.data = .func fd := by
 obtain ⟨o, h1, h⟩ := bndS h
 refine ⟨o, h1, ?_⟩
 obtain ⟨x, y, z, u⟩ := o
 cases z <;> first | exact noS h | (obtain rfl := sI h; rfl)
noncomputable def stP : FuncBody → List PS
 | .stmts b => b
 | _ => []
noncomputable def isSt : FuncBody → Bool
 | .stmts _ => true
 | _ => false
theorem isSt_eq {b : FuncBody} (h : isSt b = true) : b = .stmts (stP b) := by cases b <;> first | rfl | exact noB h
noncomputable def arEq : List Arg → List Nat → Bool
 | [], ns => ns.isEmpty
 | a :: r, ns => match ns with
  | [] => false
  | n :: ns => eqS a.arg n && arEq r ns
theorem arEq_eq {l : List Arg} {ns : List Nat} (h : arEq l ns = true) : l.map (·.arg) = ns.map strOf := by
 induction l generalizing ns with
 | nil => cases ns <;> first | rfl | exact noB h
 | cons a r ih => cases ns with
  | nil => exact noB h
  | cons n ns =>
   obtain ⟨h1, h2⟩ := and2 h
   rw [List.map_cons, List.map_cons, ih h2, eqS_eq h1]
noncomputable def dfV : V → Value → Bool
 | .none, .none => true
 | .bool x, .bool y => x == y
 | _, _ => false
noncomputable def seqP : Data → Option (Array Value × Nat)
 | .seq vs n => some (vs, n)
 | _ => none
theorem seqP_eq {x : Data} {p : Array Value × Nat} (h : seqP x = some p) : x = .seq p.1 p.2 := by cases x <;> first | exact noS h | (obtain rfl := sI h; rfl)
noncomputable def refP : Value → Option Addr
 | .ref a => some a
 | _ => none
theorem refP_eq {x : Value} {a : Addr} (h : refP x = some a) : x = .ref a := by cases x <;> first | exact noS h | (obtain rfl := sI h; rfl)
noncomputable def dflB (K : Frag) (dfl : List V) (v : Value) : Bool := match dfl with
 | [] => v == .none
 | x :: r => r.isEmpty && ((refP v).bind fun T => (K.lookup T).bind fun o => (seqP o.data).bind fun p => (one_ p.1.toList).bind fun u => gd (dfV x u && o.cls == .type "tuple" && o.dict.isNone && Nat.beq o.slots.size 0) ()).isSome
section
variable {cf : Cfg} {K : Frag} {P : Params} {b : Heap}
theorem dfV_eq {x : V} {u : Value} (h : dfV x u = true) : Den cf P b [] [] x u := by
 unfold dfV at h
 split at h
 ·exact .none
 ·obtain rfl := eq_of_beq h; exact .bool _
 ·exact noB h
theorem dflB_eq {dfl : List V} {v : Value} (h : dflB K dfl v = true) : DflAt cf K P b dfl v := by
 cases dfl with
 | nil => exact .none (eq_of_beq h) rfl
 | cons x r =>
  obtain ⟨h1, h⟩ := and2 h
  obtain rfl := List.isEmpty_iff.mp h1
  obtain ⟨_, h⟩ := Option.isSome_iff_exists.mp h
  obtain ⟨T, h2, h⟩ := bndS h
  obtain ⟨o, h3, h⟩ := bndS h
  obtain ⟨⟨vs, m⟩, h4, h⟩ := bndS h
  obtain ⟨u, h5, h⟩ := bndS h
  obtain ⟨q0, _⟩ := gdS h
  obtain ⟨q1, g4⟩ := and2 q0
  obtain ⟨q2, g3⟩ := and2 q1
  obtain ⟨q3, g2⟩ := and2 q2
  clear h q0 q1 q2
  obtain ⟨o1, o2, o3, o4⟩ := o
  cases eq_of_beq g2
  cases seqP_eq h4
  cases o2 with
  | some => exact noB g3
  | none =>
   cases Array.eq_empty_of_size_eq_zero (nbe g4)
   refine .tup T m [u] (refP_eq h2) ?_ (.cons (dfV_eq q3) .nil)
   rw [h3, show vs = List.toArray [u] from by rw [← one_eq h5]]
noncomputable def scB (cells : List Nat) (sc : Scope) (x : Nat) : Bool := match inL x cells with
 | true => isK sc (strOf x) .cell
 | false => isK sc (strOf x) .local
noncomputable def fnB (cf : Cfg) (K : Frag) (g : Fn) (a : Addr) : Bool := match fdAt K a with
 | none => false
 | some fd => fd.params.posonlyargs.isEmpty && fd.params.vararg.isNone && fd.params.kwonlyargs.isEmpty && fd.params.kw_defaults.isEmpty && fd.params.kwarg.isNone && arEq fd.params.args g.params && dflB K g.dfl fd.defaults
  && decide (fd.scope.kind = .function) && !fd.scope.isCoroutine && !fd.scope.isGenerator && fd.closure.isEmpty && Nat.beq fd.globals mainGlobals && Nat.beq fd.builtins builtinsNs && isSt fd.body && codeIn K fd.code fd.qualname
  && nodupN g.params && Nat.ble g.dfl.length g.params.length && (neN fd.scope.names cf.lamN || (decide (fd.code = .ref cf.codeA) && Fast.sEq ((fd.qualname ++ ".<locals>.") ++ "<lambda>") cf.lamQ)) && g.params.all (scB g.cells fd.scope)
theorem fnB_eq {g : Fn} {a : Addr} (h : fnB cf K g a = true) (hb : ∀ fd, fdAt K a = some fd → ErB cf fd.scope (stP fd.body) g.body) : FnAt cf K P b g a := by
 unfold fnB at h
 cases e : fdAt K a with
 | none => rw [e] at h; exact noB h
 | some fd =>
  rw [e] at h
  dsimp only at h
  obtain ⟨o, k1, k2⟩ := fdAt_eq e
  obtain ⟨h, h18⟩ := and2 h
  obtain ⟨h, h17⟩ := and2 h
  obtain ⟨h, h16⟩ := and2 h
  obtain ⟨h, h15⟩ := and2 h
  obtain ⟨h, h13⟩ := and2 h
  obtain ⟨h, h12⟩ := and2 h
  obtain ⟨h, h11⟩ := and2 h
  obtain ⟨h, h10⟩ := and2 h
  obtain ⟨h, h9⟩ := and2 h
  obtain ⟨h, h8⟩ := and2 h
  obtain ⟨h, h7⟩ := and2 h
  obtain ⟨h, h6⟩ := and2 h
  obtain ⟨h, h5⟩ := and2 h
  obtain ⟨h, h4⟩ := and2 h
  obtain ⟨h, g5⟩ := and2 h
  obtain ⟨h, g4⟩ := and2 h
  obtain ⟨h, g3⟩ := and2 h
  obtain ⟨g1, g2⟩ := and2 h
  refine ⟨o, fd, fd.params.args, fd.params.defaults, stP fd.body, k1, k2, ?_, arEq_eq h4, dflB_eq h5, of_decide_eq_true h6, not_f h7, not_f h8, List.isEmpty_iff.mp h9, nbe h10, nbe h11, isSt_eq h12, h13, hb fd e, nodupN_eq h15, nle h16, fun q => ?_, fun x hx => ?_⟩
  ·revert g1 g2 g3 g4 g5
   generalize fd.params = pr
   intro g5 g4 g3 g1 g2
   obtain ⟨p1, p2, p3, p4, p5, p6, p7⟩ := pr
   cases List.isEmpty_iff.mp g1
   cases List.isEmpty_iff.mp g3
   cases List.isEmpty_iff.mp g4
   cases p3 with
   | some => exact noB g2
   | none => cases p6 with
    | some => exact noB g5
    | none => rfl
  ·rcases Bool.or_eq_true_iff.mp h17 with z | z
   ·exact absurd q (neN_ne z)
   ·obtain ⟨z1, z2⟩ := and2 z
    exact ⟨of_decide_eq_true z1, Fast.sEq_iff.mp z2⟩
  ·have z := List.all_eq_true.mp h18 x hx
   unfold scB at z
   refine ⟨fun q => ?_, fun q => ?_⟩ <;> rw [q] at z <;> exact isK_eq z
end
end
end Mine
end
section
open PySem
namespace Mine
noncomputable def nTake : Nat := 1870858745032837524575
noncomputable def nPool : Nat := 2000278120176583535711
noncomputable def nLC : Nat := 35403899754162945387638385759
noncomputable def nVal : Nat := 479125093479839418117215
noncomputable def nAs : Nat := 32476684974386271
noncomputable def nCo : Nat := 2056402361976370550766627358861379
noncomputable def nArg : Nat := 2341701737241088560766702617455711
noncomputable def nFR : Nat := 2595981310013045184510812345007562337898556511
noncomputable def nMR : Nat := 39611531219681463504455235494382149921887
noncomputable def nLaw : Nat := 7823724
noncomputable abbrev tInt : V := .tup [.str 7630441, .str 7630441]
noncomputable abbrev tStr : V := .tup [.str 113723913172083]
noncomputable abbrev tBool : V := .tup [.str 1819242338]
noncomputable abbrev tSl : V := .tup [.str 435459550323, tInt]
noncomputable abbrev uInt : V := .tup [.str 28259031419481717, .str 7630441]
noncomputable abbrev uStr : V := .tup [.str 28259031419481717, .str 113723913172083]
noncomputable abbrev locI (T x : V) : List V := [.str 465490374508, T, .int 4, x]
noncomputable abbrev cstI (T x : V) : List V := [.str 500152823651, T, .int 4, x]
noncomputable abbrev vType : V := .str 1701869940
noncomputable def ckV : V := (.fob 32199659248511043 [(431316168567, (.fob 431316168535 [(8315165955120652656, .none), (431198396782, (.dct [(491496043109, (.fob 8606188004080181582 [(1752457584, (.str 491496043109)), (28542640758940016, (.str 0)), (488440489808766255263349, (.tup [(.str 1870282268968674946665), (.tup [(.tup [(.str 491496043077), (.tup [(.str 1668183398), (.tup []), (.tup [(.tup [(.str 113723913172083)])]), (.bool false)])])])])), (32480051978331501, (.dct []))])), (9066501719885687442841975813490, (.fob 8606188004080181582 [(1752457584, (.str 9066501719885687442841975813490)), (28542640758940016, (.str 28549272340166002)), (488440489808766255263349, (.tup [(.str 113723913172083)])), (32480051978331501, (.dct [(491496043077, (.tup [(.bool false), (.tup [(.str 1668183398), (.tup []), (.tup [(.tup [(.str 113723913172083)])]), (.bool false)]), (.str 2551993360451947472560482440561495092965045618)]))]))])), (568555490794144397162867, (.fob 8606188004080181582 [(1752457584, (.str 568555490794144397162867)), (28542640758940016, (.str 1668184435)), (488440489808766255263349, (.tup [(.str 127970521019507), (.tup [(.tup [(.str 435744240755), (.tup [(.str 7630441), (.str 7630441)]), (.bool false)])])])), (32480051978331501, (.dct [(1801678668, (.tup [(.bool true), (.tup [(.str 1668183398), (.tup []), (.tup []), (.bool false)]), (.str 557592540317067044581499077999360371)])), (118074815311445, (.tup [(.bool true), (.tup [(.str 1668183398), (.tup []), (.tup []), (.bool false)]), (.str 36542385376316117103792817098780509632883)]))]))])), (2280934061614225056393489743247731, (.fob 8606188004080181582 [(1752457584, (.str 2280934061614225056393489743247731)), (28542640758940016, (.str 1668184435)), (488440489808766255263349, (.tup [(.str 127970521019507), (.tup [(.tup [(.str 435744240755), (.tup [(.str 7630441), (.str 7630441)]), (.bool false)])])])), (32480051978331501, (.dct [(6579265, (.tup [(.bool true), (.tup [(.str 1668183398), (.tup [(.tup [(.str 7630441), (.str 7630441)])]), (.tup []), (.bool false)]), (.str 8745343470814434084756762127251682144188787)])), (1701736260, (.tup [(.bool true), (.tup [(.str 1668183398), (.tup []), (.tup []), (.bool false)]), (.str 2261995478475445091524176262491864451160897907)])), (1953063255, (.tup [(.bool true), (.tup [(.str 1668183398), (.tup []), (.tup []), (.bool false)]), (.str 2596066356325940664188892015011907311011527027)]))]))])), (5254765, (.fob 8606188004080181582 [(1752457584, (.str 5254765)), (28542640758940016, (.str 109)), (488440489808766255263349, (.tup [(.str 127970521019507), (.tup [])])), (32480051978331501, (.dct [(28484, (.tup [(.bool false), (.tup [(.str 1668183398), (.tup [(.tup [(.str 7630441), (.str 7630441)]), (.tup [(.str 113723913172083)])]), (.tup [(.tup [(.str 1819242338)])]), (.bool false)]), (.str 122338625465965)])), (28487, (.tup [(.bool true), (.tup [(.str 1668183398), (.tup [(.tup [(.str 113723913172083)]), (.tup [(.str 435459550323), (.tup [(.str 7630441), (.str 7630441)])])]), (.tup [(.tup [(.str 7630441), (.str 7630441)]), (.tup [(.str 1819242338)])]), (.bool true)]), (.str 122351510367853)]))]))])), (4796013, (.fob 8606188004080181582 [(1752457584, (.str 4796013)), (28542640758940016, (.str 109)), (488440489808766255263349, (.tup [(.str 1870282268968674946665), (.tup [(.tup [(.str 28484), (.tup [(.str 1668183398), (.tup [(.tup [(.str 7630441), (.str 7630441)]), (.tup [(.str 113723913172083)])]), (.tup [(.tup [(.str 1819242338)])]), (.bool false)])])])])), (32480051978331501, (.dct []))]))])), (32488787840822375, (.dct [])), (126943990017891, (.dct [])), (495589422438, (.dct [])), (126879397080930, (.dct [])), (495622842726, (.dct [])), (126879515239283, (.dct [])), (491327353455, (.lst [])), (126943972390003, (.lst [])), (111516484658547, .none), (2130123084385303683436, (.lst [])), (7308338789785498473, (.bool true))])), (28542640758940016, (.str 109)), (435678045043, (.fob 435678045011 [(491328402799, .none), (491328010095, .none), (1937207154, (.dct []))])), (7955819, (.str 6696557)), (32495402123093362, (.dct [(1684828020, .lam)])), (8747238844558898546, .none), (491328402799, .none), (126909327568748, (.lst [])), (126913623515504, (.tup [])), (32497631497512306, (.tup [])), (9144780805575286194274473043314, (.tup [])), (153387859999914653718571288723104948584, (.bool false)), (7234314225230831971, (.lst [])), (8317129755802757484, (.dct [])), (495807590252, (.lst []))])
noncomputable def all2 {α β : Type} (f : α → β → Bool) : List α → List β → Bool
 | [], l => l.isEmpty
 | a :: r, l => match l with
  | [] => false
  | b :: s => f a b && all2 f r s
noncomputable def veq : Nat → V → V → Bool
 | 0, _, _ => false
 | f + 1, a, b => match a with
  | .none => (match b with
   | .none => true
   | _ => false)
  | .bool x => (match b with
   | .bool y => x == y
   | _ => false)
  | .int x => (match b with
   | .int y => decide (x = y)
   | _ => false)
  | .str x => (match b with
   | .str y => Nat.beq x y
   | _ => false)
  | .lam => (match b with
   | .lam => true
   | _ => false)
  | .tup xs => (match b with
   | .tup ys => all2 (veq f) xs ys
   | _ => false)
  | .lst xs => (match b with
   | .lst ys => all2 (veq f) xs ys
   | _ => false)
  | .dct xs => (match b with
   | .dct ys => all2 (fun p q => Nat.beq p.1 q.1 && veq f p.2 q.2) xs ys
   | _ => false)
  | .fob c xs => (match b with
   | .fob d ys => Nat.beq c d && all2 (fun p q => Nat.beq p.1 q.1 && veq f p.2 q.2) xs ys
   | _ => false)
  | _ => false
noncomputable def nrefT : Nat → V → Bool
 | 0, _ => false
 | f + 1, v => match v with
  | .tup xs | .lst xs => xs.all (nrefT f)
  | .dct kvs | .fob _ kvs => kvs.all fun p => nrefT f p.2
  | .ref _ | .obj _ _ => false
  | .tok t _ => !t
  | _ => true
noncomputable def nrefS : SO → Bool
 | .lst xs => xs.all (nrefT 12)
 | .dct kvs => kvs.all fun p => nrefT 12 p.2
inductive Ev
 | no | tk (t : Nat) (v : V) | vl (T : V) (i : Nat) | ar (g : V) (r : V) (q : Nat)
noncomputable abbrev srcT (p : Nat) : SO := .lst [.tok false (2 * p), .tok false (2 * p + 1)]
noncomputable def tokF : V → Option Nat
 | .tok false i => some i
 | _ => none
noncomputable def two_ : List V → Option (V × V)
 | [a, b] => some (a, b)
 | _ => none
noncomputable def lstS : SO → Option (List V)
 | .lst xs => some xs
 | _ => none
noncomputable def posT (s : SO) : Option Nat := (lstS s).bind fun xs => (two_ xs).bind fun p => (tokF p.1).bind fun a => (tokF p.2).bind fun b => match Nat.beq a (2 * (a / 2)) && Nat.beq b (2 * (a / 2) + 1) with
 | true => some (a / 2)
 | false => none
structure HP where
 evs : List Ev
 args : List (V × Bool) := []
noncomputable def gdO (b : Bool) (q : Nat × Res) : Option (Nat × Res) := match b with
 | true => some q
 | false => none
noncomputable def isTk (n : Int) : V → Bool
 | .int m => decide (m = n)
 | _ => false
noncomputable def isR0 : V → Bool
 | .ref j => Nat.beq j 0
 | _ => false
noncomputable def hkEv (e : Ev) (p f : Nat) (x y : V) (γ : Store) : Option (Nat × Res) := match e with
 | .no => none
 | .tk t v => gdO (Nat.beq f nTake && isR0 x && isTk t y && γ.all nrefS) (14, .ok v (srcT (p + 1) :: γ))
 | .vl T i => gdO (Nat.beq f nVal && isR0 x && veq 9 y T && γ.isEmpty) (34, .ok (.tok true i) [srcT (p + 1)])
 | .ar g r q => gdO (Nat.beq f nArg && isR0 x && veq 9 y g && γ.isEmpty) (45, .ok r [srcT q])
noncomputable def tokI : V → Option Nat
 | .tok true i => some i
 | _ => none
noncomputable def hkAs (h : HP) (x y : V) (σ : Store) : Option (Nat × Res) := (tokI x).bind fun i => (h.args[i]?).bind fun p => gdO (veq 9 y p.1) (12, .ok (match p.2 with
 | true => .tok true (i + 100)
 | false => vType) σ)
noncomputable def hkCo (h : HP) (c x y z : V) (σ : Store) : Option (Nat × Res) := (tokI x).bind fun i => (h.args[i]?).bind fun p => gdO (veq 9 y p.1 && isTk 5 z && veq 30 c ckV) (48, match p.2 with
 | true => .ok (.tok true (i + 100)) σ
 | false => .exc 2147637572233656826196 σ)
noncomputable def hkAll (h : HP) (f : Nat) (as : List V) (σ : Store) : Option (Nat × Res) := match σ with
 | [] => none
 | s :: γ => (posT s).bind fun p => match as with
  | [] => gdO (Nat.beq f nLC && γ.isEmpty) (33, .ok ckV [srcT p])
  | [x, y] => match Nat.beq f nAs with
   | true => (match γ with
    | [] => hkAs h x y [srcT p]
    | _ :: _ => none)
   | false => (h.evs[p]?).bind fun e => hkEv e p f x y γ
  | [c, x, y, z] => (match γ with
   | [] => (match Nat.beq f nCo with
    | true => hkCo h c x y z [srcT p]
    | false => none)
   | _ :: _ => none)
  | _ => none
noncomputable abbrev fnT (ps rs : List V) (m : Bool) : V := .tup [.str 1668183398, .tup ps, .tup rs, .bool m]
noncomputable abbrev gF : V := fnT [tInt, tStr] [tBool] false
noncomputable abbrev gG : V := fnT [tStr, tSl] [tInt, tBool] true
noncomputable abbrev gV : V := fnT [tInt] [] false
noncomputable def fitsOf : List V → List Bool → List (V × Bool)
 | T :: Ts, b :: bs => (T, b) :: fitsOf Ts bs
 | _, _ => []
noncomputable def toks (k : Nat) : Nat → List V
 | 0 => []
 | n + 1 => .tok true k :: toks (k + 1) n
noncomputable def dueV (b : Bool) (xs : List V) : V := match b with
 | true => .tup xs
 | false => vType
noncomputable def vals (k : Nat) : List V → List Ev
 | [] => []
 | T :: Ts => .vl T k :: vals (k + 1) Ts
noncomputable abbrev outL (es : List V) (s : Bool) (d : V) : V := .lst [.lst es, .bool s, d]
noncomputable def outP (Ts : List V) (bs : List Bool) (d : Nat) : List (V × Bool) × V := match d with
 | 0 => ([], outL (toks 0 Ts.length ++ [.tup (locI tInt (.int 0))]) false vType)
 | 1 => ([], outL (toks 1 (Ts.length - 1)) false vType)
 | 2 => ([], outL (toks 0 Ts.length) true vType)
 | _ => (fitsOf Ts bs, outL (toks 0 Ts.length) false (dueV (bs.all id) (toks 100 Ts.length)))
noncomputable def outS (bs : List Bool) (d : Nat) : List (V × Bool) × V := match Nat.beq d 1 with
 | true => ([], outL [] false vType)
 | false => (fitsOf [tStr, tSl] bs, outL (toks 0 2) true (dueV (bs.all id) (toks 100 2)))
noncomputable def rowV (m : Nat) : V := match m with
 | 0 => .tup [.str 7104878, tSl, .int 7]
 | _ => .tup [.str 7827314, tSl, .int 7, .int m, .tup (numerate 0 (toks 101 m))]
noncomputable def outM (m : Nat) (bs : List Bool) (d : Nat) : List (V × Bool) × V := match Nat.beq d 1 with
 | true => ([], outL [] false vType)
 | false => (fitsOf (tStr :: List.replicate m tInt) bs, outL (toks 0 (m + 1)) false (dueV (bs.all id) [.tok true 100, rowV m]))
noncomputable def hpP (Ts : List V) (bs : List Bool) (d : Nat) : HP := { evs := .no :: .no :: (vals 0 Ts ++ [.tk 8 (.int d)]), args := fitsOf Ts bs }
noncomputable def hpS (bs : List Bool) (d : Nat) : HP := { evs := .no :: .no :: .tk 3 (.int 0) :: (vals 0 [tStr, tSl] ++ [.tk 8 (.int d)]), args := fitsOf [tStr, tSl] bs }
noncomputable def hpM (s m : Nat) (bs : List Bool) (d : Nat) : HP := { evs := .no :: .no :: .tk 3 (.int s) :: .tk 4 (.int m) :: (vals 0 (tStr :: List.replicate m tInt) ++ [.tk 8 (.int d)]), args := fitsOf (tStr :: List.replicate m tInt) bs }
noncomputable def bls : Nat → List (List Bool)
 | 0 => [[]]
 | n + 1 => (bls n).map (true :: ·) ++ (bls n).map (false :: ·)
noncomputable def outsP (Ts : List V) : List (List (V × Bool) × V) := (List.range 3).map (outP Ts []) ++ (bls Ts.length).map fun bs => outP Ts bs 3
noncomputable def outsG : List (List (V × Bool) × V) := outS [] 1 :: ((bls 2).map fun bs => outS bs 0) ++ (List.range 4).flatMap fun m => (bls (m + 1)).map fun bs => outM m bs 0
noncomputable def GH (h : HP) : Glob := { G with hook := hkAll h }
noncomputable def runA (h : HP) (g : V) : Res := run (GH h) 45 (.call (.fn nArg) [.ref 0, g] [srcT 2])
noncomputable def runF (o : List (V × Bool) × V) (g : V) (i : Nat) : Res := run (GH { evs := [.no, .tk 4 (.int i), .ar g o.2 10], args := o.1 }) 103 (.call (.fn nFR) [.ref 0] [srcT 1])
noncomputable def runM (o : List (V × Bool) × V) (g : V) (i w : Nat) : Res := run (GH { evs := [.tk 2 (.int i), .tk 4 (.int w), .ar g o.2 10], args := o.1 }) 100 (.call (.fn nMR) [.ref 0] [srcT 0])
end Mine
end
section
open PySem PySem.W PyProof.Rows PySem.Calls PySem.SeqAt
open PyProof.Rows.LCg (NsObj ns_obj)
namespace Mine
open Hp (objs H1 hB)
noncomputable section
variable {td : TokD} {tm : TokM td}
noncomputable def bdy (cf : Cfg) (K : Frag) (a : Addr) : List Sm := match fdAt K a with
 | some fd => trB cf muT 40 fd.scope (stP fd.body)
 | none => []
noncomputable def othT : List (Nat × Fn) := fnTab.filter fun p => !Nat.beq p.1 nLC
noncomputable def fnO (cf : Cfg) (K : Frag) (p : Nat × Fn) : Bool := match lkA p.1 faT with
 | some a => fnB cf K p.2 a
 | none => false
theorem fns_ok (td : TokD) (tm : TokM td) (P : Params) : fnTab.all (fnO (mkCf td tm) (KK P)) = true := by kernel_rfl
theorem bds_ok (td : TokD) (tm : TokM td) (P : Params) : othT.map (fun p => bdy (mkCf td tm) (KK P) ((lkA p.1 faT).getD 0)) = othT.map (fun p => p.2.body) := by kernel_rfl
theorem fnOf_mem {G : Glob} {f : Nat} {g : Fn} {l : List (Nat × Fn)} (h : fnOf G f l = some g) : (f, g) ∈ l := by
 induction l with
 | nil => exact noS h
 | cons p r ih =>
  have h : (match Nat.beq f p.1 with
   | true => some p.2
   | false => fnOf G f r) = some g := h
  cases q : Nat.beq f p.1 with
  | true => rw [q] at h; obtain rfl := sI h; obtain rfl := nbe q; exact .head _
  | false => rw [q] at h; exact .tail _ (ih h)
noncomputable def lcSc : Scope := { kind := .function, names := lamN, isGenerator := false, isCoroutine := false }
noncomputable abbrev q551 (c c2 : Nat) : Pos := ps 551 c 551 c2
noncomputable abbrev lamE : PE := .Lambda lamP lamB lamS (q551 60 97)
noncomputable abbrev lcD : PE := .Dict [some (.Constant (.str (strOf 1684828020)) 0 (q551 52 58))] [lamE] (q551 51 98)
noncomputable abbrev lcA : List PE := [.Name (Str.ofString "world") (q551 19 24), .Constant (.str (Str.ofString "m")) 0 (q551 26 29), .Call (.Name (Str.ofString "Scope") (q551 31 36)) [.Constant .none 0 (q551 37 41)] [] (q551 31 42), .Constant (.str (Str.ofString "m.f")) 0 (q551 44 49)]
noncomputable abbrev lcZ : PE := .Constant .none 0 (q551 100 104)
noncomputable abbrev lcS : PS := .Return (some (.Call (.Name (Str.ofString "Checker") (q551 11 18)) (lcA ++ [lcD, lcZ]) [] (q551 11 105))) (ps 551 4 551 105)
noncomputable def lcB : List PS := match Hp.st 95 with
 | .FunctionDef _ _ b .. => b.take 4
 | _ => []
noncomputable abbrev lcX : List Ex := [.v .loc 431316168567, .cs 109, .call (.v .glo 435678045011) [.cn], .cs 6696557]
noncomputable abbrev lcY : Sm := .ret (.call (.v .glo 32199659248511043) (lcX ++ [.dct false [1684828020] [.lam], .cn]))
theorem lc_fd (P : Params) : (fdAt (KK P) 757).map (fun fd => (stP fd.body, fd.scope)) = some (lcB ++ [lcS], lcSc) := by kernel_rfl
theorem lc_tr (td : TokD) (tm : TokM td) : (trB (mkCf td tm) muT 40 lcSc lcB ++ [lcY] = f_law_checker.body ∧ trL (tr (mkCf td tm) muT 40 lcSc) lcA = some lcX) ∧ tr (mkCf td tm) muT 40 lcSc (.Name (Str.ofString "Checker") (q551 11 18)) = some (.v .glo 32199659248511043) := ⟨⟨by kernel_rfl, by kernel_rfl⟩, by kernel_rfl⟩
theorem ErL.app {cf : Cfg} {sc : Scope} {es es' : List PE} {xs xs' : List Ex} (h : ErL cf sc es xs) (h' : ErL cf sc es' xs') : ErL cf sc (es ++ es') (xs ++ xs') := by
 induction h with
 | nil => exact h'
 | cons a _ ih => exact .cons a ih
theorem ErB.app {cf : Cfg} {sc : Scope} {s : PS} {x : Sm} (h' : ErS cf sc s x) : ∀ {es : List PS} {xs : List Sm}, ErB cf sc es xs → ErB cf sc (es ++ [s]) (xs ++ [x])
 | [], _, h => by cases h; exact .cons h' .nil
 | _ :: _, _, h => by cases h with | cons a l => exact .cons a (ErB.app h' l)
theorem lc_er (td : TokD) (tm : TokM td) : ErB (mkCf td tm) lcSc (lcB ++ [lcS]) f_law_checker.body := by
 obtain ⟨⟨h1, h2⟩, h3⟩ := lc_tr td tm
 rw [← h1]
 have l := trL_eq (R := Er (mkCf td tm) lcSc) (fun h => tr_eq h) h2
 have D : Er (mkCf td tm) lcSc lcD (.dct false [1684828020] [.lam]) := .dctR (.cons .nil) rfl (fun p hp => by obtain rfl := List.mem_singleton.mp hp; exact .lam rfl) rfl (by decide) (by decide)
 have r := ((ErL.of l.1 l.2).app (.cons D (.cons (.cn (k := 0) (pos := q551 100 104)) .nil))).raw
 exact (trB_eq rfl).app (.ret (.callR (tr_eq h3) rfl r.1 r.2 (by decide)))
theorem fn_at (td : TokD) (tm : TokM td) {P : Params} {b : Heap} {G : Glob} {f : Nat} {g : Fn} {a : Addr} (h : fnOf G f fnTab = some g) (ha : lkA f faT = some a) : FnAt (mkCf td tm) (KK P) P b g a := by
 have hm := fnOf_mem h
 have h1 : fnO (mkCf td tm) (KK P) (f, g) = true := List.all_eq_true.mp (fns_ok td tm P) _ hm
 unfold fnO at h1
 rw [ha] at h1
 refine fnB_eq h1 fun fd hfd => ?_
 cases q : Nat.beq f nLC with
 | false =>
  have e := List.map_inj_left.mp (bds_ok td tm P) (f, g) (List.mem_filter.mpr ⟨hm, by rw [q]; rfl⟩)
  rw [ha] at e
  unfold bdy at e
  rw [show ((some a : Option Addr).getD 0) = a from rfl, hfd] at e
  exact trB_eq e
 | true =>
  obtain rfl := nbe q
  injection ha.symm.trans (show lkA nLC faT = some 757 from by decide) with j1; subst j1
  injection h.symm.trans (show fnOf G nLC fnTab = some f_law_checker from rfl) with j1; subst j1
  have e := lc_fd P
  rw [hfd] at e
  injection e with e
  injection e with e1 e2
  rw [e1, e2]
  exact lc_er td tm
end
end Mine
end
section
open PySem PySem.W PyProof.Rows PySem.Calls PySem.SeqAt
open PyProof.Rows.LCg (NsObj ns_obj)
namespace Mine
open Hp (objs H1 hB)
noncomputable section
noncomputable def mkE (P : Params) (l : List (Nat × Tok × Value)) : List DictEntry := l.map fun e => ⟨PyData.keyHash P (strOf e.1), .str (strOf e.1) e.2.1, e.2.2⟩
theorem dct_ok (P : Params) : dcT.map (fun d => (KK P).lookup d.1) = dcT.map (fun d => some (dictOf (mkE P d.2.1) d.2.2)) := by kernel_rfl
noncomputable def tupA (K : Frag) (u : Value) : Option (List Value) := (refP u).bind fun a => (K.lookup a).bind fun o => (seqP o.data).bind fun p => gd (o.cls == .type "tuple" && o.dict.isNone && Nat.beq o.slots.size 0) p.1.toList
structure TupR (K : Frag) (u : Value) (l : List Value) : Prop where
 at_ : ∃ a n, u = .ref a ∧ K.lookup a = some (tupOf l.toArray n)
theorem tupA_eq {K : Frag} {u : Value} {l : List Value} (h : tupA K u = some l) : TupR K u l := by
 obtain ⟨a, h1, h⟩ := bndS h
 obtain ⟨⟨o1, o2, o3, o4⟩, h2, h⟩ := bndS h
 obtain ⟨⟨vs, n⟩, h3, h⟩ := bndS h
 obtain ⟨h4, rfl⟩ := gdS h
 obtain ⟨h4, g3⟩ := and2 h4
 obtain ⟨g1, g2⟩ := and2 h4
 cases eq_of_beq g1
 cases seqP_eq h3
 cases o2 with
 | some => exact noB g2
 | none =>
  cases Array.eq_empty_of_size_eq_zero (nbe g3)
  exact ⟨a, n, refP_eq h1, h2⟩
noncomputable def dcA (u : Value) : Option (Addr × List (Nat × Tok × Value) × Nat) := (refP u).bind fun a => dcT.find? fun d => Nat.beq d.1 a
noncomputable def strU : Value → Option Str
 | .str s _ => some s
 | _ => none
theorem strU_eq {u : Value} {s : Str} (h : strU u = some s) : ∃ t, u = .str s t := by cases u <;> first | exact noS h | (obtain rfl := sI h; exact ⟨_, rfl⟩)
noncomputable def intU : Value → Option Int
 | .int s _ => some s
 | _ => none
theorem intU_eq {u : Value} {s : Int} (h : intU u = some s) : ∃ t, u = .int s t := by cases u <;> first | exact noS h | (obtain rfl := sI h; exact ⟨_, rfl⟩)
noncomputable def denB (K : Frag) : Nat → V → Value → Bool
 | 0, _, _ => false
 | f + 1, v, u => match v with
  | .bool x => u == .bool x
  | .int i => (intU u).any fun j => i == j
  | .str s => (strU u).any fun t => eqS t s
  | .tup xs => (tupA K u).any fun l => all2 (denB K f) xs l
  | .dct kvs => (dcA u).any fun d => !Nat.beq d.1 sysModules && all2 (fun p q => Nat.beq p.1 q.1 && denB K f p.2 q.2.2) kvs d.2.1 && nodupN (kvs.map (·.1))
  | .blt x => u == bval x
  | .typ x => u == tval x
  | _ => false
theorem anyO {α : Type} {o : Option α} {k : α → Bool} (h : o.any k = true) : ∃ x, o = some x ∧ k x = true := by
 cases o with
 | some x => exact ⟨x, rfl, h⟩
 | none => exact noB h
variable {td : TokD} {tm : TokM td} {P : Params}
theorem denB_eq {f : Nat} {v : V} {u : Value} (h : denB (KK P) f v u = true) : Den (mkCf td tm) P (hB P) [] [] v u := by
 induction f generalizing v u with
 | zero => exact noB h
 | succ f ih =>
  cases v with
  | bool x => obtain rfl := eq_of_beq h; exact .bool _
  | int i =>
   obtain ⟨j, h1, h⟩ := anyO h
   obtain ⟨t, rfl⟩ := intU_eq h1
   obtain rfl := eq_of_beq h
   exact .int _ _
  | str s =>
   obtain ⟨j, h1, h⟩ := anyO h
   obtain ⟨t, rfl⟩ := strU_eq h1
   rw [eqS_eq h]
   exact .str _ _
  | tup xs =>
   obtain ⟨l, h1, h9⟩ := anyO h
   clear h
   obtain ⟨⟨a, n, rfl, h2⟩⟩ := tupA_eq h1
   refine .tup (.inr (KK_in P _ _ h2)) ?_
   clear h1 h2
   induction xs generalizing l with
   | nil => cases l <;> first | exact .nil | exact noB h9
   | cons x xs jh => cases l with
    | nil => exact noB h9
    | cons y l => exact .cons (ih (and2 h9).1) (jh l (and2 h9).2)
  | dct kvs =>
   obtain ⟨⟨a, es, n⟩, h1, h9⟩ := anyO h
   clear h
   obtain ⟨a', h2, h3⟩ := bndS h1
   obtain ⟨h7, h6⟩ := and2 h9
   obtain ⟨h4, h5⟩ := and2 h7
   have e := List.find?_some h3
   obtain rfl := nbe e
   have hm := List.map_inj_left.mp (dct_ok P) _ (List.mem_of_find?_eq_some h3)
   rw [refP_eq h2]
   refine .dct (beq_eq_false_iff_ne.mpr (beqN h4)) (.inr (KK_in P _ _ hm)) ?_
   have nd := nodupN_eq h6
   clear h1 h2 h3 h4 h6 hm e h7 h9
   induction kvs generalizing es with
   | nil => cases es <;> first | exact .nil | exact noB h5
   | cons p r jh => cases es with
    | nil => exact noB h5
    | cons q es =>
     obtain ⟨h6, h7⟩ := and2 h5
     obtain ⟨h8, h9⟩ := and2 h6
     obtain ⟨k, x⟩ := p
     obtain ⟨k', t, y⟩ := q
     cases nbe h8
     have nd2 := List.nodup_cons.mp nd
     exact .cons (fun z hz e => nd2.1 (e ▸ mmo (f := (·.1)) hz)) (ih h9) (jh es h7 nd2.2)
  | blt x => obtain rfl := eq_of_beq h; exact .blt _
  | typ x => obtain rfl := eq_of_beq h; exact .typ _
  | _ => exact noB h
noncomputable def refB (r : Option (Option Value)) (a : Option Addr) : Bool := a.any fun a => r == some (some (.ref a))
noncomputable def gvB (K : Frag) (p : Nat × V) : Bool := match nsIn K mainGlobals (strOf p.1) with
 | none => false
 | some r => match r with
  | some u => denB K 9 p.2 u
  | none => (bootBuiltins (strOf p.1)).any (denB K 2 p.2) && !Fast.sEq (strOf p.1) "__name__"
theorem glo_ok (P : Params) : (G.tfn.all (fun x => refB (nsIn (KK P) mainGlobals (strOf x)) (lkA x faT)) && G.cls.all (fun x => refB (nsIn (KK P) mainGlobals (strOf x)) (lkA x caT)) && G.vals.all (gvB (KK P))) = true := by kernel_rfl
theorem inL_of {x : Nat} {l : List Nat} (h : inL x l = true) : x ∈ l := by
 induction l with
 | nil => exact noB h
 | cons y r ih =>
  rcases Bool.or_eq_true_iff.mp h with h | h
  ·rw [nbe h]; exact .head _
  ·exact .tail _ (ih h)
noncomputable def withHook (hk : Nat → List V → Store → Option (Nat × Res)) : Glob := { G with hook := hk }
noncomputable abbrev GloR (td : TokD) (tm : TokM td) (P : Params) (x : Nat) (v : V) : Prop := ∃ val, ((nsIn (KK P) mainGlobals (strOf x) = some (some val)) ∨ (nsIn (KK P) mainGlobals (strOf x) = some none ∧ bootBuiltins (strOf x) = some val ∧ strOf x ≠ "__name__")) ∧ Den (mkCf td tm) P (hB P) [] [] v val
theorem glo_at (hk) {x : Nat} {v : V} (h : glo (withHook hk) x = some v) : GloR td tm P x v := by
 obtain ⟨ho, hv⟩ := and2 (glo_ok P)
 obtain ⟨hf, hc⟩ := and2 ho
 have h : (match inL x G.tfn with
  | true => some (V.fn x)
  | false => match inL x G.cls with
   | true => some (.cls x)
   | false => lookN x G.vals) = some v := h
 cases q : inL x G.tfn with
 | true =>
  rw [q] at h
  obtain rfl := sI h
  obtain ⟨a, h1, h2⟩ := anyO (List.all_eq_true.mp hf x (inL_of q))
  exact ⟨_, .inl (eq_of_beq h2), .fn h1⟩
 | false =>
  rw [q] at h
  cases q2 : inL x G.cls with
  | true =>
   dsimp only at h
   rw [q2] at h
   obtain rfl := sI h
   obtain ⟨a, h1, h2⟩ := anyO (List.all_eq_true.mp hc x (inL_of q2))
   exact ⟨_, .inl (eq_of_beq h2), .cls h1⟩
  | false =>
   dsimp only at h
   rw [q2] at h
   have z : gvB (KK P) (x, v) = true := List.all_eq_true.mp hv (x, v) (lookN_mem h)
   unfold gvB at z
   dsimp only at z
   cases e : nsIn (KK P) mainGlobals (strOf x) with
   | none => rw [e] at z; exact noB z
   | some r =>
    rw [e] at z
    cases r with
    | some u => exact ⟨u, .inl e, denB_eq z⟩
    | none =>
     obtain ⟨z1, z2⟩ := and2 z
     obtain ⟨u, h1, h2⟩ := anyO z1
     exact ⟨u, .inr ⟨e, h1, fun w => by rw [Fast.sEq_iff.mpr w] at z2; exact noB z2⟩, denB_eq h2⟩
noncomputable def attB (K : Frag) (C : Addr) (n : Nat) : Bool := plainGet K C (strOf n) && hasDictIn K C && (findIn K (.ref C) (strOf n)).any (noGet K) && findIn K (.ref C) "__setattr__" == some (some (.builtin "object.__setattr__")) && plainOver K C && takerIn K C (strOf n) == some none
theorem att_ok (P : Params) : iaT.all (fun p => anT.all (attB (KK P) p.2)) = true := by kernel_rfl
noncomputable def stripM (c k : List Nat) : Option (List Nat) := match c with
 | [] => match k with
  | [] => none
  | x :: k => gd (Nat.beq x 46) k
 | a :: c => match k with
  | [] => none
  | x :: k => (gd (Nat.beq x a) ()).bind fun z_ => stripM c k
theorem stripM_of (c k : List Nat) : stripM c (c ++ 46 :: k) = some k := by
 induction c with
 | nil => rfl
 | cons a c ih =>
  show (gd (Nat.beq a a) ()).bind _ = _
  rw [Nat.beq_refl]; exact ih
theorem dec_mkM (c n : Nat) : dec (mkM c n) = dec c ++ 46 :: dec n := dec_encL (canon_append (dec_canon c) ⟨fun d hd => by
 rcases List.mem_cons.mp hd with rfl | hd
 ·decide
 ·exact (dec_canon n).1 d hd, fun d hd => by
 cases e : dec n with
 | nil => rw [e] at hd; obtain rfl := sI hd; decide
 | cons x r => rw [e, List.getLast?_cons_cons] at hd; exact (dec_canon n).2 d (by rw [e]; exact hd)⟩)
noncomputable def metB (K : Frag) (C : Addr) (n : Nat) (k : Nat) : Bool := (lkA k faT).any fun f => findIn K (.ref C) (strOf n) == some (some (.ref f)) && isFn K (.ref f) && plainGet K C (strOf n) && fnIn K f
theorem met_ok (P : Params) : iaT.all (fun p => fnTab.all fun q => match stripM (dec p.1) (dec q.1) with
 | none => true
 | some l => metB (KK P) p.2 (encL l) q.1) = true := by kernel_rfl
theorem met_at {c C n : Nat} {g : Fn} (hC : lkA c iaT = some C) (hg : fnOf G (mkM c n) fnTab = some g) : metB (KK P) C n (mkM c n) = true := by
 have h : (match stripM (dec c) (dec (mkM c n)) with
  | none => true
  | some l => metB (KK P) C (encL l) (mkM c n)) = true := List.all_eq_true.mp (List.all_eq_true.mp (met_ok P) (c, C) (lkA_mem hC)) (mkM c n, g) (fnOf_mem hg)
 rw [dec_mkM, stripM_of] at h
 dsimp only at h
 rw [encL_dec] at h
 exact h
noncomputable def clsB (K : Frag) (c C : Nat) : Bool := (lkA c iaT).any (fun a => Nat.beq a C) && makesIn K C && keepIn K (.ref C) && (lkA (mkM c nInit) faT).any fun f => findIn K (.ref C) "__init__" == some (some (.ref f)) && typeIn K (.ref f) == some (.type "function")
theorem cls_ok (P : Params) : caT.all (fun p => (fnOf G (mkM p.1 nInit) fnTab).isNone || clsB (KK P) p.1 p.2) = true := by kernel_rfl
theorem fnOf_hook (hk) (f : Nat) (l : List (Nat × Fn)) : fnOf (withHook hk) f l = fnOf G f l := by
 induction l with
 | nil => rfl
 | cons p r ih =>
  show (match Nat.beq f p.1 with
   | true => some p.2
   | false => fnOf (withHook hk) f r) = match Nat.beq f p.1 with
   | true => some p.2
   | false => fnOf G f r
  rw [ih]
theorem cls_at (hk) {c C : Nat} (hC : lkA c caT = some C) (hi : (fnOf (withHook hk) (mkM c nInit) fnTab).isSome = true) : ClsOk (mkCf td tm) (KK P) (withHook hk) c C := by
 have h : ((fnOf G (mkM c nInit) fnTab).isNone || clsB (KK P) c C) = true := List.all_eq_true.mp (cls_ok P) (c, C) (lkA_mem hC)
 rw [fnOf_hook] at hi
 cases e : fnOf G (mkM c nInit) fnTab with
 | none => rw [e] at hi; exact noB hi
 | some g =>
  rw [e] at h
  have h : clsB (KK P) c C = true := h
  obtain ⟨h, h4⟩ := and2 h
  obtain ⟨h, h3⟩ := and2 h
  obtain ⟨h1, h2⟩ := and2 h
  obtain ⟨a, g1, g2⟩ := anyO h1
  obtain ⟨f, g3, g4⟩ := anyO h4
  obtain ⟨g4, g5⟩ := and2 g4
  obtain rfl := nbe g2
  exact ⟨g1, h2, h3, f, g3, eq_of_beq g4, eq_of_beq g5⟩
end
end Mine
end
section
open PySem PySem.W PyProof.Rows PySem.Calls PySem.SeqAt
open PyProof.Rows.LCg (NsObj ns_obj)
namespace Mine
open Hp (objs H1 hB)
noncomputable section
noncomputable abbrev xcM : List Value := [.ref 153, .type "Exception", .type "BaseException", .type "object"]
noncomputable abbrev xcO (nm : String) (C N m t1 t2 : Nat) : Obj := excClassObj (Str.ofString nm) (Str.ofString nm) C N [.ref 153] xcM true [] [] false none none (some (.ref m)) none (some (.str (Str.ofString nm) t1)) (some (.str (Str.ofString nm) t2)) (some (.bool true)) "Exception.__new__"
noncomputable abbrev xcD (nm : String) (C N : Nat) : ClassData := { name := Str.ofString nm, bases := [.ref 153], mro := .ref C :: xcM, ns := N, qualname := Str.ofString nm }
structure XcK (K : Frag) (nm : String) (C N m t1 t2 : Nat) : Prop where
 o : K.lookup C = some (xcO nm C N m t1 t2)
 l : ((Value.ref C :: xcM).contains (.type "Exception") && !(Value.ref C :: xcM).contains (.type "AttributeError") && !(Value.ref C :: xcM).contains (.type "NameError") && (Value.ref C :: xcM).contains (.type "BaseException") && (Value.ref C :: xcM).contains (.ref C) && !(Value.ref C :: xcM).contains (.type "type")) = true
 k : (keepIn K (.ref C) && findIn K (.ref C) "__init__" == some (some (.ref 150)) && findIn K (.ref C) "__setattr__" == some (some (.builtin "object.__setattr__")) && findIn K (.ref C) (Str.ofString "message") == some none && findIn K (.ref C) (Str.ofString "spot") == some none && mroIn K C (.type "object") == some true) = true
 c : clsIn K C = some (xcD nm C N)
 e : exmOne K (.ref C) (.ref C) = some true
 r : (fun self : Value => refuseLoop self "__setattr__" (.ref C :: xcM)) = fun z_ => pure ()
theorem xk1 (P : Params) : XcK (KK P) "NameFault" 166 165 157 388 396 := ⟨by kernel_rfl, by kernel_rfl, by kernel_rfl, by kernel_rfl, by kernel_rfl, by kernel_rfl⟩
theorem xk2 (P : Params) : XcK (KK P) "TypeFault" 178 177 169 404 412 := ⟨by kernel_rfl, by kernel_rfl, by kernel_rfl, by kernel_rfl, by kernel_rfl, by kernel_rfl⟩
noncomputable abbrev q_ (l c c2 : Nat) : Pos := ps l c l c2
noncomputable abbrev xcB : List PS := initBody (q_ 101 8 17) (q_ 101 8 26) (q_ 101 27 31) (q_ 101 33 40) (q_ 101 8 41) (q_ 101 8 41) (q_ 102 8 12) (q_ 102 8 20) (q_ 102 23 30) (q_ 102 8 30) (q_ 103 8 12) (q_ 103 8 17) (q_ 103 20 24) (q_ 103 8 24)
noncomputable abbrev xcF : FuncData := { name := Str.ofString "__init__", qualname := Str.ofString "ChanError.__init__", params := { posonlyargs := [], args := [⟨Str.ofString "self", none, q_ 100 17 21⟩, ⟨Str.ofString "message", none, q_ 100 23 30⟩, ⟨Str.ofString "spot", none, q_ 100 32 36⟩], vararg := none, kwonlyargs := [], kw_defaults := [], kwarg := none, defaults := [.Constant (.int 0) 0 (q_ 100 37 38)] }, body := .stmts xcB, scope := { kind := .function, names := [(Str.ofString "self", .local), (Str.ofString "message", .local), (Str.ofString "spot", .local), (Str.ofString "Exception", .globalImplicit)], isGenerator := false, isCoroutine := false }, globals := 3, closure := [], defaults := .ref 143, kwdefaults := .none, pyModule := .str (Str.ofString "chancore.errors") 354, code := .ref 149 }
theorem xc_fn (P : Params) : XcFn (KK P) 150 := by
 refine ⟨{ cls := .type "function", data := .func xcF }, xcF, _, _, _, _, _, _, _, _, _, _, _, _, _, _, _, _, 143, 0, .int 0 368, by kernel_rfl, rfl, rfl, rfl, rfl, by kernel_rfl, rfl, rfl, rfl, rfl, rfl, rfl, rfl, rfl, by kernel_rfl, ?_, rfl, rfl, rfl, rfl⟩
 intro z hz
 simp only [xcF, List.mem_cons, List.not_mem_nil, or_false] at hz
 rcases hz with rfl | rfl | rfl | rfl <;> decide
theorem xc_ty (P : Params) : typeIn (KK P) (.ref 150) = some (.type "function") := by kernel_rfl
theorem xc_ok {P : Params} {nm : String} {C N m t1 t2 : Nat} (X : XcK (KK P) nm C N m t1 t2) : XcOk (KK P) C := by
 obtain ⟨h1, h2, h3, h4, h5, h6⟩ := X
 obtain ⟨h2, l6⟩ := and2 h2
 obtain ⟨h2, l5⟩ := and2 h2
 obtain ⟨h2, l4⟩ := and2 h2
 obtain ⟨h2, l3⟩ := and2 h2
 obtain ⟨l1, l2⟩ := and2 h2
 obtain ⟨h3, k6⟩ := and2 h3
 obtain ⟨h3, k5⟩ := and2 h3
 obtain ⟨h3, k4⟩ := and2 h3
 obtain ⟨h3, k3⟩ := and2 h3
 obtain ⟨k1, k2⟩ := and2 h3
 exact ⟨_, _, _, _, _, _, _, _, _, _, _, _, _, _, _, _, h1, ⟨l1, not_f l2, not_f l3, l4, l5⟩, not_f l6, k1, 150, eq_of_beq k2, xc_ty P, xc_fn P, _, ⟨h4, rfl, fun self => congrFun h6 self, eq_of_beq k6, eq_of_beq k3⟩, eq_of_beq k4, eq_of_beq k5⟩
theorem xs_at {c C : Nat} (hc : inL c xsT = true) (hC : lkA c caT = some C) (P : Params) : XcOk (KK P) C ∧ exmOne (KK P) (.ref C) (.ref C) = some true := by
 have hm := inL_of hc
 rcases List.mem_cons.mp hm with rfl | hm
 ·injection hC.symm.trans (show lkA 2147637572233656623438 caT = some 166 from rfl) with j1; subst j1
  exact ⟨xc_ok (xk1 P), (xk1 P).e⟩
 ·rcases List.mem_cons.mp hm with rfl | hm
  ·injection hC.symm.trans (show lkA 2147637572233656826196 caT = some 178 from rfl) with j1; subst j1
   exact ⟨xc_ok (xk2 P), (xk2 P).e⟩
  ·cases hm
theorem xs_glo (hk) {c : Nat} (hc : inL c xsT = true) : glo (withHook hk) c = some (.cls c) := by
 have hm := inL_of hc
 rcases List.mem_cons.mp hm with rfl | hm
 ·rfl
 ·rcases List.mem_cons.mp hm with rfl | hm
  ·rfl
  ·cases hm
noncomputable def nmB (K : Frag) (x : String) : Bool := nsIn K mainGlobals (Str.ofString x) == some none && bootBuiltins (Str.ofString x) == some (.type x) && !Fast.sEq (Str.ofString x) "__name__" && !Fast.sEq (Str.ofString x) "__debug__"
theorem nm_ok (P : Params) : ["range", "enumerate", "zip", "tuple", "Exception"].all (nmB (KK P)) = true := by kernel_rfl
theorem names_ok (P : Params) : Names (KK P) := ⟨fun x hx => by
 have h := List.all_eq_true.mp (nm_ok P) x hx
 obtain ⟨h, h4⟩ := and2 h
 obtain ⟨h, h3⟩ := and2 h
 obtain ⟨h1, h2⟩ := and2 h
 exact ⟨eq_of_beq h1, eq_of_beq h2, fun w => (by rw [Fast.sEq_iff.mpr w] at h3; exact noB h3), beq_eq_false_iff_ne.mpr fun w => (by rw [Fast.sEq_iff.mpr w] at h4; exact noB h4)⟩⟩
theorem code_hd (P : Params) : codeHdIn (KK P) lcC 752 = true := by kernel_rfl
theorem lam_ok (td : TokD) (tm : TokM td) (P : Params) : LamOk (mkCf td tm) (hB P) := by
 refine ⟨codeHd_of_K (KK_in P) (code_hd P), ?_, ?_, rfl, rfl, rfl, _, encL [99, 104, 101, 99, 107, 101, 114], encL [110, 111, 100, 101], encL [119, 97, 110, 116, 101, 100], ps 551 90 551 94, ps 551 95 551 96, ps 551 90 551 97, 0, rfl, by decide +kernel, by decide +kernel, ?_, by decide, ?_⟩
 ·intro y hy
  simp only [mkCf, lamS, List.mem_cons, List.not_mem_nil, or_false] at hy
  rcases hy with rfl | rfl | rfl <;> decide
 ·intro y hy
  simp only [mkCf, lamS, List.mem_cons, List.not_mem_nil, or_false] at hy
  rcases hy with rfl | rfl | rfl <;> decide
 ·show lamB = _
  rw [show strOf (encL [110, 111, 100, 101]) = Str.ofString "node" from by decide +kernel]
  rfl
 ·intro x hx
  simp only [List.mem_cons, List.not_mem_nil, or_false] at hx
  rcases hx with rfl | rfl | rfl <;> kernel_rfl
theorem top_at (w : World) (os : OsState) : ∃ mean mg mb, Top Hp.view0 (looseW Hp.view0 Hp.loose0) mean mg mb (hB w.params) :=
 ⟨_, _, _, top_of_seenO (s := { heap := hB w.params, toks := 1415, os := os }) (congrFun (Hp.zlk2 w) os) (congrFun (Hp.zlk3 w) os) (congrFun (Hp.zlk4a w) os) (congrFun (Hp.zlk4e w) os) (congrFun (Hp.zlk5 w) os) (by decide +kernel)⟩
theorem sz_ok (P : Params) : (objs P).length = 810 ∧ (hB P).get? 809 = some (((objs P)[809]?).getD default) := ⟨by kernel_rfl, by kernel_rfl⟩
theorem sys_ok (P : Params) : (hB P).get? sysModules = some (((objs P)[sysModules]?).getD default) := by kernel_rfl
theorem imp_no : importsNone Hp.view0 = true := by decide +kernel
theorem hB_size (P : Params) : (hB P).objs.size = 810 := (hideAll_size _ _).trans (sz_ok P).1
noncomputable abbrev BsAt (td : TokD) (tm : TokM td) (wd : World) (hk : Nat → List V → Store → Option (Nat × Res)) : Prop := ∃ mean mg mb, Bs (mkCf td tm) (KK wd.params) Hp.view0 (looseW Hp.view0 Hp.loose0) mean mg mb wd.params (hB wd.params) (withHook hk)
theorem bs_at (td : TokD) (tm : TokM td) (wd : World) (os : OsState) (hk) : BsAt td tm wd hk := by
 obtain ⟨mean, mg, mb, T⟩ := top_at wd os
 refine ⟨mean, mg, mb, KK_in _, T, T.seer imp_no, ⟨((objs wd.params)[809]?).getD default, ?_⟩, ⟨_, sys_ok _⟩, fun x v h => glo_at (td := td) (tm := @tm) (P := wd.params) hk h, fun c C n hC hn => ?_, fun c C n g hC hg => ?_⟩
 ·rw [hB_size]; exact (sz_ok _).2
 ·have h := List.all_eq_true.mp (List.all_eq_true.mp (att_ok wd.params) (c, C) (lkA_mem hC)) n (inL_of hn)
  obtain ⟨h, h6⟩ := and2 h
  obtain ⟨h, h5⟩ := and2 h
  obtain ⟨h, h4⟩ := and2 h
  obtain ⟨h, h3⟩ := and2 h
  obtain ⟨h1, h2⟩ := and2 h
  obtain ⟨a, k1, k2⟩ := anyO h3
  exact ⟨h1, h2, ⟨a, k1, k2⟩, eq_of_beq h4, h5, eq_of_beq h6⟩
 ·have h := met_at (P := wd.params) hC (((fnOf_hook hk _ _).symm.trans hg : fnOf G (mkM c n) fnTab = some g))
  obtain ⟨f, h1, h⟩ := anyO h
  obtain ⟨h, h5⟩ := and2 h
  obtain ⟨h, h4⟩ := and2 h
  obtain ⟨h2, h3⟩ := and2 h
  exact ⟨f, h1, eq_of_beq h2, h3, h4, h5⟩
theorem pr_at (td : TokD) (tm : TokM td) (wd : World) (hk) (TE : TokEq (mkCf td tm) wd.params (hB wd.params)) : PrOk (mkCf td tm) (KK wd.params) Hp.pw wd.params (hB wd.params) (withHook hk) :=
 ⟨fun f g a hg ha => fn_at td tm (G := withHook hk) hg ha, fun c C hC hi => cls_at hk hC hi, fun c hc => xs_glo hk hc, fun c C hc hC => xs_at hc hC _, lam_ok td tm _, names_ok _, TE, rfl⟩
end
end Mine
end
section
open PySem PySem.W PyProof.Rows PySem.Calls PySem.SeqAt
namespace Mine
open Hp (hB)
noncomputable section
noncomputable def cf0 : Cfg := mkCf (fun z_ z_ z_ z_ z_ z_ => False) fun h z_ => h
structure Tri (wd : World) (n f : Nat) (as : List V) (σ : Store) (q : Res) : Prop where
 h : CallAt cf0 wd.params (hB wd.params) (model Hp.pw wd) n f as σ q
structure Vals where
 vt : Nat → List V
 vi : Nat → Int
 cl : ∀ i, nref 12 0 (.tup (vt i)) = true
 eq : ∀ i, eqV 12 (.tup (vt i)) (.tup (vt i)) = some true
noncomputable def Vals.at_ (u : Vals) : Bool → Nat → V
 | true, i => .tup (u.vt i)
 | false, i => .int (u.vi i)
mutual
noncomputable def sbV (u : Vals) : V → V
 | .tup xs => .tup (sbL u xs)
 | .lst xs => .lst (sbL u xs)
 | .dct kvs => .dct (sbD u kvs)
 | .fob c kvs => .fob c (sbD u kvs)
 | .tok t i => u.at_ t i
 | .none => .none
 | .bool b => .bool b
 | .int i => .int i
 | .str s => .str s
 | .txt n => .txt n
 | .bytes b => .bytes b
 | .fn f => .fn f
 | .cls c => .cls c
 | .blt b => .blt b
 | .typ t => .typ t
 | .lam => .lam
 | .ref j => .ref j
 | .obj c j => .obj c j
noncomputable def sbL (u : Vals) : List V → List V
 | [] => []
 | x :: r => sbV u x :: sbL u r
noncomputable def sbD (u : Vals) : List (Nat × V) → List (Nat × V)
 | [] => []
 | p :: r => (p.1, sbV u p.2) :: sbD u r
end
noncomputable def sbO (u : Vals) : SO → SO
 | .lst xs => .lst (sbL u xs)
 | .dct kvs => .dct (sbD u kvs)
noncomputable def sbS (u : Vals) (σ : Store) : Store := σ.map (sbO u)
noncomputable def sbR (u : Vals) : Res → Res
 | .ok v σ => .ok (sbV u v) (sbS u σ)
 | .exc c σ => .exc c (sbS u σ)
 | _ => .bad
noncomputable def tdV (u : Vals) : TokD := fun t i P b fz v => Den cf0 P b fz [] (u.at_ t i) v
noncomputable def cfV (u : Vals) : Cfg := mkCf (tdV u) fun h s => Den.mono s (fun z_ z_ h => h) h
theorem no_rho {rho : List Addr} (j : Nat) (a : Addr) (h : ([] : List Addr)[j]? = some a) : rho[j]? = some a := by simp at h
section
variable {u : Vals} {P : Params} {b h : Heap} {fz : Led} {rho : List Addr} {w : Wd} {σ : Store}
theorem sbD_keys : ∀ {kvs : List (Nat × V)} {k : Nat}, (∀ p ∈ kvs, p.1 ≠ k) ↔ ∀ p ∈ sbD u kvs, p.1 ≠ k
 | [], _ => ⟨fun z_ z_ h => (nomatch h), fun z_ z_ h => (nomatch h)⟩
 | p :: r, k => ⟨fun h q hq => (List.mem_cons.mp hq).elim (fun e => e ▸ h p (.head _)) (sbD_keys.mp (fun q hq => h q (.tail _ hq)) q), fun h q hq => (List.mem_cons.mp hq).elim (fun e => e ▸ h (p.1, sbV u p.2) (.head _)) (sbD_keys.mpr (fun q hq => h q (.tail _ hq)) q)⟩
theorem den_to : (∀ x v, Den (cfV u) P b fz rho x v → Den cf0 P b fz rho (sbV u x) v) ∧ (∀ x v, DenL (cfV u) P b fz rho x v → DenL cf0 P b fz rho (sbL u x) v) ∧ ∀ x v, DenD (cfV u) P b fz rho x v → DenD cf0 P b fz rho (sbD u x) v :=
 den_ind .none .bool .int .str (fun h => .txt h) .bytes (fun h z_ l => .tup h l) (fun h z_ l => .lst h l) (fun g h z_ l => .dct g h l) (fun c h k z_ l => .fob c h k l) (fun h => .fn h) (fun h => .cls h) .blt .typ
  (fun h c d e => .lam h c d e) (fun h => .ref h) (fun c h k => .obj c h k) (fun h z_ z_ => Den.mono (fun z_ h => h) no_rho h) .nil (fun z_ z_ h l => .cons h l) .nil (fun f z_ z_ h l => .cons (sbD_keys.mp f) h l)
theorem tok_bk {t : Bool} {i : Nat} {v : Value} (d : Den cf0 P b fz rho (u.at_ t i) v) : Den (cfV u) P b fz rho (.tok t i) v := by
 have d0 : Den cf0 P b fz [] (u.at_ t i) v := by
  cases t with
  | true => exact (den_nref (n := 0)).1 _ _ d 12 (u.cl i)
  | false => exact (den_nref (n := 0)).1 _ _ d 12 rfl
 refine .tok d0 (fun e => ?_) (den_nh d).1
 subst e
 obtain ⟨a, vs, n, e, h, _⟩ := den_tup d
 exact ⟨a, vs, n, e, h⟩
mutual
theorem den_bk : ∀ (x : V) (v : Value), Den cf0 P b fz rho (sbV u x) v → Den (cfV u) P b fz rho x v
 | .tup xs, _, d => by obtain ⟨a, vs, n, rfl, h, l⟩ := d.inv; exact .tup h (den_bkL xs _ l)
 | .lst xs, _, d => by obtain ⟨a, vs, n, rfl, h, l⟩ := d.inv; exact .lst h (den_bkL xs _ l)
 | .dct kvs, _, d => by obtain ⟨a, es, n, rfl, g, h, l⟩ := d.inv; exact .dct g h (den_bkD kvs _ l)
 | .fob c kvs, _, d => by obtain ⟨a, C, dd, es, n, rfl, i, h, k, l⟩ := d.inv; exact .fob i h k (den_bkD kvs _ l)
 | .tok t i, _, d => tok_bk d
 | .none, _, d => by obtain rfl := d.inv; exact .none
 | .bool b, _, d => by obtain rfl := d.inv; exact .bool _
 | .int i, _, d => by obtain ⟨t, rfl⟩ := d.inv; exact .int _ _
 | .str s, _, d => by obtain ⟨t, rfl⟩ := d.inv; exact .str _ _
 | .txt n, _, d => by obtain ⟨x, t, rfl, h⟩ := d.inv; exact .txt h
 | .bytes b, _, d => by obtain ⟨t, rfl, h⟩ := d.inv; exact .bytes _ _ h
 | .fn f, _, d => by obtain ⟨a, rfl, h⟩ := d.inv; exact .fn h
 | .cls c, _, d => by obtain ⟨a, rfl, h⟩ := d.inv; exact .cls h
 | .blt x, _, d => by obtain rfl := d.inv; exact .blt _
 | .typ t, _, d => by obtain rfl := d.inv; exact .typ _
 | .lam, _, d => by cases d with | lam h1 h2 h3 h4 => exact .lam h1 h2 h3 h4
 | .ref j, _, d => by obtain ⟨a, rfl, h⟩ := d.inv; exact .ref h
 | .obj c j, _, d => by obtain ⟨a, C, dd, rfl, i, h, k⟩ := d.inv; exact .obj i h k
theorem den_bkL : ∀ (x : List V) (v : List Value), DenL cf0 P b fz rho (sbL u x) v → DenL (cfV u) P b fz rho x v
 | [], _, d => by obtain rfl := DenL.nil_inv d; exact .nil
 | x :: r, _, d => by obtain ⟨v, vs, rfl, h, l⟩ := DenL.cons_inv d; exact .cons (den_bk x _ h) (den_bkL r _ l)
theorem den_bkD : ∀ (x : List (Nat × V)) (v : List DictEntry), DenD cf0 P b fz rho (sbD u x) v → DenD (cfV u) P b fz rho x v
 | [], _, d => by obtain rfl := DenD.nil_inv d; exact .nil
 | (k, x) :: r, _, d => by obtain ⟨t, v, vs, rfl, f, h, l⟩ := DenD.cons_inv d; exact .cons (sbD_keys.mpr f) (den_bk x _ h) (den_bkD r _ l)
end
theorem st_to (S : St (cfV u) b h w) : St cf0 b h w := ⟨S.stays, S.kn, S.new, S.nf, S.nd, S.rho, S.rnd, S.tab⟩
theorem st_bk (S : St cf0 b h w) : St (cfV u) b h w := ⟨S.stays, S.kn, S.new, S.nf, S.nd, S.rho, S.rnd, S.tab⟩
theorem live_to (L : Live (cfV u) P b w σ) : Live cf0 P b w (sbS u σ) := ⟨by rw [L.len]; exact (List.length_map _).symm, fun j so e => by
 unfold sbS at e
 rw [List.getElem?_map] at e
 obtain ⟨so', e1, rfl⟩ := mapS e
 obtain ⟨a, o, h1, h2, h3⟩ := L.at_ j so' e1
 refine ⟨a, o, h1, h2, ?_⟩
 cases so' with
 | lst xs => obtain ⟨vs, n, g1, g2⟩ := h3; exact ⟨vs, n, g1, den_to.2.1 _ _ g2⟩
 | dct xs => obtain ⟨vs, n, g1, g2⟩ := h3; exact ⟨vs, n, g1, den_to.2.2 _ _ g2⟩⟩
theorem live_bk (L : Live cf0 P b w (sbS u σ)) : Live (cfV u) P b w σ := ⟨by rw [L.len]; exact List.length_map _, fun j so e => by
 obtain ⟨a, o, h1, h2, h3⟩ := L.at_ j (sbO u so) (by unfold sbS; rw [List.getElem?_map, e]; rfl)
 refine ⟨a, o, h1, h2, ?_⟩
 cases so with
 | lst xs => obtain ⟨vs, n, g1, g2⟩ := h3; exact ⟨vs, n, g1, den_bkL _ _ g2⟩
 | dct xs => obtain ⟨vs, n, g1, g2⟩ := h3; exact ⟨vs, n, g1, den_bkD _ _ g2⟩⟩
variable {fL : Addr} {s : Shared} {q : Res} {Q E : VP}
theorem fin_to (f : Fin (cfV u) P b fL s w q Q E) : Fin cf0 P b fL s w (sbR u q) Q E := by
 cases q with
 | ok v σ => exact fun w' h' tk' S e L val d => f w' h' tk' (st_bk S) e (live_bk L) val (den_bk _ _ d)
 | exc c σ => exact fun w' h' tk' ex S e L X => f w' h' tk' ex (st_bk S) e (live_bk L) X
 | _ => exact f.elim
theorem fin_bk (f : Fin cf0 P b fL s w (sbR u q) Q E) : Fin (cfV u) P b fL s w q Q E := by
 cases q with
 | ok v σ => exact fun w' h' tk' S e L val d => f w' h' tk' (st_to S) e (live_to L) val (den_to.1 _ _ d)
 | exc c σ => exact fun w' h' tk' ex S e L X => f w' h' tk' ex (st_to S) e (live_to L) X
 | _ => exact f.elim
end
theorem te0 {P : Params} {b : Heap} : TokEq cf0 P b := fun z_ z_ z_ z_ z_ z_ z_ z_ z_ h => h.elim
theorem teV {u : Vals} {P : Params} {b : Heap} : TokEq (cfV u) P b := fun s w A t i x y S hu dx dy => by
 have up : ∀ {z}, Den cf0 P b w.fz [] (u.at_ t i) z → DenW cf0 P b w (u.at_ t i) z := fun d => Den.mono (fun z_ h => h) no_rho d
 cases t with
 | true => exact (eqV_at te0 (st_to S) 12).1 A _ _ x y true hu (up dx) (up dy) (u.eq i)
 | false => exact (eqV_at te0 (st_to S) 12).1 A _ _ x y true hu (up dx) (up dy) (show eqV 12 (.int (u.vi i)) (.int (u.vi i)) = some true from congrArg some (beq_self_eq_true (u.vi i)))
theorem tri_run (wd : World) (os : OsState) (u : Vals) {hk : Nat → List V → Store → Option (Nat × Res)} (H : ∀ f as σ k q, hk f as σ = some (k, q) → (fnOf G f fnTab).isSome = true ∧ Tri wd k f (sbL u as) (sbS u σ) (sbR u q)) (n f : Nat) (as : List V) (σ : Store) :
  Tri wd n f (sbL u as) (sbS u σ) (sbR u (run (withHook hk) n (.call (.fn f) as σ))) := by
 obtain ⟨mean, mg, mb, B⟩ := bs_at (tdV u) (fun h s => Den.mono s (fun z_ z_ h => h) h) wd os hk
 have PO := pr_at (tdV u) (fun h s => Den.mono s (fun z_ z_ h => h) h) wd hk (teV (u := u))
 have HO : HookOk (cfV u) wd.params (hB wd.params) (model Hp.pw wd) (withHook hk) := fun f vs σ k q e => by
  obtain ⟨h1, h2⟩ := H f vs σ k q e
  refine ⟨by rw [show fnOf (withHook hk) f (withHook hk).fns = fnOf G f fnTab from fnOf_hook hk _ _]; exact h1, ?_⟩
  intro A stk fL s w a vals cx so S L ha d Q E ff
  exact h2.h cx so (st_to S) (live_to L) ha (den_to.2.1 _ _ d) Q E (fin_to ff)
 refine ⟨?_⟩
 intro A stk fL s w a vals cx so S L ha d Q E ff
 exact ((all_run B PO HO n) n (Nat.le_refl n)).CF cx so (st_bk S) (live_bk L) ha (den_bkL _ _ d) Q E (fin_bk ff)
end
end Mine
end
section
open PySem PySem.W PyProof.Rows
namespace Mine
noncomputable section
noncomputable def G0 : Glob := withHook fun z_ z_ z_ => none
theorem hk_none {u : Vals} {wd : World} : ∀ f as σ k q, (fun z_ z_ z_ => none : Nat → List V → Store → Option (Nat × Res)) f as σ = some (k, q) → (fnOf G f fnTab).isSome = true ∧ Tri wd k f (sbL u as) (sbS u σ) (sbR u q) := fun z_ z_ z_ z_ z_ h => noS h
noncomputable abbrev src (a b : Int) : SO := .lst [.int a, .int b]
noncomputable def nxtB (b : Int) : Int := Int.fmod (b * 39373 + 7) 2147483647
noncomputable def takeF (t a b : Int) : Int × Int × Int := match decide (0 < a) with
 | true => (a.fmod t, a.fdiv t, b)
 | false => (Int.fmod (Int.fdiv (Int.fmod (nxtB b * nxtB b) 2147483629) 32) t, a, nxtB b)
variable {n : Nat} {en : Env} {σ : Store}
theorem r_bin {op : Bop} {a b : Ex} {x y : V} (h1 : run G0 n (.e en a σ) = .ok x σ) (h2 : run G0 n (.e en b σ) = .ok y σ) : run G0 (n + 1) (.e en (.bin op a b) σ) = bin op x y σ := by
 show (run G0 n (.e en a σ)).bind _ = _
 rw [h1]
 show (run G0 n (.e en b σ)).bind _ = _
 rw [h2]; rfl
theorem r_call1 {f a : Ex} {fv x : V} {q : Res} (h0 : run G0 (n + 1) (.e en f σ) = .ok fv σ) (h1 : run G0 n (.e en a σ) = .ok x σ) (h2 : run G0 (n + 1) (.call fv [x] σ) = q) (hz : n ≠ 0 := by decide) : run G0 (n + 2) (.e en (.call f [a]) σ) = q := by
 show (run G0 (n + 1) (.e en f σ)).bind _ = _
 rw [h0]
 show (run G0 (n + 1) (.es en [a] σ)).binds _ = _
 have e : run G0 (n + 1) (.es en [a] σ) = .oks [x] σ := by
  show (run G0 n (.e en a σ)).bind _ = _
  rw [h1]
  cases n with
  | zero => exact absurd rfl hz
  | succ n => rfl
 rw [e]; exact h2
theorem r_int {a : Ex} {i : Int} (h1 : run G0 (n + 1) (.e en a σ) = .ok (.int i) σ) : run G0 (n + 3) (.e en (.call (.v .glo 7630441) [a]) σ) = .ok (.int i) σ := r_call1 (fv := .blt .int) rfl h1 rfl (Nat.succ_ne_zero _)
theorem r_ife {c : Ex} {d : Bool} {x y ss : List Sm} (h : run G0 n (.t en c σ) = .ok (.bool d) σ) : run G0 (n + 1) (.b en (.ife c x y :: ss) σ) = goB G0 (run G0 n) ss (ifB d (run G0 n (.b en x σ)) (run G0 n (.b en y σ))) := by
 show Res.bind (run G0 n (.t en c σ)) (fun v σ => needO (boolV v) fun c => ifB c (goB G0 (run G0 n) ss (run G0 n (.b en x σ))) (goB G0 (run G0 n) ss (run G0 n (.b en y σ)))) = _
 rw [h]
 cases d <;> rfl
theorem ifB_t {x y : Res} : ifB true x y = x := rfl
theorem ifB_f {x y : Res} : ifB false x y = y := rfl
theorem goB_nil {ss : List Sm} : goB G0 (run G0 (n + 1)) ss (run G0 (n + 1) (.b en [] σ)) = run G0 (n + 1) (.b en ss σ) := rfl
theorem r_asgL {x : Nat} {e : Ex} {v : V} {ss : List Sm} (h : run G0 n (.e en e σ) = .ok v σ) : run G0 (n + 1) (.b en (.asg (.loc x) e :: ss) σ) = run G0 n (.b (setV en .loc x v) ss σ) := by
 show (run G0 n (.e en e σ)).bind _ = _
 rw [h]; rfl
theorem r_asgS {o i e : Ex} {j : Nat} {y v : V} {σ' : Store} {ss : List Sm} (h : run G0 n (.e en e σ) = .ok v σ) (h1 : run G0 n (.e en o σ) = .ok (.ref j) σ) (h2 : run G0 n (.e en i σ) = .ok y σ) (h3 : upS σ j y v = some σ') : run G0 (n + 1) (.b en (.asg (.sub o i) e :: ss) σ) = run G0 n (.b en ss σ') := by
 show (run G0 n (.e en e σ)).bind _ = _
 rw [h]
 show (run G0 n (.e en o σ)).bind _ = _
 rw [h1]
 show (run G0 n (.e en i σ)).bind _ = _
 rw [h2]
 show needO (upS σ j y v) _ = _
 rw [h3]; rfl
theorem r_ret {e : Ex} {v : V} {ss : List Sm} (h : run G0 n (.e en e σ) = .ok v σ) : run G0 (n + 1) (.b en (.ret e :: ss) σ) = .ret v σ := by
 show (run G0 n (.e en e σ)).bind _ = _
 rw [h]; rfl
theorem bin_mod {x y : Int} (h : 0 < y) : bin .mod (.int x) (.int y) σ = .ok (.int (x.fmod y)) σ := by
 show okIf (decide (0 < y)) _ _ = _
 rw [decide_eq_true h]; rfl
theorem bin_fdiv {x y : Int} (h : 0 < y) : bin .fdiv (.int x) (.int y) σ = .ok (.int (x.fdiv y)) σ := by
 show okIf (decide (0 < y)) _ _ = _
 rw [decide_eq_true h]; rfl
theorem bin_mul {x y : Int} (h : decide (y.natAbs < 9223372036854775808) = true) : bin .mul (.int x) (.int y) σ = .ok (.int (x * y)) σ := by
 show okIf (decide (y.natAbs < 9223372036854775808)) _ _ = _
 rw [h]; rfl
theorem mod_rng (x : Int) {m : Int} (h : 0 < m) : 0 ≤ Int.fmod x m ∧ Int.fmod x m < m := ⟨Int.fmod_nonneg_of_pos x h, Int.fmod_lt_of_pos x h⟩
theorem small {y : Int} (h : 0 ≤ y ∧ y < 2147483647) : decide (y.natAbs < 9223372036854775808) = true := decide_eq_true (by omega)
noncomputable def envT (t : Int) : Env := ⟨[(111477796466547, .ref 0), (7368564, .int t)], []⟩
noncomputable abbrev bodyT : List Sm := f_law_take.body
noncomputable abbrev s0 : Ex := .sub (.v .loc 111477796466547) (.ci 0)
noncomputable abbrev s1 : Ex := .sub (.v .loc 111477796466547) (.ci 1)
variable {a b t : Int} {γ : Store}
theorem t_s0 : run G0 (n + 2) (.e (envT t) s0 (src a b :: γ)) = .ok (.int a) (src a b :: γ) := rfl
theorem t_s1 : run G0 (n + 2) (.e (envT t) s1 (src a b :: γ)) = .ok (.int b) (src a b :: γ) := rfl
theorem t_cond : run G0 12 (.t (envT t) (.cmp .Gt s0 (.ci 0)) (src a b :: γ)) = .ok (.bool (decide (0 < a))) (src a b :: γ) := rfl
theorem take_run (ht : 0 < t) : run G0 13 (.b (envT t) bodyT (src a b :: γ)) = .ret (.int (takeF t a b).1) (src (takeF t a b).2.1 (takeF t a b).2.2 :: γ) := by
 have hc := t_cond (a := a) (b := b) (t := t) (γ := γ)
 unfold takeF
 cases hd : decide (0 < a) with
 | true =>
  rw [hd] at hc
  refine (r_ife hc).trans ?_
  rw [ifB_t]
  rw [r_asgL (n := 11) ((r_bin (n := 10) (r_int (n := 7) t_s0) rfl).trans (bin_mod ht))]
  rw [r_asgS (n := 10) (y := .int 0) (j := 0) ((r_bin (n := 9) (x := .int a) (y := .int t) rfl rfl).trans (bin_fdiv ht)) rfl rfl rfl]
  rfl
 | false =>
  rw [hd] at hc
  refine (r_ife hc).trans ?_
  rw [ifB_f]
  refine (goB_nil (n := 11)).trans ?_
  rw [r_asgS (n := 11) (y := .int 1) (j := 0) (v := .int (nxtB b)) rfl rfl rfl rfl]
  refine r_ret (n := 10) ?_
  have h := (r_bin (n := 2) (op := .mul) (t_s1 (t := t) (a := a) (b := nxtB b) (γ := γ)) t_s1).trans (bin_mul (small (mod_rng _ (by decide))))
  exact (r_bin (n := 9) (r_int (n := 6) ((r_bin (n := 6) ((r_bin (n := 5) (r_int (n := 2) h) rfl).trans (bin_mod (by decide))) rfl).trans (bin_fdiv (by decide)))) rfl).trans (bin_mod ht)
theorem take_call (ht : 0 < t) (hγ : γ.all (nrefO (γ.length + 1)) = true) : run G0 14 (.call (.fn nTake) [.ref 0, .int t] (src a b :: γ)) = .ok (.int (takeF t a b).1) (src (takeF t a b).2.1 (takeF t a b).2.2 :: γ) := by
 show (match run G0 13 (.b (envT t) bodyT (src a b :: γ)) with
   | .ret v σ' => endFn .drop (γ.length + 1) v σ'
   | .nxt _ σ' => endFn .drop (γ.length + 1) .none σ'
   | .exc c σ' => ifB ((σ'.take (γ.length + 1)).all (nrefO (γ.length + 1))) (.exc c (σ'.take (γ.length + 1))) .bad
   | _ => .bad) = _
 rw [take_run ht]
 show okIf (true && ((src _ _ :: γ).take (γ.length + 1)).all (nrefO (γ.length + 1))) _ ((src _ _ :: γ).take (γ.length + 1)) = _
 rw [List.take_of_length_le (by simp)]
 show okIf (true && γ.all (nrefO (γ.length + 1))) _ _ = _
 rw [hγ]; rfl
theorem take_rng (a b : Int) {t : Nat} (ht : 0 < t) : ∃ d, d < t ∧ (takeF t a b).1 = .ofNat d := by
 have h : 0 ≤ (takeF t a b).1 ∧ (takeF t a b).1 < (t : Nat) := by
  unfold takeF
  cases decide (0 < a) <;> exact mod_rng _ (Int.ofNat_lt.mpr ht)
 refine ⟨(takeF t a b).1.toNat, by omega, (Int.toNat_of_nonneg h.1).symm⟩
end
end Mine
end
section
open PySem PySem.W PyProof.Rows
namespace Mine
noncomputable section
variable {n : Nat} {en : Env} {σ : Store}
noncomputable def cellF (k : Nat) (xs : List Int) : Int := (xs[k]?).getD 0
noncomputable def bigF (c : Int) : Int := if c < -1 - c then -1 - c else c
noncomputable def mixF (k B : Int) : Int := Int.fmod ((Int.fmod B 2147483629 + 7919 * k * k + 31 * k + 17) * 48271) 2147483647
noncomputable def capF (B : Int) : Int := B * (if decide (1000000000000000000 ≤ B) then 1 else 0)
theorem r_ite {c x y : Ex} {d : Bool} (h : run G0 n (.t en c σ) = .ok (.bool d) σ) : run G0 (n + 1) (.e en (.ite c x y) σ) = ifB d (run G0 n (.e en x σ)) (run G0 n (.e en y σ)) := by
 show (run G0 n (.t en c σ)).bind _ = _
 rw [h]
 cases d <;> rfl
noncomputable def envP (xs : List V) (k : Nat) : Env := ⟨[(128026154263411, .lst xs), (107, .int k)], []⟩
noncomputable abbrev bodyP : List Sm := f_law_pool.body
noncomputable abbrev exLen : Ex := .call (.v .glo 7234924) [.v .loc 128026154263411]
variable {xs : List V} {k : Nat}
theorem p_len (h : Nat.ble xs.length 10000 = true) : run G0 36 (.e (envP xs k) exLen σ) = .ok (.int xs.length) σ := by
 refine r_call1 (n := 34) (fv := .blt .len) rfl (x := .lst xs) rfl ?_
 show okIf (Nat.ble xs.length 10000) _ _ = _
 rw [h]; rfl
theorem p_cond (h : Nat.ble xs.length 10000 = true) : run G0 38 (.t (envP xs k) (.cmp .Lt (.v .loc 107) exLen) σ) = .ok (.bool (decide ((k : Int) < (xs.length : Int)))) σ := by
 show (Res.bind (Res.bind (run G0 36 (.e (envP xs k) (.v .loc 107) σ)) fun x σ => Res.bind (run G0 36 (.e (envP xs k) exLen σ)) fun y σ => oko ((cmp .Lt x y σ).map .bool) σ) fun v σ => needO (boolV v) fun c => .ok (.bool c) σ) = _
 rw [show run G0 36 (.e (envP xs k) (.v .loc 107) σ) = .ok (.int k) σ from rfl]
 show (Res.bind (Res.bind (run G0 36 (.e (envP xs k) exLen σ)) _) _) = _
 rw [p_len h]; rfl
theorem p_cell (is : List Int) (hk : k < 1000000) (hl : is.length ≤ 63) : run G0 39 (.e (envP (is.map .int) k) (.ite (.cmp .Lt (.v .loc 107) exLen) (.sub (.v .loc 128026154263411) (.v .loc 107)) (.ci 0)) σ) = .ok (.int (cellF k is)) σ := by
 have hl' : Nat.ble (is.map V.int).length 10000 = true := Nat.ble_eq_true_of_le (by rw [List.length_map]; omega)
 rw [r_ite (p_cond hl')]
 unfold cellF
 cases hd : decide ((k : Int) < ((is.map V.int).length : Int)) with
 | true =>
  have h := of_decide_eq_true hd
  rw [List.length_map] at h
  have h : k < is.length := Int.ofNat_lt.mp h
  rw [ifB_t]
  show oko ((place (.ofNat k) (is.map V.int).length).bind fun j => (is.map V.int)[j]?) σ = _
  have hp : place (.ofNat k) (is.map V.int).length = some k := by
   unfold place
   dsimp only
   rw [show Nat.blt k (is.map V.int).length = true from Nat.ble_eq_true_of_le (by rw [List.length_map]; exact h), show Nat.blt k 1000000 = true from Nat.ble_eq_true_of_le hk]
   rfl
  rw [hp]
  show oko ((is.map V.int)[k]?) σ = _
  rw [List.getElem?_map, List.getElem?_eq_getElem h]; rfl
 | false =>
  have h := of_decide_eq_false hd
  rw [List.length_map] at h
  rw [ifB_f, List.getElem?_eq_none (by omega)]; rfl
noncomputable def env3 (xs : List V) (k : Nat) (c : Int) : Env := ⟨[(431199119725, .int (mixF k (bigF c))), (6777186, .int (bigF c)), (1819043171, .int c), (128026154263411, .lst xs), (107, .int k)], []⟩
noncomputable abbrev exCap : Ex := .bin .mul (.v .loc 6777186) (.call (.v .glo 7630441) [(.cmp .GtE (.v .loc 6777186) (.bin .pow (.ci 10) (.ci 18)))])
theorem p_mid0 {c : Int} : run G0 39 (.b (setV (envP xs 0) .loc 1819043171 (.int c)) (bodyP.drop 1) σ) = (run G0 36 (.e (env3 xs 0 c) (.lst true [exCap, .v .loc 431199119725]) σ)).bind fun v σ => .ret v σ := by kernel_rfl
theorem p_mid1 {c : Int} : run G0 39 (.b (setV (envP xs 1) .loc 1819043171 (.int c)) (bodyP.drop 1) σ) = (run G0 36 (.e (env3 xs 1 c) (.lst true [exCap, .v .loc 431199119725]) σ)).bind fun v σ => .ret v σ := by kernel_rfl
theorem p_cap {c : Int} : run G0 34 (.e (env3 xs k c) exCap σ) = .ok (.int (capF (bigF c))) σ := by
 refine (r_bin (n := 33) (x := .int (bigF c)) (y := .int (if decide (1000000000000000000 ≤ bigF c) then 1 else 0)) rfl rfl).trans (bin_mul ?_)
 cases decide (1000000000000000000 ≤ bigF c) <;> rfl
theorem p_end {c : Int} : run G0 36 (.e (env3 xs k c) (.lst true [exCap, .v .loc 431199119725]) σ) = .ok (.ref σ.length) (σ ++ [src (capF (bigF c)) (mixF k (bigF c))]) := by
 show Res.binds (Res.bind (run G0 34 (.e (env3 xs k c) exCap σ)) fun v σ => Res.binds (run G0 34 (.es (env3 xs k c) [.v .loc 431199119725] σ)) fun vs σ => .oks (v :: vs) σ) (fun vs σ => mkLst true vs σ) = _
 rw [p_cap]; rfl
theorem pool_call (is : List Int) (hk : k = 0 ∨ k = 1) (hl : is.length ≤ 63) : run G0 41 (.call (.fn nPool) [.lst (is.map .int), .int k] σ) = .ok (.ref σ.length) (σ ++ [src (capF (bigF (cellF k is))) (mixF k (bigF (cellF k is)))]) := by
 have hb : run G0 40 (.b (envP (is.map .int) k) bodyP σ) = .ret (.ref σ.length) (σ ++ [src (capF (bigF (cellF k is))) (mixF k (bigF (cellF k is)))]) := by
  refine (r_asgL (p_cell is (by omega) hl)).trans ?_
  rcases hk with rfl | rfl
  ·exact p_mid0.trans (by rw [p_end]; rfl)
  ·exact p_mid1.trans (by rw [p_end]; rfl)
 show (match run G0 40 (.b (envP (is.map .int) k) bodyP σ) with
   | .ret v σ' => endFn .keep σ.length v σ'
   | .nxt _ σ' => endFn .keep σ.length .none σ'
   | .exc c σ' => ifB ((σ'.take σ.length).all (nrefO σ.length)) (.exc c (σ'.take σ.length)) .bad
   | _ => .bad) = _
 rw [hb]; rfl
end
end Mine
end
section
open PySem PySem.W PyProof.Rows
namespace Mine
noncomputable section
theorem all2_eq {α : Type} {f : α → α → Bool} (ih : ∀ a b, f a b = true → a = b) : ∀ {l m : List α}, all2 f l m = true → l = m
 | [], m, h => by obtain rfl := List.isEmpty_iff.mp h; rfl
 | a :: l, m, h => by
  cases m with
  | nil => exact noB h
  | cons b m => rw [ih _ _ (and2 h).1, all2_eq ih (and2 h).2]
theorem kv_eq {f : V → V → Bool} (ih : ∀ a b, f a b = true → a = b) (p q : Nat × V) (h : (Nat.beq p.1 q.1 && f p.2 q.2) = true) : p = q := Prod.ext (nbe (and2 h).1) (ih _ _ (and2 h).2)
theorem veq_eq {f : Nat} {a b : V} (h : veq f a b = true) : a = b := by
 induction f generalizing a b with
 | zero => exact noB h
 | succ f ih =>
  have ih' := fun a b => @ih a b
  cases a with
  | none => cases b with
   | none => rfl
   | _ => exact noB h
  | bool x => cases b with
   | bool y => rw [eq_of_beq h]
   | _ => exact noB h
  | int x => cases b with
   | int y => rw [of_decide_eq_true h]
   | _ => exact noB h
  | str x => cases b with
   | str y => rw [nbe h]
   | _ => exact noB h
  | lam => cases b with
   | lam => rfl
   | _ => exact noB h
  | tup xs => cases b with
   | tup ys => rw [all2_eq ih' h]
   | _ => exact noB h
  | lst xs => cases b with
   | lst ys => rw [all2_eq ih' h]
   | _ => exact noB h
  | dct xs => cases b with
   | dct ys => rw [all2_eq (kv_eq ih') h]
   | _ => exact noB h
  | fob c xs => cases b with
   | fob d ys => rw [nbe (and2 h).1, all2_eq (kv_eq ih') (and2 h).2]
   | _ => exact noB h
  | _ => exact noB h
variable {u : Vals} {wd : World}
theorem nrefT_nref {n f : Nat} {v : V} (h : nrefT f v = true) : nref f n v = true := by
 induction f generalizing v with
 | zero => exact noB h
 | succ f ih =>
  have D : ∀ {l : List (Nat × V)}, (l.all fun p => nrefT f p.2) = true → (l.all fun p => nref f n p.2) = true := fun {l} h => List.all_eq_true.mpr fun x hx => ih (List.all_eq_true.mp h x hx)
  cases v with
  | tup xs => exact List.all_eq_true.mpr fun x hx => ih (List.all_eq_true.mp h x hx)
  | lst xs => exact List.all_eq_true.mpr fun x hx => ih (List.all_eq_true.mp h x hx)
  | dct xs => exact D h
  | fob c xs => exact D h
  | ref j => exact noB h
  | obj c j => exact noB h
  | _ => rfl
theorem nrefS_nrefO {n : Nat} {γ : Store} (h : γ.all nrefS = true) : γ.all (nrefO n) = true := List.all_eq_true.mpr fun o ho => by
 have g := List.all_eq_true.mp h o ho
 cases o with
 | lst xs => exact nrefT_nref (v := .lst xs) (f := 13) g
 | dct xs => exact nrefT_nref (v := .dct xs) (f := 13) g
theorem bindS {α β : Type} {o : Option α} {k : α → Option β} {y : β} (h : o.bind k = some y) : ∃ x, o = some x ∧ k x = some y := by
 cases o with
 | some x => exact ⟨x, rfl, h⟩
 | none => exact noS h
theorem tokF_eq {v : V} {i : Nat} (h : tokF v = some i) : v = .tok false i := by
 cases v with
 | tok t j => cases t with
  | false => obtain rfl := sI h; rfl
  | true => exact noS h
 | _ => exact noS h
theorem twoV_eq {xs : List V} {p : V × V} (h : two_ xs = some p) : xs = [p.1, p.2] := by
 cases xs with
 | nil => exact noS h
 | cons a xs => cases xs with
  | nil => exact noS h
  | cons b xs => cases xs with
   | nil => obtain rfl := sI h; rfl
   | cons _ _ => exact noS h
theorem posT_eq {s : SO} {p : Nat} (h : posT s = some p) : s = srcT p := by
 unfold posT at h
 obtain ⟨xs, h1, h⟩ := bindS h
 obtain ⟨q, h2, h⟩ := bindS h
 obtain ⟨a, h3, h⟩ := bindS h
 obtain ⟨b, h4, h⟩ := bindS h
 have hs : s = .lst [.tok false a, .tok false b] := by
  cases s with
  | lst ys => obtain rfl := sI h1; rw [twoV_eq h2, tokF_eq h3, tokF_eq h4]
  | dct _ => exact noS h1
 cases hb : Nat.beq a (2 * (a / 2)) && Nat.beq b (2 * (a / 2) + 1) with
 | false => rw [hb] at h; exact noS h
 | true =>
  rw [hb] at h
  obtain rfl := sI h
  obtain ⟨e1, e2⟩ := and2 hb
  have g1 := nbe e1
  rw [hs, nbe e2]
  exact congrArg (fun x => SO.lst [.tok false x, .tok false (2 * (a / 2) + 1)]) g1
end
end Mine
end
section
open PySem PySem.W PyProof.Rows
namespace Mine
noncomputable section
noncomputable abbrev Vals.st (u : Vals) (p : Nat) : SO := src (u.vi (2 * p)) (u.vi (2 * p + 1))
noncomputable def EvOk (wd : World) (u : Vals) (p : Nat) : Ev → Prop
 | .no => True
 | .tk t v => 0 < t ∧ sbV u v = .int (takeF t (u.vi (2 * p)) (u.vi (2 * p + 1))).1 ∧ u.st (p + 1) = src (takeF t (u.vi (2 * p)) (u.vi (2 * p + 1))).2.1 (takeF t (u.vi (2 * p)) (u.vi (2 * p + 1))).2.2
 | .vl T i => sbV u T = T ∧ Tri wd 34 nVal [.ref 0, T] [u.st p] (.ok (.tup (u.vt i)) [u.st (p + 1)])
 | .ar g r q => sbV u g = g ∧ Tri wd 45 nArg [.ref 0, g] [u.st p] (.ok (sbV u r) [u.st q])
noncomputable def EvsOk (wd : World) (u : Vals) : Nat → List Ev → Prop
 | _, [] => True
 | p, e :: r => EvOk wd u p e ∧ EvsOk wd u (p + 1) r
inductive ArgOk (wd : World) (x y : List V) (T : V) (b : Bool) : Prop
 | mk (h1 : ∀ c d, Tri wd 12 nAs [.tup x, T] [src c d] (.ok (match b with
   | true => .tup y
   | false => vType) [src c d]))
  (h2 : ∀ c d, Tri wd 48 nCo [ckV, .tup x, T, .int 5] [src c d] (match b with
   | true => .ok (.tup y) [src c d]
   | false => .exc 2147637572233656826196 [src c d]))
variable {wd : World} {u : Vals}
theorem EvsOk.at_ {evs : List Ev} {k p : Nat} {e : Ev} (E : EvsOk wd u k evs) (h : evs[p]? = some e) : EvOk wd u (k + p) e := by
 induction evs generalizing k p with
 | nil => simp at h
 | cons a r ih => cases p with
  | zero => obtain rfl := sI h; exact E.1
  | succ p => have := ih E.2 (p := p) h; rwa [show k + (p + 1) = k + 1 + p by omega]
theorem gd_inv {b : Bool} {q r : Nat × Res} (h : gdO b q = some r) : b = true ∧ q = r := by
 cases b with
 | true => obtain rfl := sI h; exact ⟨rfl, rfl⟩
 | false => exact noS h
theorem isTk_eq {n : Int} {v : V} (h : isTk n v = true) : v = .int n := by
 cases v with
 | int m => rw [of_decide_eq_true h]
 | _ => exact noB h
theorem isR0_eq {v : V} (h : isR0 v = true) : v = .ref 0 := by
 cases v with
 | ref j => rw [nbe h]
 | _ => exact noB h
theorem tokI_eq {v : V} {i : Nat} (h : tokI v = some i) : v = .tok true i := by
 cases v with
 | tok t j => cases t with
  | true => obtain rfl := sI h; rfl
  | false => exact noS h
 | _ => exact noS h
theorem nil_eq {γ : Store} (h : γ.isEmpty = true) : γ = [] := List.isEmpty_iff.mp h
noncomputable abbrev Hk1 (wd : World) (u : Vals) (f : Nat) (as : List V) (σ : Store) (k : Nat) (q : Res) : Prop := (fnOf G f fnTab).isSome = true ∧ Tri wd k f (sbL u as) (sbS u σ) (sbR u q)
theorem hk_take (os : OsState) {t p : Nat} {v : V} {γ : Store} (ht : 0 < t) (e1 : sbV u v = .int (takeF t (u.vi (2 * p)) (u.vi (2 * p + 1))).1) (e2 : u.st (p + 1) = src (takeF t (u.vi (2 * p)) (u.vi (2 * p + 1))).2.1 (takeF t (u.vi (2 * p)) (u.vi (2 * p + 1))).2.2) (hγ : γ.all nrefS = true) :
  Hk1 wd u nTake [.ref 0, .int t] (srcT p :: γ) 14 (.ok v (srcT (p + 1) :: γ)) := by
 refine ⟨rfl, ?_⟩
 have h := tri_run wd os u hk_none 14 nTake [.ref 0, .int t] (u.st p :: γ)
 rw [show run (withHook fun z_ z_ z_ => none) 14 (.call (.fn nTake) [.ref 0, .int t] (u.st p :: γ)) = _ from take_call (Int.ofNat_lt.mpr ht) (nrefS_nrefO hγ)] at h
 show Tri wd 14 nTake [.ref 0, .int t] (u.st p :: sbS u γ) (.ok (sbV u v) (u.st (p + 1) :: sbS u γ))
 rw [e1, e2]
 exact h
theorem lc_run {p : Nat} : run G0 33 (.call (.fn nLC) [] [srcT p]) = .ok ckV [srcT p] := by kernel_rfl
theorem hk_lc (os : OsState) {p : Nat} : Hk1 wd u nLC [] [srcT p] 33 (.ok ckV [srcT p]) := by
 refine ⟨rfl, ?_⟩
 have h := tri_run wd os u hk_none 33 nLC [] [srcT p]
 rw [show run (withHook fun z_ z_ z_ => none) 33 (.call (.fn nLC) [] [srcT p]) = _ from lc_run] at h
 exact h
theorem hk_ev (os : OsState) {e : Ev} {p f k : Nat} {x y : V} {γ : Store} {q : Res} (E : EvOk wd u p e) (h : hkEv e p f x y γ = some (k, q)) : Hk1 wd u f [x, y] (srcT p :: γ) k q := by
 cases e with
 | no => exact noS h
 | tk t v =>
  obtain ⟨h, e⟩ := gd_inv h
  obtain ⟨h, h4⟩ := and2 h
  obtain ⟨h, h3⟩ := and2 h
  obtain ⟨h1, h2⟩ := and2 h
  injection e with j1 j2; subst j1; subst j2; obtain rfl := nbe h1; obtain rfl := isR0_eq h2; obtain rfl := isTk_eq h3
  exact hk_take os E.1 E.2.1 E.2.2 h4
 | vl T i =>
  obtain ⟨h, e⟩ := gd_inv h
  obtain ⟨h, h4⟩ := and2 h
  obtain ⟨h, h3⟩ := and2 h
  obtain ⟨h1, h2⟩ := and2 h
  injection e with j1 j2; subst j1; subst j2; obtain rfl := nbe h1; obtain rfl := isR0_eq h2; obtain rfl := veq_eq h3; obtain rfl := nil_eq h4
  refine ⟨rfl, ?_⟩
  show Tri wd 34 nVal [.ref 0, sbV u y] [u.st p] (.ok (.tup (u.vt i)) [u.st (p + 1)])
  rw [E.1]; exact E.2
 | ar g r q =>
  obtain ⟨h, e⟩ := gd_inv h
  obtain ⟨h, h4⟩ := and2 h
  obtain ⟨h, h3⟩ := and2 h
  obtain ⟨h1, h2⟩ := and2 h
  injection e with j1 j2; subst j1; subst j2; obtain rfl := nbe h1; obtain rfl := isR0_eq h2; obtain rfl := veq_eq h3; obtain rfl := nil_eq h4
  refine ⟨rfl, ?_⟩
  show Tri wd 45 nArg [.ref 0, sbV u y] [u.st p] (.ok (sbV u r) [u.st q])
  rw [E.1]; exact E.2
noncomputable def ArgsOk (wd : World) (u : Vals) (l : List (V × Bool)) : Prop := ∀ i T b, l[i]? = some (T, b) → sbV u T = T ∧ ArgOk wd (u.vt i) (u.vt (i + 100)) T b
theorem hk_as {h : HP} {p k : Nat} {x y : V} {q : Res} (E : ArgsOk wd u h.args) (e : hkAs h x y [srcT p] = some (k, q)) : Hk1 wd u nAs [x, y] [srcT p] k q := by
 unfold hkAs at e
 obtain ⟨i, h1, e'⟩ := bindS e
 clear e
 obtain ⟨⟨T, b⟩, h2, e⟩ := bindS e'
 clear e'
 obtain ⟨h3, e'⟩ := gd_inv e
 clear e
 cases tokI_eq h1; cases veq_eq h3; cases e'
 obtain ⟨g, h5, _⟩ := E i _ b h2
 refine ⟨rfl, ?_⟩
 have h5 := h5 (u.vi (2 * p)) (u.vi (2 * p + 1))
 show Tri wd 12 nAs [.tup (u.vt i), sbV u T] [u.st p] _
 rw [g]
 cases b <;> exact h5
theorem hk_co {h : HP} {p k : Nat} {c x y z : V} {q : Res} (E : ArgsOk wd u h.args) (e : hkCo h c x y z [srcT p] = some (k, q)) : Hk1 wd u nCo [c, x, y, z] [srcT p] k q := by
 unfold hkCo at e
 obtain ⟨i, h1, e'⟩ := bindS e
 clear e
 obtain ⟨⟨T, b⟩, h2, e⟩ := bindS e'
 clear e'
 obtain ⟨h3, e'⟩ := gd_inv e
 clear e
 obtain ⟨h3, h6⟩ := and2 h3
 obtain ⟨h3, h7⟩ := and2 h3
 cases tokI_eq h1; cases veq_eq h3; cases e'; cases isTk_eq h7; cases veq_eq h6
 obtain ⟨g, _, h5⟩ := E i _ b h2
 refine ⟨rfl, ?_⟩
 have h5 := h5 (u.vi (2 * p)) (u.vi (2 * p + 1))
 show Tri wd 48 nCo [ckV, .tup (u.vt i), sbV u T, .int 5] [u.st p] _
 rw [g]
 cases b <;> exact h5
theorem hk_ok (os : OsState) {h : HP} (E : EvsOk wd u 0 h.evs) (A : ArgsOk wd u h.args) (f : Nat) (as : List V) (σ : Store) (k : Nat) (q : Res) (e : hkAll h f as σ = some (k, q)) : Hk1 wd u f as σ k q := by
 cases σ with
 | nil => exact noS e
 | cons s γ =>
  unfold hkAll at e
  dsimp only at e
  obtain ⟨p, hp, e'⟩ := bindS e
  clear e
  have e := e'
  clear e'
  obtain rfl := posT_eq hp
  cases as with
  | nil =>
   obtain ⟨h1, e'⟩ := gd_inv e
   obtain ⟨h1, h2⟩ := and2 h1
   injection e' with j1 j2; subst j1; subst j2; obtain rfl := nbe h1; obtain rfl := nil_eq h2
   exact hk_lc os
  | cons x as => cases as with
   | nil => exact noS e
   | cons y as => cases as with
    | nil =>
     dsimp only at e
     cases hf : Nat.beq f nAs with
     | true =>
      rw [hf] at e
      obtain rfl := nbe hf
      cases γ with
      | nil => exact hk_as A e
      | cons o γ => exact noS e
     | false =>
      rw [hf] at e
      obtain ⟨v, h1, e'⟩ := bindS e
      have := E.at_ h1
      rw [Nat.zero_add] at this
      exact hk_ev os this e'
    | cons z as => cases as with
     | nil => exact noS e
     | cons t as => cases as with
      | cons _ _ => exact noS e
      | nil => cases γ with
       | cons o γ => exact noS e
       | nil =>
        dsimp only at e
        cases hf : Nat.beq f nCo with
        | true =>
         rw [hf] at e
         obtain rfl := nbe hf
         exact hk_co A e
        | false => rw [hf] at e; exact noS e
theorem tri_go (os : OsState) {h : HP} (E : EvsOk wd u 0 h.evs) (A : ArgsOk wd u h.args) (n f : Nat) (as : List V) (σ : Store) {q : Res} (e : run (GH h) n (.call (.fn f) as σ) = q) : Tri wd n f (sbL u as) (sbS u σ) (sbR u q) :=
 e ▸ tri_run wd os u (fun f as σ k q h => hk_ok os E A f as σ k q h) n f as σ
end
end Mine
end
section
open PySem PySem.W PyProof.Rows
namespace Mine
noncomputable section
structure Arg (wd : World) where
 x : List V
 y : List V
 T : V
 b : Bool
 cx : nref 12 0 (.tup x) = true
 ex : eqV 12 (.tup x) (.tup x) = some true
 cy : nref 12 0 (.tup y) = true
 ey : eqV 12 (.tup y) (.tup y) = some true
 hT : ∀ u, sbV u T = T
 ok : ArgOk wd x y T b
noncomputable def vtX {wd : World} : Option (Arg wd) → List V
 | some A => A.x
 | none => []
noncomputable def vtY {wd : World} : Option (Arg wd) → List V
 | some A => A.y
 | none => []
noncomputable def vtF {wd : World} (as : List (Arg wd)) (i : Nat) : List V := match Nat.blt i 100 with
 | true => vtX as[i]?
 | false => vtY as[i - 100]?
theorem vtF_ok {wd : World} {as : List (Arg wd)} {i : Nat} {p : List V → Prop} (h0 : p []) (h : ∀ A : Arg wd, p A.x ∧ p A.y) : p (vtF as i) := by
 unfold vtF
 cases Nat.blt i 100 with
 | true => cases as[i]? with
  | none => exact h0
  | some A => exact (h A).1
 | false => cases as[i - 100]? with
  | none => exact h0
  | some A => exact (h A).2
noncomputable def mkU {wd : World} (as : List (Arg wd)) (is : List Int) : Vals := ⟨vtF as, fun i => (is[i]?).getD 0, fun z_ => vtF_ok (p := fun x => nref 12 0 (.tup x) = true) rfl fun A => ⟨A.cx, A.cy⟩, fun z_ => vtF_ok (p := fun x => eqV 12 (.tup x) (.tup x) = some true) rfl fun A => ⟨A.ex, A.ey⟩⟩
variable {wd : World}
noncomputable def kinds (as : List (Arg wd)) : List (V × Bool) := as.map fun A => (A.T, A.b)
theorem kinds_ok {as : List (Arg wd)} {is : List Int} (hl : as.length < 100) : ArgsOk wd (mkU as is) (kinds as) := fun i T b h => by
 unfold kinds at h
 rw [List.getElem?_map] at h
 obtain ⟨A, h1, h2⟩ := mapS h
 injection h2 with j1 j2; subst j1; subst j2
 have hi : i < 100 := by
  have := (List.getElem?_eq_some_iff.mp h1).1
  omega
 have e1 : (mkU as is).vt i = A.x := by
  show vtF as i = _
  unfold vtF
  rw [show Nat.blt i 100 = true from Nat.ble_eq_true_of_le hi]
  show vtX as[i]? = _
  rw [h1]; rfl
 have e2 : (mkU as is).vt (i + 100) = A.y := by
  show vtF as (i + 100) = _
  unfold vtF
  rw [show Nat.blt (i + 100) 100 = false from Bool.eq_false_iff.mpr fun h => by have := nle h; omega]
  show vtY as[i + 100 - 100]? = _
  rw [Nat.add_sub_cancel, h1]; rfl
 rw [e1, e2]
 exact ⟨A.hT _, A.ok⟩
theorem no_kinds {u : Vals} : ArgsOk wd u [] := fun i T b h => by simp at h
theorem arg_of (os : OsState) {x y : List V} {T : V} {b : Bool} (hT : ∀ u, sbV u T = T) (hx : ∀ u, sbL u x = x) (hy : ∀ u, sbL u y = y)
  (h1 : ∀ c d, run G0 12 (.call (.fn nAs) [.tup x, T] [src c d]) = .ok (match b with
   | true => .tup y
   | false => vType) [src c d])
  (h2 : ∀ c d, run G0 48 (.call (.fn nCo) [ckV, .tup x, T, .int 5] [src c d]) = (match b with
   | true => .ok (.tup y) [src c d]
   | false => .exc 2147637572233656826196 [src c d])) : ArgOk wd x y T b := by
 refine .mk (fun c d => ?_) fun c d => ?_
 ·have h := tri_run wd os (mkU (wd := wd) [] []) hk_none 12 nAs [.tup x, T] [src c d]
  rw [show run (withHook fun z_ z_ z_ => none) 12 _ = _ from h1 c d, show sbL (mkU (wd := wd) [] []) [.tup x, T] = [.tup (sbL _ x), sbV _ T] from rfl, hx, hT] at h
  cases b with
  | true =>
   have h : Tri wd _ _ [.tup x, T] [src c d] (.ok (.tup (sbL (mkU (wd := wd) [] []) y)) [src c d]) := h
   rwa [hy] at h
  | false => exact h
 ·have h := tri_run wd os (mkU (wd := wd) [] []) hk_none 48 nCo [ckV, .tup x, T, .int 5] [src c d]
  rw [show run (withHook fun z_ z_ z_ => none) 48 _ = _ from h2 c d, show sbL (mkU (wd := wd) [] []) [ckV, .tup x, T, .int 5] = [ckV, .tup (sbL _ x), sbV _ T, .int 5] from rfl, hx, hT] at h
  cases b with
  | true =>
   have h : Tri wd _ _ [ckV, .tup x, T, .int 5] [src c d] (.ok (.tup (sbL (mkU (wd := wd) [] []) y)) [src c d]) := h
   rwa [hy] at h
  | false => exact h
theorem beq_n (n : Int) : some (n == n && true) = some true := by rw [beq_self_eq_true]; rfl
noncomputable def eqT (x : List V) : Option Bool := eqV 12 (.tup x) (.tup x)
theorem eq_I {n : Int} : eqT (locI tInt (.int n)) = some true := Eq.trans (by kernel_rfl) (beq_n n)
theorem eq_S {n : Int} : eqT (locI tStr (.int n)) = some true := Eq.trans (by kernel_rfl) (beq_n n)
theorem eq_L {n : Int} : eqT (locI tSl (.int n)) = some true := Eq.trans (by kernel_rfl) (beq_n n)
theorem eq_C {n : Int} : eqT (cstI tInt (.int n)) = some true := Eq.trans (by kernel_rfl) (beq_n n)
theorem eq_U {n : Int} : eqT (cstI uInt (.int n)) = some true := Eq.trans (by kernel_rfl) (beq_n n)
noncomputable def aFitI (os : OsState) (n : Int) : Arg wd := ⟨locI tInt (.int n), locI tInt (.int n), tInt, true, rfl, eq_I, rfl, eq_I, fun z_ => rfl, arg_of os (fun z_ => rfl) (fun z_ => rfl) (fun z_ => rfl) (fun z_ z_ => by kernel_rfl) fun z_ z_ => by kernel_rfl⟩
noncomputable def aFitS (os : OsState) (n : Int) : Arg wd := ⟨locI tStr (.int n), locI tStr (.int n), tStr, true, rfl, eq_S, rfl, eq_S, fun z_ => rfl, arg_of os (fun z_ => rfl) (fun z_ => rfl) (fun z_ => rfl) (fun z_ z_ => by kernel_rfl) fun z_ z_ => by kernel_rfl⟩
noncomputable def aFitL (os : OsState) (n : Int) : Arg wd := ⟨locI tSl (.int n), locI tSl (.int n), tSl, true, rfl, eq_L, rfl, eq_L, fun z_ => rfl, arg_of os (fun z_ => rfl) (fun z_ => rfl) (fun z_ => rfl) (fun z_ z_ => by kernel_rfl) fun z_ z_ => by kernel_rfl⟩
theorem co_cst {c d : Int} : (List.range 99).map (fun (n : Nat) => run G0 48 (.call (.fn nCo) [ckV, .tup (cstI uInt (.int n)), tInt, .int 5] [src c d])) = (List.range 99).map fun (n : Nat) => .ok (.tup (cstI tInt (.int n))) [src c d] := by kernel_rfl
theorem at_rng {α : Type} {k n : Nat} {f g : Nat → α} (h : (List.range k).map f = (List.range k).map g) (hn : n < k) : f n = g n := List.map_inj_left.mp h n (List.mem_range.mpr hn)
noncomputable def aCstI (os : OsState) (n : Nat) (hn : n < 99) : Arg wd := ⟨cstI uInt (.int n), cstI tInt (.int n), tInt, true, rfl, eq_U, rfl, eq_C, fun z_ => rfl, arg_of os (fun z_ => rfl) (fun z_ => rfl) (fun z_ => rfl) (fun z_ z_ => by kernel_rfl) fun z_ z_ => at_rng co_cst hn⟩
noncomputable def aCstS (os : OsState) : Arg wd := ⟨cstI uStr (.bytes [120]), cstI tStr (.bytes [120]), tStr, true, rfl, rfl, rfl, rfl, fun z_ => rfl, arg_of os (fun z_ => rfl) (fun z_ => rfl) (fun z_ => rfl) (fun z_ z_ => by kernel_rfl) fun z_ z_ => by kernel_rfl⟩
noncomputable def aMisI (os : OsState) : Arg wd := ⟨locI tBool (.int 9), locI tBool (.int 9), tInt, false, rfl, rfl, rfl, rfl, fun z_ => rfl, arg_of os (fun z_ => rfl) (fun z_ => rfl) (fun z_ => rfl) (fun z_ z_ => by kernel_rfl) fun z_ z_ => by kernel_rfl⟩
noncomputable def tMis (d : Nat) : V := match d with
 | 0 => tInt
 | _ => tBool
noncomputable def aMisS0 (os : OsState) : Arg wd := ⟨locI tInt (.int 9), locI tInt (.int 9), tStr, false, rfl, rfl, rfl, rfl, fun z_ => rfl, arg_of os (fun z_ => rfl) (fun z_ => rfl) (fun z_ => rfl) (fun z_ z_ => by kernel_rfl) fun z_ z_ => by kernel_rfl⟩
noncomputable def aMisS1 (os : OsState) : Arg wd := ⟨locI tBool (.int 9), locI tBool (.int 9), tStr, false, rfl, rfl, rfl, rfl, fun z_ => rfl, arg_of os (fun z_ => rfl) (fun z_ => rfl) (fun z_ => rfl) (fun z_ z_ => by kernel_rfl) fun z_ z_ => by kernel_rfl⟩
noncomputable def aMisL0 (os : OsState) : Arg wd := ⟨locI tInt (.int 9), locI tInt (.int 9), tSl, false, rfl, rfl, rfl, rfl, fun z_ => rfl, arg_of os (fun z_ => rfl) (fun z_ => rfl) (fun z_ => rfl) (fun z_ z_ => by kernel_rfl) fun z_ z_ => by kernel_rfl⟩
noncomputable def aMisL1 (os : OsState) : Arg wd := ⟨locI tBool (.int 9), locI tBool (.int 9), tSl, false, rfl, rfl, rfl, rfl, fun z_ => rfl, arg_of os (fun z_ => rfl) (fun z_ => rfl) (fun z_ => rfl) (fun z_ z_ => by kernel_rfl) fun z_ z_ => by kernel_rfl⟩
inductive ValOk (wd : World) (T : V) (a b : Int) : Prop
 | mk (A : Arg wd) (a' b' : Int) (hT : A.T = T) (h : Tri wd 34 nVal [.ref 0, T] [src a b] (.ok (.tup A.x) [src a' b']))
noncomputable def runV (T : V) (evs : List Ev) : Res := run (GH { evs := evs }) 34 (.call (.fn nVal) [.ref 0, T] [srcT 0])
theorem v_int : (List.range 2).map (fun (d : Nat) => (List.range 4).map fun (k : Nat) => runV tInt [.tk 5 (.tok false 10), .tk 99 (.tok false 11), .tk 2 (.int d), .tk 4 (.int k)]) = (List.range 2).map fun (d : Nat) => [locI tInt (.tok false 10), locI tInt (.int 8), cstI uInt (.tok false 11), locI (tMis d) (.int 9)].map fun x => .ok (.tup x) [srcT 4] := by kernel_rfl
theorem v_str : (List.range 2).map (fun (d : Nat) => (List.range 4).map fun (k : Nat) => runV tStr [.tk 5 (.tok false 10), .tk 2 (.int d), .tk 4 (.int k)]) = (List.range 2).map fun (d : Nat) => [locI tStr (.tok false 10), locI tStr (.int 8), cstI uStr (.bytes [120]), locI (tMis d) (.int 9)].map fun x => .ok (.tup x) [srcT 3] := by kernel_rfl
theorem v_sl : (List.range 2).map (fun (d : Nat) => (List.range 3).map fun (k : Nat) => runV tSl [.tk 5 (.tok false 10), .tk 2 (.int d), .tk 3 (.int k)]) = (List.range 2).map fun (d : Nat) => [locI tSl (.tok false 10), locI tSl (.int 8), locI (tMis d) (.int 9)].map fun x => .ok (.tup x) [srcT 3] := by kernel_rfl
theorem at_2 {α : Type} {k d n : Nat} {f : Nat → Nat → α} {L : Nat → List α} {y : α} (h : (List.range 2).map (fun d => (List.range k).map (f d)) = (List.range 2).map L) (hd : d < 2) (hn : n < k) (hy : (L d)[n]? = some y) : f d n = y := by
 have e := at_rng (f := fun d => (List.range k).map (f d)) h hd
 have e : (List.range k).map (f d) = L d := e
 rw [← e, List.getElem?_map, List.getElem?_range hn] at hy
 exact Option.some.inj hy
theorem val_go (os : OsState) (u : Vals) {T : V} {evs : List Ev} {x : List V} {q : Nat} (E : EvsOk wd u 0 evs) (hT : sbV u T = T) (e : runV T evs = .ok (.tup x) [srcT q]) : Tri wd 34 nVal [.ref 0, T] [u.st 0] (.ok (.tup (sbL u x)) [u.st q]) := by
 have h := tri_go (h := { evs := evs }) os E no_kinds 34 nVal [.ref 0, T] [srcT 0] e
 have h : Tri wd 34 nVal [.ref 0, sbV u T] [u.st 0] (.ok (.tup (sbL u x)) [u.st q]) := h
 rwa [hT] at h
theorem lt2 {n : Nat} (h : n < 2) : n = 0 ∨ n = 1 := by omega
theorem lt3 {n : Nat} (h : n < 3) : n = 0 ∨ n = 1 ∨ n = 2 := by omega
theorem lt4 {n : Nat} (h : n < 4) : n = 0 ∨ n = 1 ∨ n = 2 ∨ n = 3 := by omega
theorem val_mk (A : Arg wd) {T : V} {r : Res} {x : List V} {a b a' b' : Int} {q : Nat} {f : List V → List V} (hT : A.T = T) (e : r = .ok (.tup x) [srcT q]) (go : ∀ x, r = .ok (.tup x) [srcT q] → Tri wd 34 nVal [.ref 0, T] [src a b] (.ok (.tup (f x)) [src a' b'])) (hx : f x = A.x := by rfl) : ValOk wd T a b := .mk A a' b' hT (hx ▸ go x e)
theorem val_int (os : OsState) (a b : Int) : ValOk wd tInt a b := by
 obtain ⟨n1, hn1, e1⟩ := take_rng (takeF 5 a b).2.1 (takeF 5 a b).2.2 (t := 99) (by decide)
 generalize hs1 : takeF 5 a b = s1 at *
 obtain ⟨n2, hn2, e2⟩ := take_rng (takeF 99 s1.2.1 s1.2.2).2.1 (takeF 99 s1.2.1 s1.2.2).2.2 (t := 2) (by decide)
 generalize hs2 : takeF 99 s1.2.1 s1.2.2 = s2 at *
 obtain ⟨n3, hn3, e3⟩ := take_rng (takeF 2 s2.2.1 s2.2.2).2.1 (takeF 2 s2.2.1 s2.2.2).2.2 (t := 4) (by decide)
 generalize hs3 : takeF 2 s2.2.1 s2.2.2 = s3 at *
 generalize hs4 : takeF 4 s3.2.1 s3.2.2 = s4 at *
 let u : Vals := mkU (wd := wd) [] [a, b, s1.2.1, s1.2.2, s2.2.1, s2.2.2, s3.2.1, s3.2.2, s4.2.1, s4.2.2, s1.1, n1]
 have E : EvsOk wd u 0 [.tk 5 (.tok false 10), .tk 99 (.tok false 11), .tk 2 (.int n2), .tk 4 (.int n3)] :=
  ⟨⟨by decide, congrArg (fun s : Int × Int × Int => V.int s.1) hs1.symm, congrArg (fun s : Int × Int × Int => src s.2.1 s.2.2) hs1.symm⟩,
   ⟨by decide, (congrArg V.int e1).symm.trans (congrArg (fun s : Int × Int × Int => V.int s.1) hs2.symm), congrArg (fun s : Int × Int × Int => src s.2.1 s.2.2) hs2.symm⟩,
   ⟨by decide, (congrArg V.int e2).symm.trans (congrArg (fun s : Int × Int × Int => V.int s.1) hs3.symm), congrArg (fun s : Int × Int × Int => src s.2.1 s.2.2) hs3.symm⟩,
   ⟨by decide, (congrArg V.int e3).symm.trans (congrArg (fun s : Int × Int × Int => V.int s.1) hs4.symm), congrArg (fun s : Int × Int × Int => src s.2.1 s.2.2) hs4.symm⟩, trivial⟩
 have go := fun (x : List V) e => val_go (T := tInt) (x := x) (q := 4) os u E rfl e
 have h3 := lt4 hn3
 rcases h3 with rfl | rfl | rfl | rfl
 ·exact val_mk (aFitI os s1.1) rfl (at_2 v_int hn2 (by decide) rfl) go
 ·exact val_mk (aFitI os 8) rfl (at_2 v_int hn2 (by decide) rfl) go
 ·exact val_mk (aCstI os n1 hn1) rfl (at_2 v_int hn2 (by decide) rfl) go
 ·rcases lt2 hn2 with rfl | rfl
  ·exact val_mk (aFitI os 9) rfl (at_2 v_int hn2 (by decide) rfl) go
  ·exact val_mk (aMisI os) rfl (at_2 v_int hn2 (by decide) rfl) go
theorem val_str (os : OsState) (a b : Int) : ValOk wd tStr a b := by
 generalize hs1 : takeF 5 a b = s1 at *
 obtain ⟨n2, hn2, e2⟩ := take_rng s1.2.1 s1.2.2 (t := 2) (by decide)
 generalize hs2 : takeF 2 s1.2.1 s1.2.2 = s2 at *
 obtain ⟨n3, hn3, e3⟩ := take_rng s2.2.1 s2.2.2 (t := 4) (by decide)
 generalize hs3 : takeF 4 s2.2.1 s2.2.2 = s3 at *
 let u : Vals := mkU (wd := wd) [] [a, b, s1.2.1, s1.2.2, s2.2.1, s2.2.2, s3.2.1, s3.2.2, 0, 0, s1.1]
 have E : EvsOk wd u 0 [.tk 5 (.tok false 10), .tk 2 (.int n2), .tk 4 (.int n3)] :=
  ⟨⟨by decide, congrArg (fun s : Int × Int × Int => V.int s.1) hs1.symm, congrArg (fun s : Int × Int × Int => src s.2.1 s.2.2) hs1.symm⟩,
   ⟨by decide, (congrArg V.int e2).symm.trans (congrArg (fun s : Int × Int × Int => V.int s.1) hs2.symm), congrArg (fun s : Int × Int × Int => src s.2.1 s.2.2) hs2.symm⟩,
   ⟨by decide, (congrArg V.int e3).symm.trans (congrArg (fun s : Int × Int × Int => V.int s.1) hs3.symm), congrArg (fun s : Int × Int × Int => src s.2.1 s.2.2) hs3.symm⟩, trivial⟩
 have go := fun (x : List V) e => val_go (T := tStr) (x := x) (q := 3) os u E rfl e
 have h3 := lt4 hn3
 rcases h3 with rfl | rfl | rfl | rfl
 ·exact val_mk (aFitS os s1.1) rfl (at_2 v_str hn2 (by decide) rfl) go
 ·exact val_mk (aFitS os 8) rfl (at_2 v_str hn2 (by decide) rfl) go
 ·exact val_mk (aCstS os) rfl (at_2 v_str hn2 (by decide) rfl) go
 ·rcases lt2 hn2 with rfl | rfl
  ·exact val_mk (aMisS0 os) rfl (at_2 v_str hn2 (by decide) rfl) go
  ·exact val_mk (aMisS1 os) rfl (at_2 v_str hn2 (by decide) rfl) go
theorem val_sl (os : OsState) (a b : Int) : ValOk wd tSl a b := by
 generalize hs1 : takeF 5 a b = s1 at *
 obtain ⟨n2, hn2, e2⟩ := take_rng s1.2.1 s1.2.2 (t := 2) (by decide)
 generalize hs2 : takeF 2 s1.2.1 s1.2.2 = s2 at *
 obtain ⟨n3, hn3, e3⟩ := take_rng s2.2.1 s2.2.2 (t := 3) (by decide)
 generalize hs3 : takeF 3 s2.2.1 s2.2.2 = s3 at *
 let u : Vals := mkU (wd := wd) [] [a, b, s1.2.1, s1.2.2, s2.2.1, s2.2.2, s3.2.1, s3.2.2, 0, 0, s1.1]
 have E : EvsOk wd u 0 [.tk 5 (.tok false 10), .tk 2 (.int n2), .tk 3 (.int n3)] :=
  ⟨⟨by decide, congrArg (fun s : Int × Int × Int => V.int s.1) hs1.symm, congrArg (fun s : Int × Int × Int => src s.2.1 s.2.2) hs1.symm⟩,
   ⟨by decide, (congrArg V.int e2).symm.trans (congrArg (fun s : Int × Int × Int => V.int s.1) hs2.symm), congrArg (fun s : Int × Int × Int => src s.2.1 s.2.2) hs2.symm⟩,
   ⟨by decide, (congrArg V.int e3).symm.trans (congrArg (fun s : Int × Int × Int => V.int s.1) hs3.symm), congrArg (fun s : Int × Int × Int => src s.2.1 s.2.2) hs3.symm⟩, trivial⟩
 have go := fun (x : List V) e => val_go (T := tSl) (x := x) (q := 3) os u E rfl e
 have h3 := lt3 hn3
 rcases h3 with rfl | rfl | rfl
 ·exact val_mk (aFitL os s1.1) rfl (at_2 v_sl hn2 (by decide) rfl) go
 ·exact val_mk (aFitL os 8) rfl (at_2 v_sl hn2 (by decide) rfl) go
 ·rcases lt2 hn2 with rfl | rfl
  ·exact val_mk (aMisL0 os) rfl (at_2 v_sl hn2 (by decide) rfl) go
  ·exact val_mk (aMisL1 os) rfl (at_2 v_sl hn2 (by decide) rfl) go
end
end Mine
end
section
open PySem
namespace Mine
noncomputable def itoks (k : Nat) : Nat → List V
 | 0 => []
 | n + 1 => .tok false k :: itoks (k + 1) n
noncomputable def vScr (L : Nat) : V := .lst (itoks 30 L)
noncomputable def isRef (n : Nat) : V → Bool
 | .ref j => Nat.beq j n
 | _ => false
noncomputable def posL (x : V) (σ : Store) : Option (Nat × List SO) := match σ with
 | [s] => match isRef 0 x with
  | true => (posT s).map fun p => (p, [])
  | false => none
 | [g, s] => match isRef 1 x with
  | true => (posT g).bind fun q => (posT s).map fun p => (p, [srcT q])
  | false => none
 | _ => none
noncomputable def sameT (a b : V) : Bool := match tokF a with
 | some i => (match tokF b with
  | some j => Nat.beq i j
  | none => false)
 | none => false
noncomputable def veqT (x : V) (L : Nat) : Bool := match x with
 | .lst xs => all2 sameT xs (itoks 30 L)
 | _ => false
noncomputable def hkL (L : Nat) (f : Nat) (as : List V) (σ : Store) : Option (Nat × Res) := match as with
 | [x] => (posL x σ).bind fun p => match Nat.beq f nFR with
  | true => gdO (p.1 == 0 || p.1 == 2 || p.1 == 5 || p.1 == 7) (103, .ok (.bool true) (p.2 ++ [srcT (p.1 + 1)]))
  | false => gdO (Nat.beq f nMR && (p.1 == 1 || p.1 == 3 || p.1 == 6 || p.1 == 8)) (100, .ok (.bool true) (p.2 ++ [srcT (p.1 + 1)]))
 | [x, y] => match Nat.beq f nPool && veqT x L with
  | true => (match σ with
   | [] => gdO (isTk 0 y) (41, .ok (.ref 0) [srcT 0])
   | [s] => (posT s).bind fun q => gdO (isTk 1 y) (41, .ok (.ref 1) [srcT q, srcT 5])
   | _ => none)
  | false => none
 | _ => none
noncomputable def GL (L : Nat) : Glob := { G with hook := hkL L }
noncomputable def runL (L n : Nat) : Res := run (GL L) n (.call (.fn nLaw) [vScr L] [])
end Mine
end
section
open PySem PySem.W PyProof.Rows
namespace Mine
theorem rA_f : (bls 2).map (fun bs => (List.range 8).map fun d => runA (hpP [tInt, tStr] bs d) gF) = (bls 2).map fun bs => (List.range 8).map fun d => .ok (outP [tInt, tStr] bs d).2 [srcT 5] := by kernel_rfl
theorem rA_v : (bls 1).map (fun bs => (List.range 8).map fun d => runA (hpP [tInt] bs d) gV) = (bls 1).map fun bs => (List.range 8).map fun d => .ok (outP [tInt] bs d).2 [srcT 4] := by kernel_rfl
theorem rA_s : (bls 2).map (fun bs => (List.range 8).map fun d => runA (hpS bs d) gG) = (bls 2).map fun bs => (List.range 8).map fun d => .ok (outS bs d).2 [srcT 6] := by kernel_rfl
theorem rA_m01 : (bls 1).map (fun bs => (List.range 8).map fun d => runA (hpM 1 0 bs d) gG) = (bls 1).map fun bs => (List.range 8).map fun d => .ok (outM 0 bs d).2 [srcT 6] := by kernel_rfl
theorem rA_m02 : (bls 1).map (fun bs => (List.range 8).map fun d => runA (hpM 2 0 bs d) gG) = (bls 1).map fun bs => (List.range 8).map fun d => .ok (outM 0 bs d).2 [srcT 6] := by kernel_rfl
theorem rA_m11 : (bls 2).map (fun bs => (List.range 8).map fun d => runA (hpM 1 1 bs d) gG) = (bls 2).map fun bs => (List.range 8).map fun d => .ok (outM 1 bs d).2 [srcT 7] := by kernel_rfl
theorem rA_m12 : (bls 2).map (fun bs => (List.range 8).map fun d => runA (hpM 2 1 bs d) gG) = (bls 2).map fun bs => (List.range 8).map fun d => .ok (outM 1 bs d).2 [srcT 7] := by kernel_rfl
theorem rA_m21 : (bls 3).map (fun bs => (List.range 8).map fun d => runA (hpM 1 2 bs d) gG) = (bls 3).map fun bs => (List.range 8).map fun d => .ok (outM 2 bs d).2 [srcT 8] := by kernel_rfl
theorem rA_m22 : (bls 3).map (fun bs => (List.range 8).map fun d => runA (hpM 2 2 bs d) gG) = (bls 3).map fun bs => (List.range 8).map fun d => .ok (outM 2 bs d).2 [srcT 8] := by kernel_rfl
theorem rA_m31 : (bls 4).map (fun bs => (List.range 8).map fun d => runA (hpM 1 3 bs d) gG) = (bls 4).map fun bs => (List.range 8).map fun d => .ok (outM 3 bs d).2 [srcT 9] := by kernel_rfl
theorem rA_m32 : (bls 4).map (fun bs => (List.range 8).map fun d => runA (hpM 2 3 bs d) gG) = (bls 4).map fun bs => (List.range 8).map fun d => .ok (outM 3 bs d).2 [srcT 9] := by kernel_rfl
theorem rF_f : (outsP [tInt, tStr]).map (fun o => runF o gF 0) = (outsP [tInt, tStr]).map fun z_ => .ok (.bool true) [srcT 10] := by kernel_rfl
theorem rF_v : (outsP [tInt]).map (fun o => runF o gV 2) = (outsP [tInt]).map fun z_ => .ok (.bool true) [srcT 10] := by kernel_rfl
theorem rF_g : [1, 3].map (fun i => outsG.map fun o => runF o gG i) = [1, 3].map fun z_ => outsG.map fun z_ => .ok (.bool true) [srcT 10] := by kernel_rfl
theorem rM_f : (List.range 4).map (fun w => (outsP [tInt, tStr]).map fun o => runM o gF 0 w) = (List.range 4).map fun z_ => (outsP [tInt, tStr]).map fun z_ => .ok (.bool true) [srcT 10] := by kernel_rfl
theorem rM_g0 : outsG.map (fun o => runM o gG 1 0) = outsG.map fun z_ => .ok (.bool true) [srcT 10] := by kernel_rfl
theorem rM_g1 : outsG.map (fun o => runM o gG 1 1) = outsG.map fun z_ => .ok (.bool true) [srcT 10] := by kernel_rfl
theorem rM_g2 : outsG.map (fun o => runM o gG 1 2) = outsG.map fun z_ => .ok (.bool true) [srcT 10] := by kernel_rfl
theorem rM_g3 : outsG.map (fun o => runM o gG 1 3) = outsG.map fun z_ => .ok (.bool true) [srcT 10] := by kernel_rfl
noncomputable section
noncomputable abbrev Out : Type := List (V × Bool) × V
inductive ArOk (wd : World) (g : V) (l : List Out) (a0 b0 a1 b1 a b : Int) : Prop
 | mk (u : Vals) (o : Out) (ho : o ∈ l) (e0 : u.vi 0 = a0) (e1 : u.vi 1 = b0) (e2 : u.vi 2 = a1) (e3 : u.vi 3 = b1) (e4 : u.vi 4 = a) (e5 : u.vi 5 = b) (A : ArgsOk wd u o.1) (hg : sbV u g = g) (h : Tri wd 45 nArg [.ref 0, g] [u.st 2] (.ok (sbV u o.2) [u.st 10]))
variable {wd : World}
theorem bls_mem : ∀ (bs : List Bool), bs ∈ bls bs.length
 | [] => .head _
 | true :: bs => List.mem_append.mpr (.inl (List.mem_map.mpr ⟨bs, bls_mem bs, rfl⟩))
 | false :: bs => List.mem_append.mpr (.inr (List.mem_map.mpr ⟨bs, bls_mem bs, rfl⟩))
theorem at_bs {α : Type} {k n m : Nat} {f g : List Bool → Nat → α} (h : (bls k).map (fun bs => (List.range m).map (f bs)) = (bls k).map fun bs => (List.range m).map (g bs)) (bs : List Bool) (hb : bs.length = k) (hn : n < m) : f bs n = g bs n := by
 have e := List.map_inj_left.mp h bs (hb ▸ bls_mem bs)
 exact List.map_inj_left.mp e n (List.mem_range.mpr hn)
structure OutOk (o : Out) (l : List Out) (ks : List (V × Bool)) : Prop where
 mem : o ∈ l
 ks : o.1 = [] ∨ o.1 = ks
theorem outP_ok {Ts : List V} {bs : List Bool} {d : Nat} (h : bs.length = Ts.length) : OutOk (outP Ts bs d) (outsP Ts) (fitsOf Ts bs) := by
 have M : ∀ {d}, d < 3 → outP Ts [] d ∈ outsP Ts := fun hd => List.mem_append.mpr (.inl (List.mem_map.mpr ⟨_, List.mem_range.mpr hd, rfl⟩))
 cases d with
 | zero => exact ⟨M (d := 0) (by decide), .inl rfl⟩
 | succ d => cases d with
  | zero => exact ⟨M (d := 1) (by decide), .inl rfl⟩
  | succ d => cases d with
   | zero => exact ⟨M (d := 2) (by decide), .inl rfl⟩
   | succ d => exact ⟨List.mem_append.mpr (.inr (List.mem_map.mpr ⟨bs, h ▸ bls_mem bs, rfl⟩)), .inr rfl⟩
theorem outS_ok {bs : List Bool} {d : Nat} (h : bs.length = 2) : OutOk (outS bs d) outsG (fitsOf [tStr, tSl] bs) := by
 cases hd : Nat.beq d 1 with
 | true =>
  rw [nbe hd]
  exact ⟨List.mem_append.mpr (.inl (.head _)), .inl rfl⟩
 | false =>
  have e : outS bs d = outS bs 0 := by unfold outS; rw [hd]
  rw [e]
  exact ⟨List.mem_append.mpr (.inl (.tail _ (List.mem_map.mpr ⟨bs, h ▸ bls_mem bs, rfl⟩))), .inr rfl⟩
theorem outM_ok {m : Nat} {bs : List Bool} {d : Nat} (hm : m < 4) (h : bs.length = m + 1) : OutOk (outM m bs d) outsG (fitsOf (tStr :: List.replicate m tInt) bs) := by
 cases hd : Nat.beq d 1 with
 | true =>
  have e : outM m bs d = outS [] 1 := by unfold outM; rw [hd]; rfl
  rw [e]
  exact ⟨List.mem_append.mpr (.inl (.head _)), .inl rfl⟩
 | false =>
  have e : outM m bs d = outM m bs 0 := by unfold outM; rw [hd]
  rw [e]
  exact ⟨List.mem_append.mpr (.inr (List.mem_flatMap.mpr ⟨m, List.mem_range.mpr hm, List.mem_map.mpr ⟨bs, h ▸ bls_mem bs, rfl⟩⟩)), .inr rfl⟩
theorem ar_fin (os : OsState) {u : Vals} {h : HP} {g : V} {q : Nat} {o : Out} {l : List Out} (hg : sbV u g = g) (E : EvsOk wd u 0 h.evs) (A : ArgsOk wd u h.args) (r : runA h g = .ok o.2 [srcT q]) (O : OutOk o l h.args) (hq : u.st q = u.st 10) : ArOk wd g l (u.vi 0) (u.vi 1) (u.vi 2) (u.vi 3) (u.vi 4) (u.vi 5) := by
 have t := tri_go os E A 45 nArg [.ref 0, g] [srcT 2] r
 have t : Tri wd 45 nArg [.ref 0, sbV u g] [u.st 2] (.ok (sbV u o.2) [u.st q]) := t
 rw [hg, hq] at t
 refine .mk u o O.mem rfl rfl rfl rfl rfl rfl ?_ hg t
 rcases O.ks with e | e
 ·rw [e]; exact no_kinds
 ·rw [e]; exact A
theorem args_of {as : List (Arg wd)} {is : List Int} {l : List (V × Bool)} (K : kinds as = l) (hl : as.length < 100) : ArgsOk wd (mkU as is) l := K ▸ kinds_ok hl
theorem tk_ok {u : Vals} {t p n : Nat} {s : Int × Int × Int} (ht : 0 < t) (hs : takeF t (u.vi (2 * p)) (u.vi (2 * p + 1)) = s) (hn : s.1 = .ofNat n) (h1 : u.st (p + 1) = src s.2.1 s.2.2) : EvOk wd u p (.tk t (.int n)) := ⟨ht, by rw [hs, hn]; rfl, by rw [hs]; exact h1⟩
theorem ar_f (os : OsState) (a0 b0 a1 b1 a b : Int) : ArOk wd gF (outsP [tInt, tStr]) a0 b0 a1 b1 a b := by
 obtain ⟨A0, a2, b2, h0, t0⟩ := val_int (wd := wd) os a b
 obtain ⟨A1, a3, b3, h1, t1⟩ := val_str (wd := wd) os a2 b2
 obtain ⟨n, hn, e⟩ := take_rng a3 b3 (t := 8) (by decide)
 generalize hs : takeF 8 a3 b3 = s at *
 have r := at_bs rA_f [A0.b, A1.b] rfl hn
 have O := outP_ok (Ts := [tInt, tStr]) (bs := [A0.b, A1.b]) (d := n) rfl
 have K : kinds [A0, A1] = fitsOf [tInt, tStr] [A0.b, A1.b] := by
  show [(A0.T, A0.b), (A1.T, A1.b)] = _
  rw [h0, h1]; rfl
 exact ar_fin os (h := (hpP [tInt, tStr] [A0.b, A1.b] n)) (u := mkU [A0, A1] [a0, b0, a1, b1, a, b, a2, b2, a3, b3, s.2.1, s.2.2, 0, 0, 0, 0, 0, 0, 0, 0, s.2.1, s.2.2]) rfl
  ⟨trivial, trivial, ⟨rfl, t0⟩, ⟨rfl, t1⟩, tk_ok (by decide) hs e rfl, trivial⟩ (args_of K (of_decide_eq_true rfl)) r O rfl
theorem ar_v (os : OsState) (a0 b0 a1 b1 a b : Int) : ArOk wd gV (outsP [tInt]) a0 b0 a1 b1 a b := by
 obtain ⟨A0, a2, b2, h0, t0⟩ := val_int (wd := wd) os a b
 obtain ⟨n, hn, e⟩ := take_rng a2 b2 (t := 8) (by decide)
 generalize hs : takeF 8 a2 b2 = s at *
 have r := at_bs rA_v [A0.b] rfl hn
 have O := outP_ok (Ts := [tInt]) (bs := [A0.b]) (d := n) rfl
 have K : kinds [A0] = fitsOf [tInt] [A0.b] := by
  show [(A0.T, A0.b)] = _
  rw [h0]; rfl
 exact ar_fin os (h := (hpP [tInt] [A0.b] n)) (u := mkU [A0] [a0, b0, a1, b1, a, b, a2, b2, s.2.1, s.2.2, 0, 0, 0, 0, 0, 0, 0, 0, 0, 0, s.2.1, s.2.2]) rfl
  ⟨trivial, trivial, ⟨rfl, t0⟩, tk_ok (by decide) hs e rfl, trivial⟩ (args_of K (of_decide_eq_true rfl)) r O rfl
theorem ar_g (os : OsState) (a0 b0 a1 b1 a b : Int) : ArOk wd gG outsG a0 b0 a1 b1 a b := by
 obtain ⟨k, hk, ek⟩ := take_rng a b (t := 3) (by decide)
 generalize hs0 : takeF 3 a b = s0 at *
 rcases lt3 hk with rfl | hk'
 ·obtain ⟨A0, a2, b2, h0, t0⟩ := val_str (wd := wd) os s0.2.1 s0.2.2
  obtain ⟨A1, a3, b3, h1, t1⟩ := val_sl (wd := wd) os a2 b2
  obtain ⟨n, hn, e⟩ := take_rng a3 b3 (t := 8) (by decide)
  generalize hs : takeF 8 a3 b3 = s at *
  have r := at_bs rA_s [A0.b, A1.b] rfl hn
  have O := outS_ok (bs := [A0.b, A1.b]) (d := n) rfl
  have K : kinds [A0, A1] = fitsOf [tStr, tSl] [A0.b, A1.b] := by
   show [(A0.T, A0.b), (A1.T, A1.b)] = _
   rw [h0, h1]; rfl
  exact ar_fin os (h := (hpS [A0.b, A1.b] n)) (u := mkU [A0, A1] [a0, b0, a1, b1, a, b, s0.2.1, s0.2.2, a2, b2, a3, b3, s.2.1, s.2.2, 0, 0, 0, 0, 0, 0, s.2.1, s.2.2]) rfl
   ⟨trivial, trivial, tk_ok (by decide) hs0 ek rfl, ⟨rfl, t0⟩, ⟨rfl, t1⟩, tk_ok (by decide) hs e rfl, trivial⟩ (args_of K (of_decide_eq_true rfl)) r O rfl
 ·obtain ⟨m, hm, em⟩ := take_rng s0.2.1 s0.2.2 (t := 4) (by decide)
  generalize hs1 : takeF 4 s0.2.1 s0.2.2 = s1 at *
  obtain ⟨A0, a2, b2, h0, t0⟩ := val_str (wd := wd) os s1.2.1 s1.2.2
  rcases lt4 hm with rfl | rfl | rfl | rfl
  ·obtain ⟨n, hn, e⟩ := take_rng a2 b2 (t := 8) (by decide)
   generalize hs : takeF 8 a2 b2 = s at *
   have r : runA (hpM k 0 [A0.b] n) gG = .ok (outM 0 [A0.b] n).2 [srcT 6] := by
    rcases hk' with rfl | rfl
    ·exact at_bs rA_m01 [A0.b] rfl hn
    ·exact at_bs rA_m02 [A0.b] rfl hn
   have O := outM_ok (m := 0) (bs := [A0.b]) (d := n) (by decide) rfl
   have K : kinds [A0] = fitsOf [tStr] [A0.b] := by
    show [(A0.T, A0.b)] = _
    rw [h0]; rfl
   exact ar_fin os (h := (hpM k 0 [A0.b] n)) (u := mkU [A0] [a0, b0, a1, b1, a, b, s0.2.1, s0.2.2, s1.2.1, s1.2.2, a2, b2, s.2.1, s.2.2, 0, 0, 0, 0, 0, 0, s.2.1, s.2.2]) rfl
    ⟨trivial, trivial, tk_ok (by decide) hs0 ek rfl, tk_ok (by decide) hs1 em rfl, ⟨rfl, t0⟩, tk_ok (by decide) hs e rfl, trivial⟩ (args_of K (of_decide_eq_true rfl)) r O rfl
  ·obtain ⟨A1, a3, b3, h1, t1⟩ := val_int (wd := wd) os a2 b2
   obtain ⟨n, hn, e⟩ := take_rng a3 b3 (t := 8) (by decide)
   generalize hs : takeF 8 a3 b3 = s at *
   have r : runA (hpM k 1 [A0.b, A1.b] n) gG = .ok (outM 1 [A0.b, A1.b] n).2 [srcT 7] := by
    rcases hk' with rfl | rfl
    ·exact at_bs rA_m11 [A0.b, A1.b] rfl hn
    ·exact at_bs rA_m12 [A0.b, A1.b] rfl hn
   have O := outM_ok (m := 1) (bs := [A0.b, A1.b]) (d := n) (by decide) rfl
   have K : kinds [A0, A1] = fitsOf [tStr, tInt] [A0.b, A1.b] := by
    show [(A0.T, A0.b), (A1.T, A1.b)] = _
    rw [h0, h1]; rfl
   exact ar_fin os (h := (hpM k 1 [A0.b, A1.b] n)) (u := mkU [A0, A1] [a0, b0, a1, b1, a, b, s0.2.1, s0.2.2, s1.2.1, s1.2.2, a2, b2, a3, b3, s.2.1, s.2.2, 0, 0, 0, 0, s.2.1, s.2.2]) rfl
    ⟨trivial, trivial, tk_ok (by decide) hs0 ek rfl, tk_ok (by decide) hs1 em rfl, ⟨rfl, t0⟩, ⟨rfl, t1⟩, tk_ok (by decide) hs e rfl, trivial⟩ (args_of K (of_decide_eq_true rfl)) r O rfl
  ·obtain ⟨A1, a3, b3, h1, t1⟩ := val_int (wd := wd) os a2 b2
   obtain ⟨A2, a4, b4, h2, t2⟩ := val_int (wd := wd) os a3 b3
   obtain ⟨n, hn, e⟩ := take_rng a4 b4 (t := 8) (by decide)
   generalize hs : takeF 8 a4 b4 = s at *
   have r : runA (hpM k 2 [A0.b, A1.b, A2.b] n) gG = .ok (outM 2 [A0.b, A1.b, A2.b] n).2 [srcT 8] := by
    rcases hk' with rfl | rfl
    ·exact at_bs rA_m21 [A0.b, A1.b, A2.b] rfl hn
    ·exact at_bs rA_m22 [A0.b, A1.b, A2.b] rfl hn
   have O := outM_ok (m := 2) (bs := [A0.b, A1.b, A2.b]) (d := n) (by decide) rfl
   have K : kinds [A0, A1, A2] = fitsOf [tStr, tInt, tInt] [A0.b, A1.b, A2.b] := by
    show [(A0.T, A0.b), (A1.T, A1.b), (A2.T, A2.b)] = _
    rw [h0, h1, h2]; rfl
   exact ar_fin os (h := (hpM k 2 [A0.b, A1.b, A2.b] n)) (u := mkU [A0, A1, A2] [a0, b0, a1, b1, a, b, s0.2.1, s0.2.2, s1.2.1, s1.2.2, a2, b2, a3, b3, a4, b4, s.2.1, s.2.2, 0, 0, s.2.1, s.2.2]) rfl
    ⟨trivial, trivial, tk_ok (by decide) hs0 ek rfl, tk_ok (by decide) hs1 em rfl, ⟨rfl, t0⟩, ⟨rfl, t1⟩, ⟨rfl, t2⟩, tk_ok (by decide) hs e rfl, trivial⟩ (args_of K (of_decide_eq_true rfl)) r O rfl
  ·obtain ⟨A1, a3, b3, h1, t1⟩ := val_int (wd := wd) os a2 b2
   obtain ⟨A2, a4, b4, h2, t2⟩ := val_int (wd := wd) os a3 b3
   obtain ⟨A3, a5, b5, h3, t3⟩ := val_int (wd := wd) os a4 b4
   obtain ⟨n, hn, e⟩ := take_rng a5 b5 (t := 8) (by decide)
   generalize hs : takeF 8 a5 b5 = s at *
   have r : runA (hpM k 3 [A0.b, A1.b, A2.b, A3.b] n) gG = .ok (outM 3 [A0.b, A1.b, A2.b, A3.b] n).2 [srcT 9] := by
    rcases hk' with rfl | rfl
    ·exact at_bs rA_m31 [A0.b, A1.b, A2.b, A3.b] rfl hn
    ·exact at_bs rA_m32 [A0.b, A1.b, A2.b, A3.b] rfl hn
   have O := outM_ok (m := 3) (bs := [A0.b, A1.b, A2.b, A3.b]) (d := n) (by decide) rfl
   have K : kinds [A0, A1, A2, A3] = fitsOf [tStr, tInt, tInt, tInt] [A0.b, A1.b, A2.b, A3.b] := by
    show [(A0.T, A0.b), (A1.T, A1.b), (A2.T, A2.b), (A3.T, A3.b)] = _
    rw [h0, h1, h2, h3]; rfl
   exact ar_fin os (h := (hpM k 3 [A0.b, A1.b, A2.b, A3.b] n)) (u := mkU [A0, A1, A2, A3] [a0, b0, a1, b1, a, b, s0.2.1, s0.2.2, s1.2.1, s1.2.2, a2, b2, a3, b3, a4, b4, a5, b5, s.2.1, s.2.2, s.2.1, s.2.2]) rfl
    ⟨trivial, trivial, tk_ok (by decide) hs0 ek rfl, tk_ok (by decide) hs1 em rfl, ⟨rfl, t0⟩, ⟨rfl, t1⟩, ⟨rfl, t2⟩, ⟨rfl, t3⟩, tk_ok (by decide) hs e rfl, trivial⟩ (args_of K (of_decide_eq_true rfl)) r O rfl
inductive RightOk (wd : World) (n f : Nat) (a b : Int) : Prop
 | mk (a' b' : Int) (h : Tri wd n f [.ref 0] [src a b] (.ok (.bool true) [src a' b']))
theorem at_out {α : Type} {l : List Out} {f g : Out → α} {o : Out} (h : l.map f = l.map g) (ho : o ∈ l) : f o = g o := List.map_inj_left.mp h o ho
theorem at_l {α β : Type} {l : List β} {f g : β → α} {o : β} (h : l.map f = l.map g) (ho : o ∈ l) : f o = g o := List.map_inj_left.mp h o ho
theorem fr_of (os : OsState) {g : V} {l : List Out} {n : Nat} {a b : Int} {s : Int × Int × Int} (hs : takeF 4 a b = s) (hn : s.1 = .ofNat n) (X : ArOk wd g l 0 0 a b s.2.1 s.2.2) (h : l.map (fun o => runF o g n) = l.map fun z_ => .ok (.bool true) [srcT 10]) : RightOk wd 103 nFR a b := by
 obtain ⟨u, o, ho, e0, e1, e2, e3, e4, e5, A, hg, t⟩ := X
 have r := at_out h ho
 have E : EvsOk wd u 0 [.no, .tk 4 (.int n), .ar g o.2 10] := ⟨trivial, tk_ok (s := s) (by decide) (by show takeF 4 (u.vi 2) (u.vi 3) = s; rw [e2, e3]; exact hs) hn (by show src (u.vi 4) (u.vi 5) = _; rw [e4, e5]), ⟨hg, t⟩, trivial⟩
 have t := tri_go (h := { evs := [.no, .tk 4 (.int n), .ar g o.2 10], args := o.1 }) os E A 103 nFR [.ref 0] [srcT 1] r
 have t : Tri wd 103 nFR [.ref 0] [src (u.vi 2) (u.vi 3)] (.ok (.bool true) [u.st 10]) := t
 rw [e2, e3] at t
 exact .mk _ _ t
theorem fr_ok (os : OsState) (a b : Int) : RightOk wd 103 nFR a b := by
 obtain ⟨n, hn, e⟩ := take_rng a b (t := 4) (by decide)
 generalize hs : takeF 4 a b = s at *
 rcases lt4 hn with rfl | rfl | rfl | rfl
 ·exact fr_of os hs e (ar_f os ..) rF_f
 ·exact fr_of os hs e (ar_g os ..) (at_l (o := 1) (f := fun i => outsG.map fun o => runF o gG i) (g := fun z_ => outsG.map fun z_ => .ok (.bool true) [srcT 10]) rF_g (.head _))
 ·exact fr_of os hs e (ar_v os ..) rF_v
 ·exact fr_of os hs e (ar_g os ..) (at_l (o := 3) (f := fun i => outsG.map fun o => runF o gG i) (g := fun z_ => outsG.map fun z_ => .ok (.bool true) [srcT 10]) rF_g (.tail _ (.head _)))
theorem mr_of (os : OsState) {g : V} {l : List Out} {n w : Nat} {a b : Int} {s s' : Int × Int × Int} (hs : takeF 2 a b = s) (hn : s.1 = .ofNat n) (hs' : takeF 4 s.2.1 s.2.2 = s') (hw : s'.1 = .ofNat w) (X : ArOk wd g l a b s.2.1 s.2.2 s'.2.1 s'.2.2) (h : l.map (fun o => runM o g n w) = l.map fun z_ => .ok (.bool true) [srcT 10]) : RightOk wd 100 nMR a b := by
 obtain ⟨u, o, ho, e0, e1, e2, e3, e4, e5, A, hg, t⟩ := X
 have r := at_out h ho
 have E : EvsOk wd u 0 [.tk 2 (.int n), .tk 4 (.int w), .ar g o.2 10] := ⟨tk_ok (s := s) (by decide) (by show takeF 2 (u.vi 0) (u.vi 1) = s; rw [e0, e1]; exact hs) hn (by show src (u.vi 2) (u.vi 3) = _; rw [e2, e3]), tk_ok (s := s') (by decide) (by show takeF 4 (u.vi 2) (u.vi 3) = s'; rw [e2, e3]; exact hs') hw (by show src (u.vi 4) (u.vi 5) = _; rw [e4, e5]), ⟨hg, t⟩, trivial⟩
 have t := tri_go (h := { evs := [.tk 2 (.int n), .tk 4 (.int w), .ar g o.2 10], args := o.1 }) os E A 100 nMR [.ref 0] [srcT 0] r
 have t : Tri wd 100 nMR [.ref 0] [src (u.vi 0) (u.vi 1)] (.ok (.bool true) [u.st 10]) := t
 rw [e0, e1] at t
 exact .mk _ _ t
theorem mr_ok (os : OsState) (a b : Int) : RightOk wd 100 nMR a b := by
 obtain ⟨n, hn, e⟩ := take_rng a b (t := 2) (by decide)
 generalize hs : takeF 2 a b = s at *
 obtain ⟨w, hw, e'⟩ := take_rng s.2.1 s.2.2 (t := 4) (by decide)
 generalize hs' : takeF 4 s.2.1 s.2.2 = s' at *
 rcases lt2 hn with rfl | rfl
 ·exact mr_of os hs e hs' e' (ar_f os ..) (at_rng rM_f hw)
 ·rcases lt4 hw with rfl | rfl | rfl | rfl
  ·exact mr_of os hs e hs' e' (ar_g os ..) rM_g0
  ·exact mr_of os hs e hs' e' (ar_g os ..) rM_g1
  ·exact mr_of os hs e hs' e' (ar_g os ..) rM_g2
  ·exact mr_of os hs e hs' e' (ar_g os ..) rM_g3
end
end Mine
end
section
open PySem PySem.W PyProof.Rows
namespace Mine
noncomputable section
variable {P : Params} {b h : Heap} {w w' : Wd} {a0 : Addr} {o0 : Obj} {l1 l2 : Led}
theorem nd_ne {l : List (Addr × Obj)} {p q : Addr × Obj} (h : (l.map (·.1)).Nodup) (hp : p ∈ l) (hq : q ∈ l) (e : p.1 = q.1) : p = q := by
 induction l with
 | nil => cases hp
 | cons x l ih =>
  obtain ⟨h1, h2⟩ := List.nodup_cons.mp h
  cases hp with
  | head => cases hq with
   | head => rfl
   | tail _ hq => exact absurd (List.mem_map.mpr ⟨_, hq, e.symm⟩) h1
  | tail _ hp => cases hq with
   | head => exact absurd (List.mem_map.mpr ⟨_, hp, e⟩) h1
   | tail _ hq => exact ih h2 hp hq
noncomputable abbrev outW (w : Wd) (r : List Addr) (p : Addr × Obj) (m : Led) : Wd := ⟨w.fz, p :: w.xt, m, r, w.tb⟩
noncomputable abbrev inW (w : Wd) (p : Addr × Obj) (x : Led) : Wd := ⟨w.fz, x, p :: w.mu, p.1 :: w.rho, w.tb⟩
theorem perm_out {p : Addr × Obj} {r : List Addr} (e : w.mu = l1 ++ p :: l2) : List.Perm (w.all cf0) ((outW w r p (l1 ++ l2)).all cf0) := by
 show List.Perm (w.fz ++ (w.xt ++ (w.mu ++ _))) (w.fz ++ ((p :: w.xt) ++ ((l1 ++ l2) ++ _)))
 rw [e]
 refine List.Perm.append_left _ ?_
 rw [List.append_assoc, List.append_assoc, List.cons_append, List.cons_append]
 have h1 : List.Perm (w.xt ++ (l1 ++ p :: (l2 ++ [(cf0.tabA, tabObj w.tb)]))) (w.xt ++ (p :: (l1 ++ (l2 ++ [(cf0.tabA, tabObj w.tb)])))) := List.Perm.append_left _ List.perm_middle
 exact h1.trans List.perm_middle
theorem perm_in {p : Addr × Obj} (e : w.xt = l1 ++ p :: l2) : List.Perm (w.all cf0) ((inW w p (l1 ++ l2)).all cf0) := by
 show List.Perm (w.fz ++ (w.xt ++ (w.mu ++ _))) (w.fz ++ ((l1 ++ l2) ++ ((p :: w.mu) ++ _)))
 rw [e]
 refine List.Perm.append_left _ ?_
 rw [List.append_assoc, List.append_assoc, List.cons_append, List.cons_append]
 refine List.Perm.append_left _ ?_
 exact (List.perm_middle (a := p) (l₁ := l2)).symm
theorem st_out {r : List Addr} (S : St cf0 b h w) (e : w.mu = l1 ++ (a0, o0) :: l2) (er : w.rho = a0 :: r) : St cf0 b h (outW w r (a0, o0) (l1 ++ l2)) := by
 have pm := perm_out (w := w) (r := r) e
 have hm : ∀ p ∈ l1 ++ l2, p ∈ w.mu := fun p hp => by
  rw [e]
  rcases List.mem_append.mp hp with h | h
  ·exact List.mem_append_left _ h
  ·exact List.mem_append_right _ (.tail _ h)
 have rnd := S.rnd
 rw [er] at rnd
 obtain ⟨r1, r2⟩ := List.nodup_cons.mp rnd
 refine ⟨S.stays, fun p hp => S.kn p (pm.mem_iff.mpr hp), fun p hp => S.new p (pm.mem_iff.mpr hp), fun p hp => S.nf p (hm p hp), (pm.map _).nodup_iff.mp S.nd, fun a ha => ?_, r2, S.tab⟩
 obtain ⟨q, hq, e1⟩ := mmp (S.rho a (by rw [er]; exact .tail _ ha))
 rw [e] at hq
 refine List.mem_map.mpr ⟨q, ?_, e1⟩
 rcases List.mem_append.mp hq with h | h
 ·exact List.mem_append_left _ h
 ·cases h with
  | head => exact absurd (show a0 ∈ r by rw [show a0 = a from e1]; exact ha) r1
  | tail _ h => exact List.mem_append_right _ h
theorem st_in (S : St cf0 b h w) (e : w.xt = l1 ++ (a0, o0) :: l2) (nf : ∀ vs, o0.data ≠ .fields vs) : St cf0 b h (inW w (a0, o0) (l1 ++ l2)) := by
 have pm := perm_in (w := w) e
 refine ⟨S.stays, fun p hp => S.kn p (pm.mem_iff.mpr hp), fun p hp => S.new p (pm.mem_iff.mpr hp), fun p hp => ?_, (pm.map _).nodup_iff.mp S.nd, fun a ha => ?_, ?_, S.tab⟩
 ·cases hp with
  | head => exact nf
  | tail _ hp => exact S.nf p hp
 ·cases ha with
  | head => exact .head _
  | tail _ ha => exact .tail _ (S.rho a ha)
 ·refine List.nodup_cons.mpr ⟨fun ha => ?_, S.rnd⟩
  obtain ⟨q, hq, e1⟩ := mmp (S.rho a0 ha)
  have hx : (a0, o0) ∈ w.xt := by rw [e]; exact List.mem_append_right _ (.head _)
  have := nd_ne S.nd (mem_mu hq) (mem_xt hx) e1
  subst this
  have nd := S.nd
  unfold Wd.all at nd
  rw [List.map_append, List.map_append, List.map_append] at nd
  have := (List.nodup_append.mp (List.nodup_append.mp nd).2.1).2.2 a0 (List.mem_map.mpr ⟨_, hx, rfl⟩) a0 (List.mem_append_left _ (List.mem_map.mpr ⟨_, hq, rfl⟩))
  exact this rfl
theorem obj_src {w1 w2 : Wd} {x y : Int} {o : Obj} (h : ObjOk cf0 P b w1 (src x y) o) : ObjOk cf0 P b w2 (src x y) o := by
 obtain ⟨vs, n, e, d0⟩ := h
 obtain ⟨v, vs, rfl, h1, d1⟩ := DenL.cons_inv d0
 obtain ⟨v', vs', rfl, h2, d2⟩ := DenL.cons_inv d1
 obtain rfl := DenL.nil_inv d2
 obtain ⟨t, rfl⟩ := h1.inv
 obtain ⟨t', rfl⟩ := h2.inv
 exact ⟨_, n, e, .cons (.int _ _) (.cons (.int _ _) .nil)⟩
theorem tri_old {wd : World} {n f : Nat} {a1 b1 a2 b2 c d : Int} {t : Bool} (H : Tri wd n f [.ref 0] [src a1 b1] (.ok (.bool t) [src a2 b2])) : Tri wd n f [.ref 1] [src c d, src a1 b1] (.ok (.bool t) [src c d, src a2 b2]) := by
 refine ⟨?_⟩
 intro A stk fL s w a vals cx so S L ha dl Q E ff
 obtain ⟨x0, o0, hr0, hm0, ob0⟩ := L.at_ 0 _ rfl
 obtain ⟨x1, o1, hr1, hm1, ob1⟩ := L.at_ 1 _ rfl
 have er : w.rho = [x0, x1] := by
  have := L.len
  match hr : w.rho, this with
  | [y0, y1], _ => rw [hr] at hr0 hr1; obtain rfl := sI hr0; obtain rfl := sI hr1; rfl
 obtain ⟨l1, l2, em⟩ := List.append_of_mem hm0
 have rnd := S.rnd
 rw [er] at rnd
 have hne : x0 ≠ x1 := fun h => (List.nodup_cons.mp rnd).1 (h ▸ .head _)
 have hout : ∀ p ∈ w.mu, p.1 ≠ x0 → p ∈ l1 ++ l2 := fun p hp hx => by
  rw [em] at hp
  rcases List.mem_append.mp hp with h | h
  ·exact List.mem_append_left _ h
  ·cases h with
   | head => exact absurd rfl hx
   | tail _ h => exact List.mem_append_right _ h
 have S1 := st_out S em er
 have L1 : Live cf0 wd.params (Hp.hB wd.params) (outW w [x1] (x0, o0) (l1 ++ l2)) [src a1 b1] := ⟨rfl, fun j so e => by
  cases j with
  | succ j => simp at e
  | zero => obtain rfl := sI e; exact ⟨x1, o1, rfl, hout _ hm1 hne.symm, obj_src ob1⟩⟩
 have so1 : StkOk stk (outW w [x1] (x0, o0) (l1 ++ l2)) := fun env he => by
  obtain ⟨hk, l, h1, h2, h3⟩ := so env he
  refine ⟨hk, l, h1, ?_, ?_⟩
  ·obtain ⟨q, hq, rfl⟩ := mmp h2
   exact List.mem_map.mpr ⟨q, hout q hq fun e => h3 (by rw [er, e]; exact .head _), rfl⟩
  ·intro h
   exact h3 (by rw [er]; exact .tail _ h)
 have dl1 : DenLW cf0 wd.params (Hp.hB wd.params) (outW w [x1] (x0, o0) (l1 ++ l2)) [.ref 0] vals := by
  obtain ⟨v, vs, rfl, h1, dn⟩ := DenL.cons_inv dl
  obtain rfl := DenL.nil_inv dn
  obtain ⟨y, rfl, hy⟩ := h1.inv
  rw [hr1] at hy
  obtain rfl := sI hy
  exact .cons (.ref rfl) .nil
 refine H.h cx so1 S1 L1 ha dl1 Q E fun w' h' tk' S' e' L' val dv => ?_
 have hx : (x0, o0) ∈ w'.xt := e'.xt _ (.head _)
 obtain ⟨k1, k2, ex⟩ := List.append_of_mem hx
 obtain ⟨y, oy, hy, hmy, oby⟩ := L'.at_ 0 _ rfl
 have er' : w'.rho = [y] := by
  have := L'.len
  match hr : w'.rho, this with
  | [y0], _ => rw [hr] at hy; obtain rfl := sI hy; rfl
 have S2 := st_in S' ex (S.nf _ hm0)
 have e2 : Ext [] w (inW w' (x0, o0) (k1 ++ k2)) := by
  refine ⟨e'.fz, fun p hp => ?_, fun p hp h1 h2 => ?_, fun p hp => ?_, fun j x hj => ?_, fun p hp h => ?_⟩
  ·have := e'.xt p (.tail _ hp)
   rw [ex] at this
   rcases List.mem_append.mp this with h | h
   ·exact List.mem_append_left _ h
   ·cases h with
    | head =>
     exfalso
     have nd := S.nd
     unfold Wd.all at nd
     rw [List.map_append, List.map_append, List.map_append] at nd
     exact (List.nodup_append.mp (List.nodup_append.mp nd).2.1).2.2 x0 (List.mem_map.mpr ⟨_, hp, rfl⟩) x0 (List.mem_append_left _ (List.mem_map.mpr ⟨_, hm0, rfl⟩)) rfl
    | tail _ h => exact List.mem_append_right _ h
  ·have hx : p.1 ≠ x0 := fun e => h2 (by rw [er, e]; exact .head _)
   obtain ⟨o', g1, g2⟩ := e'.mu p (hout p hp hx) h1 fun h => h2 (by rw [er]; exact .tail _ h)
   exact ⟨o', .tail _ g1, g2⟩
  ·by_cases hx : p.1 = x0
   ·rw [hx]; exact .head _
   ·exact .tail _ (e'.ky p (hout p hp hx))
  ·rw [er] at hj
   show (x0 :: w'.rho)[j]? = some x
   cases j with
   | zero => exact hj
   | succ j => exact e'.rho j x hj
  ·show p.1 ∉ x0 :: w'.rho
   have hx : p.1 ≠ x0 := fun e => h (by rw [er, e]; exact .head _)
   have := e'.ro p (hout p hp hx) fun g => h (by rw [er]; exact .tail _ g)
   exact fun g => (List.mem_cons.mp g).elim hx this
 have L2 : Live cf0 wd.params (Hp.hB wd.params) (inW w' (x0, o0) (k1 ++ k2)) [src c d, src a2 b2] := ⟨by show (x0 :: w'.rho).length = 2; rw [er']; rfl, fun j so e => by
  cases j with
  | zero => obtain rfl := sI e; exact ⟨x0, o0, rfl, .head _, obj_src ob0⟩
  | succ j => cases j with
   | zero => obtain rfl := sI e; exact ⟨y, oy, by show w'.rho[0]? = _; exact hy, .tail _ hmy, obj_src oby⟩
   | succ j => simp at e⟩
 refine ff _ h' tk' S2 e2 L2 val ?_
 obtain rfl := dv.inv
 exact .bool _
end
end Mine
end
section
open PySem PySem.W PyProof.Rows
namespace Mine
noncomputable section
noncomputable def envL (L : Nat) : Env := ⟨[(128026154263411, vScr L)], []⟩
noncomputable def locs1 (k : Nat) (l : List (Nat × V)) : List (Nat × V) := (1852994932, .int 1) :: (1852994932, .int 0) :: (111477796466547, .ref k) :: (107, .int k) :: l
noncomputable def env2 (L k : Nat) : Env := match k with
 | 0 => ⟨locs1 0 (envL L).locs, []⟩
 | _ => ⟨locs1 1 (locs1 0 (envL L).locs), []⟩
noncomputable def sto2 (k : Nat) : Store := match k with
 | 0 => [srcT 4]
 | _ => [srcT 4, srcT 9]
noncomputable abbrev forS : Sm := f_law.body.headD .pass
noncomputable def forR : Src × List Sm := match forS with
 | .for_ _ _ s b => (s, b)
 | _ => (.seq .cn, [])
noncomputable abbrev restS : List Sm := f_law.body.drop 1
noncomputable def lastK (L : Nat) : Nat := match Nat.ble 2 L with
 | true => 1
 | false => 0
theorem l_src : (List.range 64).map (fun L => run (GL L) 116 (.src (envL L) forR.1 [])) = (List.range 64).map fun L => .oks (rangeV 0 (lastK L + 1)) [] := by kernel_rfl
theorem l_for : (List.range 64).map (fun L => run (GL L) 116 (.for_ (envL L) [107] false (rangeV 0 (lastK L + 1)) forR.2 [])) = (List.range 64).map fun L => .nxt (env2 L (lastK L)) (sto2 (lastK L)) := by kernel_rfl
theorem l_rest0 {L : Nat} : run (GL L) 116 (.b (env2 L 0) restS (sto2 0)) = .ret (.bool true) (sto2 0) := by kernel_rfl
theorem l_rest1 {L : Nat} : run (GL L) 116 (.b (env2 L 1) restS (sto2 1)) = .ret (.bool true) (sto2 1) := by kernel_rfl
theorem l_all {L : Nat} (h : L < 64) : runL L 118 = .ok (.bool true) [] := by
 have h1 := List.map_inj_left.mp l_src L (List.mem_range.mpr h)
 have h2 := List.map_inj_left.mp l_for L (List.mem_range.mpr h)
 have hb : run (GL L) 117 (.b (envL L) f_law.body []) = .ret (.bool true) (sto2 (lastK L)) := by
  show (run (GL L) 116 (.src (envL L) forR.1 [])).binds (fun items σ => goB (GL L) (run (GL L) 116) restS (run (GL L) 116 (.for_ (envL L) [107] false items forR.2 σ))) = _
  rw [h1]
  show goB (GL L) (run (GL L) 116) restS (run (GL L) 116 (.for_ (envL L) [107] false (rangeV 0 (lastK L + 1)) forR.2 [])) = _
  rw [h2]
  show run (GL L) 116 (.b (env2 L (lastK L)) restS (sto2 (lastK L))) = _
  unfold lastK
  cases Nat.ble 2 L with
  | true => exact l_rest1
  | false => exact l_rest0
 show (match run (GL L) 117 (.b (envL L) f_law.body []) with
   | .ret v σ' => endFn .drop 0 v σ'
   | .nxt _ σ' => endFn .drop 0 .none σ'
   | .exc c σ' => ifB ((σ'.take 0).all (nrefO 0)) (.exc c (σ'.take 0)) .bad
   | _ => .bad) = _
 rw [hb]
 unfold lastK
 cases Nat.ble 2 L <;> rfl
end
noncomputable section
open Hp (hB)
variable {wd : World} {u : Vals} {L : Nat}
inductive LawOk (wd : World) (u : Vals) (L : Nat) (is : List Int) : Prop
 | mk (scr : sbL u (itoks 30 L) = is.map .int)
  (p0 : Tri wd 41 nPool [.lst (is.map .int), .int 0] [] (.ok (.ref 0) [u.st 0]))
  (p1 : ∀ a b, Tri wd 41 nPool [.lst (is.map .int), .int 1] [src a b] (.ok (.ref 1) [src a b, u.st 5]))
  (fr : ∀ p, (p == 0 || p == 2 || p == 5 || p == 7) = true → Tri wd 103 nFR [.ref 0] [u.st p] (.ok (.bool true) [u.st (p + 1)]))
  (mr : ∀ p, (p == 1 || p == 3 || p == 6 || p == 8) = true → Tri wd 100 nMR [.ref 0] [u.st p] (.ok (.bool true) [u.st (p + 1)]))
theorem isRef_eq {n : Nat} {v : V} (h : isRef n v = true) : v = .ref n := by
 cases v with
 | ref j => rw [nbe h]
 | _ => exact noB h
inductive PosL (x : V) : Store → Nat → List SO → Prop
 | one {p : Nat} (e : x = .ref 0) : PosL x [srcT p] p []
 | two {p q : Nat} (e : x = .ref 1) : PosL x [srcT q, srcT p] p [srcT q]
theorem posL_inv {x : V} {σ : Store} {p : Nat × List SO} (h : posL x σ = some p) : PosL x σ p.1 p.2 := by
 unfold posL at h
 match σ with
 | [] => exact noS h
 | [s] =>
  dsimp only at h
  cases hx : isRef 0 x with
  | false => rw [hx] at h; exact noS h
  | true =>
   rw [hx] at h
   obtain ⟨q, h1, h2⟩ := mapS h
   obtain rfl := posT_eq h1; subst h2
   exact .one (isRef_eq hx)
 | [g, s] =>
  dsimp only at h
  cases hx : isRef 1 x with
  | false => rw [hx] at h; exact noS h
  | true =>
   rw [hx] at h
   obtain ⟨q', h0, h3⟩ := bindS h
   obtain ⟨q, h1, h2⟩ := mapS h3
   obtain rfl := posT_eq h1; obtain rfl := posT_eq h0; subst h2
   exact .two (isRef_eq hx)
 | _ :: _ :: _ :: _ => exact noS h
theorem sameT_eq (a b : V) (h : sameT a b = true) : a = b := by
 unfold sameT at h
 cases ha : tokF a with
 | none => rw [ha] at h; exact noB h
 | some i => cases hb : tokF b with
  | none => rw [ha, hb] at h; exact noB h
  | some j =>
   rw [ha, hb] at h
   rw [tokF_eq ha, tokF_eq hb, nbe h]
theorem veqT_eq {x : V} (h : veqT x L = true) : x = vScr L := by
 cases x with
 | lst xs => exact congrArg V.lst (all2_eq sameT_eq h)
 | _ => exact noB h
theorem hkL_ok {is : List Int} (X : LawOk wd u L is) (f : Nat) (as : List V) (σ : Store) (k : Nat) (q : Res) (e : hkL L f as σ = some (k, q)) : Hk1 wd u f as σ k q := by
 obtain ⟨scr, p0, p1, fr, mr⟩ := X
 unfold hkL at e
 match as with
 | [] => exact noS e
 | [x] =>
  obtain ⟨⟨p, γ⟩, h1, e'⟩ := bindS e
  clear e
  have h1 := posL_inv h1
  cases hf : Nat.beq f nFR with
  | true =>
   rw [hf] at e'
   obtain ⟨h2, e⟩ := gd_inv e'
   injection e with j1 j2; subst j1; subst j2; obtain rfl := nbe hf
   cases h1 with
   | one ex => subst ex; exact ⟨rfl, fr p h2⟩
   | two ex => subst ex; exact ⟨rfl, tri_old (fr p h2)⟩
  | false =>
   rw [hf] at e'
   obtain ⟨h2, e⟩ := gd_inv e'
   obtain ⟨h3, h2⟩ := and2 h2
   injection e with j1 j2; subst j1; subst j2; obtain rfl := nbe h3
   cases h1 with
   | one ex => subst ex; exact ⟨rfl, mr p h2⟩
   | two ex => subst ex; exact ⟨rfl, tri_old (mr p h2)⟩
 | [x, y] =>
  dsimp only at e
  cases hf : Nat.beq f nPool && veqT x L with
  | false => rw [hf] at e; exact noS e
  | true =>
   rw [hf] at e
   obtain ⟨h1, h2⟩ := and2 hf
   obtain rfl := nbe h1
   obtain rfl := veqT_eq h2
   have hs : sbV u (vScr L) = .lst (is.map .int) := congrArg V.lst scr
   match σ with
   | [] =>
    obtain ⟨h2, e⟩ := gd_inv e
    obtain rfl := isTk_eq h2; injection e with e; injection e with j1 j2; subst j1; subst j2
    refine ⟨rfl, ?_⟩
    show Tri wd 41 nPool [sbV u (vScr L), .int 0] [] (.ok (.ref 0) [u.st 0])
    rw [hs]; exact p0
   | [s] =>
    obtain ⟨q, h3, e'⟩ := bindS e
    clear e
    obtain ⟨h2, e⟩ := gd_inv e'
    obtain rfl := isTk_eq h2; injection e with j1 j2; subst j1; subst j2; obtain rfl := posT_eq h3
    refine ⟨rfl, ?_⟩
    show Tri wd 41 nPool [sbV u (vScr L), .int 1] [u.st q] (.ok (.ref 1) [u.st q, u.st 5])
    rw [hs]; exact p1 _ _
   | _ :: _ :: _ => exact noS e
 | _ :: _ :: _ :: _ => exact noS e
theorem itoks_ok {u : Vals} : ∀ (is : List Int) (k : Nat), (∀ (i : Nat) (x : Int), is[i]? = some x → u.vi (k + i) = x) → sbL u (itoks k is.length) = is.map .int
 | [], _, _ => rfl
 | x :: is, k, h => by
  show V.int (u.vi k) :: sbL u (itoks (k + 1) is.length) = _
  rw [itoks_ok is (k + 1) (fun i y hy => by rw [show k + 1 + i = k + (i + 1) by omega]; exact h (i + 1) y hy), show u.vi k = x from h 0 x rfl]
  rfl
theorem or4 {p a b c d : Nat} (h : (p == a || p == b || p == c || p == d) = true) : p = a ∨ p = b ∨ p = c ∨ p = d := by
 rcases Bool.or_eq_true_iff.mp h with h | h
 ·rcases Bool.or_eq_true_iff.mp h with h | h
  ·rcases Bool.or_eq_true_iff.mp h with h | h
   ·exact .inl (eq_of_beq h)
   ·exact .inr (.inl (eq_of_beq h))
  ·exact .inr (.inr (.inl (eq_of_beq h)))
 ·exact .inr (.inr (.inr (eq_of_beq h)))
theorem sb_ints {u : Vals} : ∀ is : List Int, sbL u (is.map .int) = is.map .int
 | [] => rfl
 | x :: is => congrArg (V.int x :: ·) (sb_ints is)
theorem tri_pool (os : OsState) (is : List Int) {k : Nat} (hk : k = 0 ∨ k = 1) (hl : is.length ≤ 63) (σ : Store) (hs : ∀ u, sbS u σ = σ) : Tri wd 41 nPool [.lst (is.map .int), .int k] σ (.ok (.ref σ.length) (σ ++ [src (capF (bigF (cellF k is))) (mixF k (bigF (cellF k is)))])) := by
 have h := tri_run wd os (mkU (wd := wd) [] []) hk_none 41 nPool [.lst (is.map .int), .int k] σ
 rw [show run (withHook fun z_ z_ z_ => none) 41 (.call (.fn nPool) [.lst (is.map .int), .int k] σ) = _ from pool_call is hk hl] at h
 have h : Tri wd 41 nPool [.lst (sbL (mkU (wd := wd) [] []) (is.map .int)), .int k] (sbS (mkU (wd := wd) [] []) σ) (.ok (.ref σ.length) (sbS (mkU (wd := wd) [] []) (σ ++ [src (capF (bigF (cellF k is))) (mixF k (bigF (cellF k is)))]))) := h
 rw [sb_ints, show ∀ u γ, sbS u (σ ++ γ) = sbS u σ ++ sbS u γ from fun u γ => List.map_append, hs] at h
 exact h
inductive LawU (wd : World) (is : List Int) : Prop
 | mk (u : Vals) (X : LawOk wd u is.length is)
theorem law_u (os : OsState) (is : List Int) (hl : is.length ≤ 63) : LawU wd is := by
 have q0 := tri_pool (wd := wd) os is (k := 0) (.inl rfl) hl [] fun z_ => rfl
 have q1 := fun a b => tri_pool (wd := wd) os is (k := 1) (.inr rfl) hl [src a b] fun z_ => rfl
 generalize capF (bigF (cellF 0 is)) = a0, mixF 0 (bigF (cellF 0 is)) = b0 at q0
 generalize capF (bigF (cellF 1 is)) = a5, mixF 1 (bigF (cellF 1 is)) = b5 at q1
 obtain ⟨a1, b1, t0⟩ := fr_ok (wd := wd) os a0 b0
 obtain ⟨a2, b2, t1⟩ := mr_ok (wd := wd) os a1 b1
 obtain ⟨a3, b3, t2⟩ := fr_ok (wd := wd) os a2 b2
 obtain ⟨a4, b4, t3⟩ := mr_ok (wd := wd) os a3 b3
 obtain ⟨a6, b6, t5⟩ := fr_ok (wd := wd) os a5 b5
 obtain ⟨a7, b7, t6⟩ := mr_ok (wd := wd) os a6 b6
 obtain ⟨a8, b8, t7⟩ := fr_ok (wd := wd) os a7 b7
 obtain ⟨a9, b9, t8⟩ := mr_ok (wd := wd) os a8 b8
 refine .mk (mkU (wd := wd) [] ([a0, b0, a1, b1, a2, b2, a3, b3, a4, b4, a5, b5, a6, b6, a7, b7, a8, b8, a9, b9, 0, 0, 0, 0, 0, 0, 0, 0, 0, 0] ++ is)) (.mk (itoks_ok is 30 fun i x h => ?_) q0 q1 (fun p h => ?_) fun p h => ?_)
 ·show (([a0, b0, a1, b1, a2, b2, a3, b3, a4, b4, a5, b5, a6, b6, a7, b7, a8, b8, a9, b9, 0, 0, 0, 0, 0, 0, 0, 0, 0, 0] ++ is)[30 + i]?).getD 0 = x
  rw [List.getElem?_append_right (by show 30 ≤ 30 + i; omega), show 30 + i - ([a0, b0, a1, b1, a2, b2, a3, b3, a4, b4, a5, b5, a6, b6, a7, b7, a8, b8, a9, b9, 0, 0, 0, 0, 0, 0, 0, 0, 0, 0] : List Int).length = i by show 30 + i - 30 = i; omega, h]
  rfl
 ·rcases or4 h with rfl | rfl | rfl | rfl
  ·exact t0
  ·exact t2
  ·exact t5
  ·exact t7
 ·rcases or4 h with rfl | rfl | rfl | rfl
  ·exact t1
  ·exact t3
  ·exact t6
  ·exact t8
theorem law_top (os : OsState) (is : List Int) (hl : is.length ≤ 63) {A : Around} {stk : List SE} {s : Shared} {w : Wd} {a : Addr} {vals : List Value} (cx : Cx0 A 118 stk) (so : StkOk stk w) (S : St cf0 (hB wd.params) s.heap w) (Lv : Live cf0 wd.params (hB wd.params) w []) (ha : cf0.fa nLaw = some a) (dl : DenLW cf0 wd.params (hB wd.params) w [.lst (is.map .int)] vals) (Q E : VP) (hQ : ∀ w' h' tk', St cf0 (hB wd.params) h' w' → Ext [] w w' → Q (.bool true) { s with heap := h', toks := tk' }) :
  KeepAt (model Hp.pw wd) s.heap (.ref a) ∧ codeAny (model Hp.pw wd) A (.call (.ref a) ⟨vals, []⟩) (wants Q E) s := by
 obtain ⟨u, X⟩ := law_u (wd := wd) os is hl
 have hk := hkL_ok X
 obtain ⟨mean, mg, mb, B⟩ := bs_at (tdV u) (fun h s => Den.mono s (fun z_ z_ h => h) h) wd os (hkL is.length)
 have PO := pr_at (tdV u) (fun h s => Den.mono s (fun z_ z_ h => h) h) wd (hkL is.length) (teV (u := u))
 have HO : HookOk (cfV u) wd.params (hB wd.params) (model Hp.pw wd) (withHook (hkL is.length)) := fun f vs σ k q e => by
  obtain ⟨h1, h2⟩ := hk f vs σ k q e
  refine ⟨by rw [show fnOf (withHook (hkL is.length)) f (withHook (hkL is.length)).fns = fnOf G f fnTab from fnOf_hook (hkL is.length) _ _]; exact h1, ?_⟩
  intro A stk fL s w a vals cx so S L ha d Q E ff
  exact h2.h cx so (st_to S) (live_to L) ha (den_to.2.1 _ _ d) Q E (fin_to ff)
 have hg : fnOf (withHook (hkL is.length)) nLaw (withHook (hkL is.length)).fns = some f_law := (fnOf_hook (hkL is.length) _ _).trans rfl
 have AR := all_run B PO HO 117 117 (Nat.le_refl _)
 have e : step (withHook (hkL is.length)) (run (withHook (hkL is.length)) 117) (.call (.fn nLaw) [vScr is.length] []) = .ok (.bool true) [] := l_all (Nat.lt_succ_of_le hl)
 have scr : sbV u (vScr is.length) = .lst (is.map .int) := by
  obtain ⟨scr, _, _, _, _⟩ := X
  exact congrArg V.lst scr
 have dl' : DenLW (cfV u) wd.params (hB wd.params) w [vScr is.length] vals := den_bkL (u := u) [vScr is.length] vals (by rw [show sbL u [vScr is.length] = [sbV u (vScr is.length)] from rfl, scr]; exact dl)
 refine call_fn (fL := 0) B AR.B (PO.fn nLaw f_law a hg ha) hg cx so (st_bk S) (live_bk (σ := []) Lv) dl' (Q := Q) (E := E) ?_
 rw [e]
 exact fun w' h' tk' S e L val dv => by
  obtain rfl := dv.inv
  exact hQ w' h' tk' (st_to S) e
end
end Mine
end
section
open PySem PySem.W PyProof.Rows PySem.Calls PySem.SeqAt
namespace Mine
noncomputable section
open Hp (hB H1 rw_)
noncomputable def lawA : Addr := (cf0.fa nLaw).getD 0
theorem law_fa : cf0.fa nLaw = some lawA := rfl
theorem law_ns (P : Params) : nsIn (KK P) mainGlobals (Str.ofString "law") = some (some (.ref lawA)) := by kernel_rfl
theorem tab_at (P : Params) : (H1 P).get? 752 = some (tabObj #[]) := by kernel_rfl
noncomputable def restO (b h : Heap) (a : Addr) : Option (Addr × Obj) := match b.get? a with
 | some _ => none
 | none => match Nat.beq a 752 with
  | true => none
  | false => (h.get? a).map fun o => (a, o)
noncomputable def restL (b h : Heap) : Led := (List.range h.objs.size).filterMap (restO b h)
theorem restO_inv {b h : Heap} {a : Addr} {p : Addr × Obj} (e : restO b h a = some p) : b.get? a = none ∧ a ≠ 752 ∧ h.get? a = some p.2 ∧ p.1 = a := by
 unfold restO at e
 cases hb : b.get? a with
 | some _ => rw [hb] at e; exact noS e
 | none =>
  rw [hb] at e
  dsimp only at e
  cases ha : Nat.beq a 752 with
  | true => rw [ha] at e; exact noS e
  | false =>
   rw [ha] at e
   obtain ⟨o, h1, h2⟩ := mapS e
   subst h2
   exact ⟨rfl, (fun q => by rw [q] at ha; injection ha), h1, rfl⟩
theorem restL_inv {b h : Heap} {p : Addr × Obj} (e : p ∈ restL b h) : b.get? p.1 = none ∧ p.1 ≠ 752 ∧ h.get? p.1 = some p.2 := by
 obtain ⟨a, _, h2⟩ := List.mem_filterMap.mp e
 obtain ⟨h1, h3, h4, h5⟩ := restO_inv h2
 rw [h5]; exact ⟨h1, h3, h4⟩
theorem restL_of {b h : Heap} {a : Addr} {o : Obj} (hb : b.get? a = none) (ha : a ≠ 752) (ho : h.get? a = some o) : (a, o) ∈ restL b h := by
 refine List.mem_filterMap.mpr ⟨a, List.mem_range.mpr (Heap.lt_size ho), ?_⟩
 unfold restO
 rw [hb]
 dsimp only
 cases hn : Nat.beq a 752 with
 | true => exact absurd (nbe hn) ha
 | false => show (h.get? a).map _ = _; rw [ho]; rfl
theorem restL_nd (b h : Heap) : ((restL b h).map (·.1)).Nodup := by
 unfold restL
 generalize hl : List.range h.objs.size = l
 have nd : l.Nodup := hl ▸ List.nodup_range
 clear hl
 induction l with
 | nil => exact List.nodup_nil
 | cons a l ih =>
  obtain ⟨n1, n2⟩ := List.nodup_cons.mp nd
  cases e : restO b h a with
  | none => rw [List.filterMap_cons_none e]; exact ih n2
  | some p =>
   rw [List.filterMap_cons_some e]
   refine List.nodup_cons.mpr ⟨fun q => ?_, ih n2⟩
   obtain ⟨x, hx, ex⟩ := mmp q
   obtain ⟨y, hy, ey⟩ := List.mem_filterMap.mp hx
   have h1 := (restO_inv e).2.2.2
   have h2 := (restO_inv ey).2.2.2
   have ex : x.1 = p.1 := ex
   exact n1 (by rw [← h1, ← ex, h2]; exact hy)
noncomputable def wd0 (b h : Heap) : Wd := ⟨restL b h, [], [], [], #[]⟩
theorem st_wd0 {P : Params} {h : Heap} (Y : (H1 P).StaysIn h) : St cf0 (hB P) h (wd0 (hB P) h) := by
 have tb : h.get? 752 = some (tabObj #[]) := Y _ _ (tab_at P)
 refine ⟨fun a o e => Y a o (of_hideAll _ e), fun p hp => ?_, fun p hp => ?_, fun p hp => (nomatch hp), ?_, fun a ha => (nomatch ha), List.nodup_nil, .inl rfl⟩
 ·rcases all_cases hp with h | h | h | h
  ·exact (restL_inv h).2.2
  ·cases h
  ·cases h
  ·rw [h]; exact tb
 ·rcases all_cases hp with h | h | h | h
  ·exact (restL_inv h).1
  ·cases h
  ·cases h
  ·rw [h]; exact hideAll_none _ (.head _)
 ·show ((restL (hB P) h ++ ([] ++ ([] ++ [((752 : Addr), tabObj #[])])) : Led).map (·.1)).Nodup
  rw [List.nil_append, List.nil_append, List.map_append]
  refine List.nodup_append.mpr ⟨restL_nd _ _, List.nodup_cons.mpr ⟨fun h => (nomatch h), List.nodup_nil⟩, fun a ha c hc e => ?_⟩
  obtain ⟨p, hp, rfl⟩ := mmp ha
  have hc : c = 752 := by simpa using hc
  exact (restL_inv hp).2.1 (e.trans hc)
theorem at_wd0 {P : Params} {h : Heap} (Y : (H1 P).StaysIn h) {a : Addr} {o : Obj} (e : h.get? a = some o) (ha : a ≠ 752) : At (hB P) (wd0 (hB P) h).fz a o := by
 cases hb : (hB P).get? a with
 | none => exact .inl (restL_of hb ha e)
 | some o' =>
  refine .inr ?_
  have := Y _ _ (of_hideAll _ hb)
  rw [e] at this
  rw [hb]; exact this.symm
theorem old_wd0 {P : Params} {h h' : Heap} {w' : Wd} (Y : (H1 P).StaysIn h) (S : St cf0 (hB P) h' w') (E : Ext [] (wd0 (hB P) h) w') : OldK h h' := by
 have K : ∀ b o, h.get? b = some o → b ≠ 752 → h'.get? b = some o := fun b o e hb => by
  rcases at_wd0 Y e hb with x | x
  ·exact S.kn _ (mem_fz (E.fz _ x))
  ·exact S.stays _ _ x
 have T : h'.get? 752 = some (tabObj w'.tb) := S.kn _ mem_tab
 have tb : h.get? 752 = some (tabObj #[]) := Y _ _ (tab_at P)
 refine ⟨fun b o e => ?_, fun b o e => ?_⟩
 ·by_cases hb : b = 752
  ·subst hb
   injection e.symm.trans tb with j1; subst j1
   refine .inr (.inl ⟨?_, rfl, #[], w'.tb, rfl, ?_⟩)
   ·obtain ⟨o, vs, file, tf, flags, tg, inF, text, tt, h1, h2, h3, h4, _⟩ := codeHd_of_K (KK_in P) (code_hd P)
    exact ⟨lcC, o, vs, Y _ _ (of_hideAll _ h1), h2, h3, h4⟩
   ·rw [T, Array.empty_append]
  ·exact .inl (K b o e hb)
 ·by_cases hb : b = 752
  ·subst hb; exact ⟨_, T⟩
  ·exact ⟨o, K b o e hb⟩
theorem ints_of {R : WRecords} : ∀ {xs : List WData}, WShape.hasItems R xs .int = true → ∃ is : List Int, xs = is.map .int
 | [], _ => ⟨[], rfl⟩
 | x :: xs, h => by
  obtain ⟨h1, h2⟩ := and2 (show (WShape.has R x .int && WShape.hasItems R xs .int) = true by simpa only [WShape.hasItems] using h)
  obtain ⟨i, rfl⟩ := hasW_int h1
  obtain ⟨is, rfl⟩ := ints_of h2
  exact ⟨i :: is, rfl⟩
theorem den_ints {P : Params} {b h : Heap} {fz : Led} : ∀ {is : List Int} {vs : List Value}, WellAll P h vs (is.map .int) → DenL cf0 P b fz [] (is.map .int) vs
 | [], _, d => by cases d; exact .nil
 | i :: is, _, d => by
  cases d with
  | cons d l => cases d with
   | int i t => exact .cons (.int i t) (den_ints l)
theorem most_ok {R : WRecords} {xs : List WData} (h : (OpenRow.toRowW rw_.row).pre.holds R { args := [.list xs] } = true) : xs.length ≤ 63 := by
 have h := (holds_andW (show (WTm.and (.not (.lt (.lit (.int ((63 : Nat) : Int))) (.len (.arg 0)))) (.lit (.bool true))).holds R { args := [.list xs] } = true from h)).1
 have e : (WTm.not (.lt (.lit (.int ((63 : Nat) : Int))) (.len (.arg 0)))).value R { args := [.list xs] } = some (.bool (!decide ((63 : Int) < (xs.length : Int)))) := by
  simp only [WTm.value, less?, List.getElem?_cons_zero]
  rfl
 have h := condW_of h e
 have h : decide ((63 : Int) < (xs.length : Int)) = false := by simpa using h
 have := of_decide_eq_false h
 omega
theorem post_ok {ds as : List WData} : rw_.row.toRowW.claim.post as (.bool true) ds = true := Bool.and_eq_true_iff.mpr ⟨show WShape.has rw_.row.records (.bool true) .bool = true by simp [WShape.has, WShape.arms], show (WTm.eq .res (.lit (.bool true))).holds _ { args := as, res := some (.bool true), after := ds } = true by simp [WTm.holds, WTm.value, same]⟩
theorem walk : WalkO Hp.view Hp.loose (fun z_ z_ => True) Hp.hook.says rw_.row.toRowW Hp.lawRec [] fun f vs => PySem.call f vs := by
 intro w s₀ s₁ mg mb G Y a o pm cd doc dV kV ho hd hcd hD hmg hg args vals as hpre hlay hrd hwl hlo
 have Y : (H1 w.params).StaysIn s₁.heap := Y
 have ea : a = lawA := by
  obtain ⟨o', es, ep, g1, g2, g3, g4⟩ := G.T.g
  have X : (KK w.params).In s₁.heap := fun b o e => Y b o (of_hideAll _ (KK_in w.params b o e))
  have := mg_of X G.T.g (law_ns w.params)
  have hmg : mg (Str.ofString "law") = some (.ref a) := hmg
  rw [this] at hmg
  cases hmg; rfl
 subst ea
 obtain ⟨h1, h2⟩ := pre_splitW hpre
 obtain ⟨d, r, rfl, hd1, hr⟩ := hasAllW_cons (show WShape.hasAll _ args [.list .int] = true from h1)
 cases hasAllW_nil hr
 obtain ⟨xs, rfl, hx⟩ := hasW_list hd1
 obtain ⟨is, rfl⟩ := ints_of hx
 have hl : is.length ≤ 63 := by have := most_ok h2; rwa [List.length_map] at this
 have S := st_wd0 Y
 have dl : DenLW cf0 w.params (hB w.params) (wd0 (hB w.params) s₁.heap) [.lst (is.map .int)] vals := by
  cases hwl with
  | cons d l =>
   cases l
   cases d with
   | list g d =>
    refine .cons (.lst (n := _) (at_wd0 Y g fun e => ?_) (den_ints d)) .nil
    subst e
    have tb := Y _ _ (tab_at w.params)
    rw [g] at tb
    cases tb
 have X := law_top (wd := w) s₁.os is hl (A := callerA) (stk := []) (s := s₁) ⟨rfl, rfl, by decide, by decide⟩ (fun e he => (nomatch he)) S ⟨rfl, fun j so e => by simp at e⟩ law_fa dl
  (fun v s' => GoodWG rw_.row.toRowW.claim (classAt s₀.heap) (ExcName.means s₀.heap) [.list (is.map .int)] s₁ (.ok (.ret v)) s')
  (fun e s' => GoodWG rw_.row.toRowW.claim (classAt s₀.heap) (ExcName.means s₀.heap) [.list (is.map .int)] s₁ (.error e) s')
  fun w' h' tk' S' E' => ⟨.inl ⟨_, .bool true, [], rfl, fun z_ => rfl, .bool true, post_ok, fun z_ => ⟨List.nodup_nil, fun a ha => (nomatch ha)⟩⟩, old_wd0 Y S' E', rfl, by show AllBare s₁.gens; exact .of_eq hg⟩
 exact wpAny_call X.2
theorem law_holds : rw_.Holds := Hp.holds_of walk
end
end Mine
end
theorem PySem.Challenge.cw_on0046_01_holds : PySem.Challenge.rw_on0046_01.Holds :=
  Mine.law_holds
