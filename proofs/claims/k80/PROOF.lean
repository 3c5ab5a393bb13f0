import PyProof.Rows.All
import HandS.ForMost
import HandS.ForExc
import HandS.Evl
import HandS.Wide
import HandS.Zip
import HandS.IsInst
import HandS.Style
import HandS.TupAny
import HandS.TupMul
import HandS.Conv
import PySem.Challenge.RW_restsmapped_k80_whole_valued_polynomials
set_option Elab.async false
set_option linter.all false
set_option maxRecDepth 100000
/-! The interpreter: data, operators, expressions, statements. -/
namespace Ev
open PySem

/-- data -/
inductive D where
  | non | bl (b : Bool) | int (i : Int) | str (s : Str) | tup (ds : List D) | lst (ds : List D) | cup | scr (ns : List Int)

/-- the state of the draws -/
abbrev C := Option (Int × Int)
/-- an error: its class, what it tells -/
structure Ex where
  cls : Str
  arg : Option D
inductive R (α : Type) where
  | ok (a : α) (c : C)
  | ex (x : Ex) (c : C)
  | no

def R.bind {α β : Type} (r : R α) (f : α → C → R β) : R β :=
  match r with
  | .ok a c => f a c
  | .ex x c => .ex x c
  | .no => .no
def R.of {α : Type} (o : Option α) (c : C) : R α :=
  match o with
  | some a => .ok a c
  | none => .no

mutual
def D.py : D → PyData
  | .non => .none
  | .bl b => .bool b
  | .int i => .int i
  | .str s => .str s
  | .tup ds => .tuple (D.pys ds)
  | .lst ds => .list (D.pys ds)
  | .cup => .none
  | .scr _ => .none
def D.pys : List D → List PyData
  | [] => []
  | d :: ds => D.py d :: D.pys ds
end
mutual
/-- how deep: none of the draws' state within -/
def D.dep : D → Option Nat
  | .tup ds => (D.deps ds).map (· + 1)
  | .lst ds => (D.deps ds).map (· + 1)
  | .cup => none
  | .scr _ => none
  | .str s => if PyData.strOk s then some 0 else none
  | _ => some 0
def D.deps : List D → Option Nat
  | [] => some 0
  | d :: ds => match D.dep d, D.deps ds with
    | some a, some b => some (max a b)
    | _, _ => none
end
mutual
/-- no list anywhere within -/
def D.noL : D → Bool
  | .lst _ => false
  | .tup ds => D.noLs ds
  | .cup => false
  | .scr _ => false
  | _ => true
def D.noLs : List D → Bool
  | [] => true
  | d :: ds => D.noL d && D.noLs ds
end
mutual
/-- == -/
def D.eq : D → D → Bool
  | .non, .non => true
  | .bl a, .bl b => a == b
  | .bl a, .int j => (if a then 1 else 0) == j
  | .int i, .bl b => i == (if b then 1 else 0)
  | .int i, .int j => i == j
  | .str x, .str y => x == y
  | .lst xs, .lst ys => D.eqs xs ys
  | .tup xs, .tup ys => D.eqs xs ys
  | _, _ => false
def D.eqs : List D → List D → Bool
  | [], [] => true
  | x :: xs, y :: ys => D.eq x y && D.eqs xs ys
  | _, _ => false
end
/-- it may be compared -/
def D.okEq (d : D) : Bool := match D.dep d with
  | some n => decide (n ≤ 60)
  | none => false

inductive Bop | add | sub | mul | fdiv | mod | pow
  deriving DecidableEq
inductive Cop | eq | ne | lt | le | gt | ge | isN | notN | inn | notin
  deriving DecidableEq
inductive Ty | int | bool | tuple | list | str
  deriving DecidableEq
inductive Bi | len | int | abs | list | tuple | sum | max | min | all | max2 | min2 | range1 | range2
  deriving DecidableEq

def lim : Nat := 16777216
theorem lim_le : lim ≤ sizeLine := by decide
/-- a product may be reckoned -/
def mulOk (i j : Int) : Bool := decide (i.natAbs < 2 ^ 64) || decide (j.natAbs < 2 ^ 64) || decide (i.natAbs.log2 + j.natAbs.log2 < 1000000)
/-- a quotient may be reckoned -/
def divOk (j : Int) : Bool := decide (0 < j) && decide (j.natAbs.log2 < 9000)

def binD : Bop → D → D → Option D
  | .add, .int i, .int j => some (.int (i + j))
  | .add, .lst xs, .lst ys => if xs.length + ys.length ≤ lim then some (.lst (xs ++ ys)) else none
  | .add, .tup xs, .tup ys => if xs.length + ys.length ≤ lim then some (.tup (xs ++ ys)) else none
  | .sub, .int i, .int j => some (.int (i - j))
  | .mul, .int i, .int j => if mulOk i j then some (.int (i * j)) else none
  | .mul, .lst xs, .int k => if decide (-(2 ^ 63) ≤ k) && decide (k < 2 ^ 63) && decide (xs.length * k.toNat ≤ lim) then some (.lst (List.replicate k.toNat xs).flatten) else none
  | .mul, .tup xs, .int k => if !xs.isEmpty && decide (2 ≤ k) && decide (k ≤ 1000) && decide (xs.length ≤ 1000) then some (.tup (List.replicate k.toNat xs).flatten) else none
  | .fdiv, .int i, .int j => if divOk j then some (.int (i / j)) else none
  | .mod, .int i, .int j => if decide (j ≠ 0) then some (.int (i.fmod j)) else none
  | .pow, .int i, .int j => if decide (0 ≤ j) && decide (j ≤ 1000) && decide (i.natAbs < 2 ^ 64) then some (.int (i ^ j.toNat)) else none
  | _, _, _ => none

/-- flat things, for in -/
def D.flat : D → Bool
  | .non | .bl _ | .int _ | .str _ => true
  | _ => false
def items : D → Option (List D)
  | .tup ds => some ds
  | .lst ds => some ds
  | _ => none
def inD (x : D) (ys : List D) : Option Bool :=
  if x.flat && ys.all D.flat then some (ys.any fun y => D.eq y x) else none
def cmpD : Cop → D → D → Option D
  | .eq, x, y => if x.okEq && y.okEq then some (.bl (D.eq x y)) else none
  | .ne, x, y => if x.okEq && y.okEq then some (.bl (!D.eq x y)) else none
  | .lt, .int i, .int j => some (.bl (decide (i < j)))
  | .le, .int i, .int j => some (.bl (decide (i ≤ j)))
  | .gt, .int i, .int j => some (.bl (decide (j < i)))
  | .ge, .int i, .int j => some (.bl (decide (j ≤ i)))
  | .isN, .non, .non => some (.bl true)
  | .isN, .bl _, .non => some (.bl false)
  | .isN, .int _, .non => some (.bl false)
  | .isN, .str _, .non => some (.bl false)
  | .isN, .tup _, .non => some (.bl false)
  | .isN, .lst _, .non => some (.bl false)
  | .notN, .non, .non => some (.bl false)
  | .notN, .bl _, .non => some (.bl true)
  | .notN, .int _, .non => some (.bl true)
  | .notN, .str _, .non => some (.bl true)
  | .notN, .tup _, .non => some (.bl true)
  | .notN, .lst _, .non => some (.bl true)
  | .inn, x, .tup ys => (inD x ys).map D.bl
  | .inn, x, .lst ys => (inD x ys).map D.bl
  | .notin, x, .tup ys => (inD x ys).map fun b => .bl (!b)
  | .notin, x, .lst ys => (inD x ys).map fun b => .bl (!b)
  | _, _, _ => none
def ixD : D → D → Option D
  | .tup ds, .int i => L2.atI ds i
  | .lst ds, .int i => L2.atI ds i
  | _, _ => none
/-- a bound of a slice -/
def cut (ds : List D) (lo hi : Option Int) : List D := (ds.drop (HT.sIx ds.length 0 lo)).take (HT.sIx ds.length ds.length hi - HT.sIx ds.length 0 lo)
def slD : D → Option Int → Option Int → Option D
  | .tup ds, lo, hi => some (.tup (cut ds lo hi))
  | .lst ds, lo, hi => some (.lst (cut ds lo hi))
  | _, _, _ => none
def rvD : D → Option D
  | .tup ds => some (.tup ds.reverse)
  | .lst ds => some (.lst ds.reverse)
  | _ => none
def isiD : D → Ty → Option Bool
  | .cup, _ => none
  | .scr _, _ => none
  | .non, _ => some false
  | .bl _, .bool => some true
  | .bl _, .int => some true
  | .bl _, _ => some false
  | .int _, .int => some true
  | .int _, _ => some false
  | .str _, .str => some true
  | .str _, _ => some false
  | .tup _, .tuple => some true
  | .tup _, _ => some false
  | .lst _, .list => some true
  | .lst _, _ => some false
def intsOf : List D → Option (List Int)
  | [] => some []
  | .int i :: ds => (intsOf ds).map (i :: ·)
  | _ :: _ => none
def blsOf : List D → Option (List Bool)
  | [] => some []
  | .bl b :: ds => (blsOf ds).map (b :: ·)
  | _ :: _ => none
def maxI : List Int → Option Int
  | [] => none
  | i :: is => some (is.foldl (fun m x => if x > m then x else m) i)
def minI : List Int → Option Int
  | [] => none
  | i :: is => some (is.foldl (fun m x => if x < m then x else m) i)
/-- the ints of a range by ones -/
def rg (a b : Int) : List D := (List.range (b - a).toNat).map fun (k : Nat) => D.int (a + (k : Int))
def rgOk (a b : Int) : Bool := Nat.ble a.natAbs 4611686018427387903 && Nat.ble b.natAbs 4611686018427387903
theorem rgOk_so {a b : Int} (h : rgOk a b = true) : ((-(2 ^ 62) ≤ a ∧ a < 2 ^ 62) ∧ -(2 ^ 62) ≤ b) ∧ b < 2 ^ 62 := by
  unfold rgOk at h
  rw [Bool.and_eq_true] at h
  have h1 := Nat.le_of_ble_eq_true h.1
  have h2 := Nat.le_of_ble_eq_true h.2
  omega
def biD : Bi → List D → Option D
  | .len, [.tup ds] => some (.int ds.length)
  | .len, [.lst ds] => some (.int ds.length)
  | .int, [.int i] => some (.int i)
  | .int, [.bl b] => some (.int (if b then 1 else 0))
  | .abs, [.int i] => some (.int (if i < 0 then -i else i))
  | .list, [.tup ds] => some (.lst ds)
  | .list, [.lst ds] => some (.lst ds)
  | .list, [.scr ns] => some (.lst (ns.map D.int))
  | .tuple, [.tup ds] => some (.tup ds)
  | .tuple, [.lst ds] => some (.tup ds)
  | .sum, [.lst ds] => (intsOf ds).map fun is => .int is.sum
  | .max, [.lst ds] => (intsOf ds).bind fun is => (maxI is).map .int
  | .min, [.lst ds] => (intsOf ds).bind fun is => (minI is).map .int
  | .all, [.lst ds] => (blsOf ds).map fun bs => .bl (bs.all id)
  | .max2, [.int i, .int j] => some (.int (if j > i then j else i))
  | .min2, [.int i, .int j] => some (.int (if j < i then j else i))
  | _, _ => none

/-- targets -/
inductive Tg where
  | v (i : Nat)
  | tup (is : List Nat)

mutual
inductive E where
  | v (i : Nat)
  | c (d : D)
  | gl (j : Nat)
  | bin (o : Bop) (a b : E)
  | neg (a : E)
  | cmp (o : Cop) (a b : E)
  | chain (o p : Cop) (a b c : E)
  | and (a b : E)
  | or (a b : E)
  | not (a : E)
  | ite (t a b : E)
  | tup (es : Es)
  | lst (es : Es)
  | ix (a b : E)
  | ixc (a : E) (k : Nat)
  | sl (a : E) (lo hi : Eo)
  | rv (a : E)
  | call (f : Nat) (es : Es)
  | bi (b : Bi) (es : Es)
  | isi (a : E) (t : Ty)
  | comp (own : List Nat) (it : It) (tg : Tg) (f : Eo) (e : E)
  | comp2 (own : List Nat) (it : It) (tg : Tg) (f : Eo) (it2 : It) (tg2 : Tg) (f2 : Eo) (e : E)
  | listR (it : It)
  | tupR (it : It)
inductive Es where
  | nil
  | cons (e : E) (es : Es)
inductive Eo where
  | non
  | som (e : E)
/-- what is walked -/
inductive It where
  | of (e : E)
  | r1 (a : E)
  | r2 (a b : E)
  | r3 (a b c : E)
  | zip (a b : E)
  | enum (a : E)
end

abbrev Env := List (Option D)
/-- the slot's value -/
def Env.at (env : Env) (i : Nat) : Option D := (env[i]?).join
def wipe (env : Env) : List Nat → Env
  | [] => env
  | v :: vs => (wipe env vs).set v none
def setTg (tg : Tg) (d : D) (env : Env) : Option Env :=
  match tg, d with
  | .v i, d => some (env.set i (some d))
  | .tup is, .tup ds => if is.length = ds.length then some ((is.zip ds).foldl (fun e p => e.set p.1 (some p.2)) env) else none
  | _, _ => none
def zipD (xs ys : List D) : List D := (xs.zip ys).map fun p => .tup [p.1, p.2]
def enumD (xs : List D) : List D := (xs.zipIdx).map fun p => .tup [.int p.2, p.1]
/-- the number of steps of a range, up or down -/
def rg3 (a b s : Int) : List D := (List.range (Builtin.Range.rangeSize a b s).toNat).map fun (k : Nat) => D.int (a + (k : Int) * s)

def rg3Ok (m n s : Int) : Bool := decide (s ≠ 0) && decide (s.natAbs < 1073741824) && Builtin.Range.small m n s && decide (0 ≤ Builtin.Range.rangeSize m n s)
/-- the comprehension's turns: step tells the kept items of one turn -/
def compGo (step : D → C → R (List D)) : List D → C → R (List D)
  | [], c => .ok [] c
  | d :: ds, c => (step d c).bind fun xs c1 => (compGo step ds c1).bind fun ys c2 => .ok (xs ++ ys) c2

abbrev Fns := Nat → List D → C → R D
section
variable (F : Fns) (G : List D)
mutual
def evE : E → Env → C → R D
  | .v i, env, c => R.of (Env.at env i) c
  | .c d, _, c => .ok d c
  | .gl j, _, c => R.of (G[j]?) c
  | .bin o a b, env, c => (evE a env c).bind fun x c1 => (evE b env c1).bind fun y c2 => R.of (binD o x y) c2
  | .neg a, env, c => (evE a env c).bind fun x c1 => match x with | .int i => .ok (.int (-i)) c1 | _ => .no
  | .cmp o a b, env, c => (evE a env c).bind fun x c1 => (evE b env c1).bind fun y c2 => R.of (cmpD o x y) c2
  | .chain o p a b e, env, c => (evE a env c).bind fun x c1 => (evE b env c1).bind fun y c2 => match cmpD o x y with
    | some (.bl true) => (evE e env c2).bind fun z c3 => R.of (cmpD p y z) c3
    | some (.bl false) => .ok (.bl false) c2
    | _ => .no
  | .and a b, env, c => (evE a env c).bind fun x c1 => match x with
    | .bl true => evE b env c1
    | .bl false => .ok (.bl false) c1
    | _ => .no
  | .or a b, env, c => (evE a env c).bind fun x c1 => match x with
    | .bl true => .ok (.bl true) c1
    | .bl false => evE b env c1
    | _ => .no
  | .not a, env, c => (evE a env c).bind fun x c1 => match x with | .bl b => .ok (.bl (!b)) c1 | _ => .no
  | .ite t a b, env, c => (evE t env c).bind fun x c1 => match x with
    | .bl true => evE a env c1
    | .bl false => evE b env c1
    | _ => .no
  | .tup es, env, c => (evEs es env c).bind fun ds c1 => if ds.length ≤ lim then .ok (.tup ds) c1 else .no
  | .lst es, env, c => (evEs es env c).bind fun ds c1 => if ds.length ≤ lim then .ok (.lst ds) c1 else .no
  | .ix a b, env, c => (evE a env c).bind fun x c1 => (evE b env c1).bind fun y c2 => R.of (ixD x y) c2
  | .ixc a k, env, c => (evE a env c).bind fun x c1 => match x, c1, k with
    | .cup, some (p, _), 0 => .ok (.int p) c1
    | .cup, some (_, q), 1 => .ok (.int q) c1
    | _, _, _ => .no
  | .sl a lo hi, env, c => (evE a env c).bind fun x c1 => (evO lo env c1).bind fun l c2 => (evO hi env c2).bind fun h c3 => R.of (slD x l h) c3
  | .rv a, env, c => (evE a env c).bind fun x c1 => R.of (rvD x) c1
  | .call f es, env, c => (evEs es env c).bind fun ds c1 => F f ds c1
  | .bi b es, env, c => (evEs es env c).bind fun ds c1 => R.of (biD b ds) c1
  | .isi a t, env, c => (evE a env c).bind fun x c1 => R.of ((isiD x t).map D.bl) c1
  | .comp own it tg f e, env, c => (evI it env c).bind fun ds c1 =>
      (compGo (fun d c => match setTg tg d (wipe env own) with
        | none => .no
        | some env1 => match evF f env1 c with
          | .ok true c2 => match evE e env1 c2 with
            | .ok x c3 => .ok [x] c3
            | _ => .no
          | .ok false c2 => .ok [] c2
          | _ => .no) ds c1).bind fun xs c2 => if ds.length < lim then .ok (.lst xs) c2 else .no
  | .comp2 own it tg f it2 tg2 f2 e, env, c => .no
  | .listR it, env, c => (evI it env c).bind fun ds c1 => if ds.length ≤ lim then .ok (.lst ds) c1 else .no
  | .tupR it, env, c => (evI it env c).bind fun ds c1 => if ds.length ≤ lim then .ok (.tup ds) c1 else .no
def evEs : Es → Env → C → R (List D)
  | .nil, _, c => .ok [] c
  | .cons e es, env, c => (evE e env c).bind fun d c1 => (evEs es env c1).bind fun ds c2 => .ok (d :: ds) c2
/-- a bound of a slice -/
def evO : Eo → Env → C → R (Option Int)
  | .non, _, c => .ok none c
  | .som e, env, c => (evE e env c).bind fun d c1 => match d with | .int i => .ok (some i) c1 | _ => .no
/-- a comprehension's test -/
def evF : Eo → Env → C → R Bool
  | .non, _, c => .ok true c
  | .som e, env, c => (evE e env c).bind fun d c1 => match d with | .bl b => .ok b c1 | _ => .no
def evI : It → Env → C → R (List D)
  | .of e, env, c => (evE e env c).bind fun d c1 => R.of (items d) c1
  | .r1 a, env, c => (evE a env c).bind fun x c1 => match x with
    | .int n => if rgOk 0 n then .ok (rg 0 n) c1 else .no
    | _ => .no
  | .r2 a b, env, c => (evE a env c).bind fun x c1 => (evE b env c1).bind fun y c2 => match x, y with
    | .int m, .int n => if rgOk m n then .ok (rg m n) c2 else .no
    | _, _ => .no
  | .r3 a b e, env, c => (evE a env c).bind fun x c1 => (evE b env c1).bind fun y c2 => (evE e env c2).bind fun z c3 => match x, y, z with
    | .int m, .int n, .int s => if rg3Ok m n s then .ok (rg3 m n s) c3 else .no
    | _, _, _ => .no
  | .zip a b, env, c => (evE a env c).bind fun x c1 => (evE b env c1).bind fun y c2 => match x, y with
    | .lst xs, .lst ys => .ok (zipD xs ys) c2
    | .tup xs, .tup ys => .ok (zipD xs ys) c2
    | _, _ => .no
  | .enum a, env, c => (evE a env c).bind fun x c1 => match x with
    | .lst xs => .ok (enumD xs) c1
    | _ => .no
end
end
end Ev

set_option Elab.async false
set_option linter.all false
set_option maxRecDepth 100000
set_option maxHeartbeats 1000000
/-! What stands for a datum; how the state grows. -/
namespace Ev
open PySem L2

/-- what is known and will not change; where the draws' state stands -/
structure Wd where
  F : Hp
  ca : Option Addr

section
variable {K : PySem.W.Frag}
mutual
inductive Rep (K : PySem.W.Frag) (w : Wd) : V → D → Prop
  | non : Rep K w .non .non
  | bl (b : Bool) : Rep K w (.bl b) (.bl b)
  | int (i : Int) : Rep K w (.int i) (.int i)
  | str (s : Str) : Rep K w (.str s) (.str s)
  | tup {a : Addr} {xs : List V} {ds : List D} : SqT K w.F a xs → Reps K w xs ds → Rep K w (.ref a) (.tup ds)
  | lst {a : Addr} {xs : List V} {ds : List D} : w.F a = some (.lst xs) → Reps K w xs ds → Rep K w (.ref a) (.lst ds)
  | cup {a : Addr} : w.ca = some a → Rep K w (.ref a) .cup
  | scr {a : Addr} {ns : List Int} : SqL K w.F a (ns.map V.int) → Rep K w (.ref a) (.scr ns)
inductive Reps (K : PySem.W.Frag) (w : Wd) : List V → List D → Prop
  | nil : Reps K w [] []
  | cons {v : V} {vs : List V} {d : D} {ds : List D} : Rep K w v d → Reps K w vs ds → Reps K w (v :: vs) (d :: ds)
end

/-- w' knows more -/
structure Wd.le (w w' : Wd) : Prop where
  F : ∀ a o, w.F a = some o → w'.F a = some o
  ca : ∀ a, w.ca = some a → w'.ca = some a
theorem Wd.le.refl (w : Wd) : w.le w := ⟨fun _ _ h => h, fun _ h => h⟩
theorem Wd.le.trans {w w1 w2 : Wd} (a : w.le w1) (b : w1.le w2) : w.le w2 := ⟨fun x o h => b.F x o (a.F x o h), fun x h => b.ca x (a.ca x h)⟩
theorem sqT_mono {F F' : Hp} (h : ∀ a o, F a = some o → F' a = some o) {a : Addr} {xs : List V} (s : SqT K F a xs) : SqT K F' a xs := by
  rcases s with (s | ⟨o, s⟩) | s
  · exact .inl (.inl (h _ _ s))
  · exact .inl (.inr ⟨o, h _ _ s⟩)
  · exact .inr s
theorem sqL_mono {F F' : Hp} (h : ∀ a o, F a = some o → F' a = some o) {a : Addr} {xs : List V} (s : SqL K F a xs) : SqL K F' a xs := by
  rcases s with (s | ⟨o, s⟩) | s
  · exact .inl (.inl (h _ _ s))
  · exact .inl (.inr ⟨o, h _ _ s⟩)
  · exact .inr s
mutual
theorem Rep.mono {w w' : Wd} (h : w.le w') : ∀ {v : V} {d : D}, Rep K w v d → Rep K w' v d
  | _, _, .non => .non
  | _, _, .bl b => .bl b
  | _, _, .int i => .int i
  | _, _, .str s => .str s
  | _, _, .tup s r => .tup (sqT_mono h.F s) (Reps.mono h r)
  | _, _, .lst s r => .lst (h.F _ _ s) (Reps.mono h r)
  | _, _, .cup e => .cup (h.ca _ e)
  | _, _, .scr s => .scr (sqL_mono h.F s)
theorem Reps.mono {w w' : Wd} (h : w.le w') : ∀ {v : List V} {d : List D}, Reps K w v d → Reps K w' v d
  | _, _, .nil => .nil
  | _, _, .cons r s => .cons (Rep.mono h r) (Reps.mono h s)
end
theorem Reps.length {w : Wd} : ∀ {vs : List V} {ds : List D}, Reps K w vs ds → vs.length = ds.length
  | _, _, .nil => rfl
  | _, _, .cons _ s => by simp [Reps.length s]
theorem Reps.append {w : Wd} : ∀ {vs vs' : List V} {ds ds' : List D}, Reps K w vs ds → Reps K w vs' ds' → Reps K w (vs ++ vs') (ds ++ ds')
  | _, _, _, _, .nil, b => b
  | _, _, _, _, .cons r s, b => .cons r (Reps.append s b)
theorem Reps.get {w : Wd} : ∀ {vs : List V} {ds : List D} {i : Nat} {d : D}, Reps K w vs ds → ds[i]? = some d → ∃ v, vs[i]? = some v ∧ Rep K w v d
  | _, _, _, _, .nil, h => by simp at h
  | _, _, 0, _, .cons r s, h => by simp at h; subst h; exact ⟨_, rfl, r⟩
  | _, _, i + 1, d, .cons r s, h => by
    obtain ⟨v, e, q⟩ := Reps.get (i := i) (d := d) s (by simpa using h)
    exact ⟨v, by simpa using e, q⟩
theorem Reps.getV {w : Wd} : ∀ {vs : List V} {ds : List D} {i : Nat} {v : V}, Reps K w vs ds → vs[i]? = some v → ∃ d, ds[i]? = some d ∧ Rep K w v d
  | _, _, _, _, .nil, h => by simp at h
  | _, _, 0, _, .cons r s, h => by simp at h; subst h; exact ⟨_, rfl, r⟩
  | _, _, i + 1, v, .cons r s, h => by
    obtain ⟨d, e, q⟩ := Reps.getV (i := i) (v := v) s (by simpa using h)
    exact ⟨d, by simpa using e, q⟩
theorem Reps.drop {w : Wd} : ∀ {vs : List V} {ds : List D} (n : Nat), Reps K w vs ds → Reps K w (vs.drop n) (ds.drop n)
  | _, _, 0, r => r
  | _, _, _ + 1, .nil => .nil
  | _, _, n + 1, .cons _ s => Reps.drop n s
theorem Reps.take {w : Wd} : ∀ {vs : List V} {ds : List D} (n : Nat), Reps K w vs ds → Reps K w (vs.take n) (ds.take n)
  | _, _, 0, _ => .nil
  | _, _, _ + 1, .nil => .nil
  | _, _, n + 1, .cons r s => .cons r (Reps.take n s)
theorem Reps.reverse {w : Wd} : ∀ {vs : List V} {ds : List D}, Reps K w vs ds → Reps K w vs.reverse ds.reverse
  | _, _, .nil => .nil
  | _, _, .cons r s => by rw [List.reverse_cons, List.reverse_cons]; exact (Reps.reverse s).append (.cons r .nil)
theorem Reps.set {w : Wd} {v : V} {d : D} (h : Rep K w v d) : ∀ {vs : List V} {ds : List D} (i : Nat), Reps K w vs ds → Reps K w (vs.set i v) (ds.set i d)
  | _, _, _, .nil => .nil
  | _, _, 0, .cons _ s => .cons h s
  | _, _, i + 1, .cons r s => .cons r (Reps.set h i s)
theorem Reps.rep {w : Wd} {vs : List V} {ds : List D} (r : Reps K w vs ds) : ∀ k : Nat, Reps K w (List.replicate k vs).flatten (List.replicate k ds).flatten
  | 0 => .nil
  | k + 1 => by rw [List.replicate_succ, List.replicate_succ, List.flatten_cons, List.flatten_cons]; exact r.append (Reps.rep r k)

/-- the draws' state stands where it is said -/
def Cup (w : Wd) (c : C) (H : Hp) : Prop := match c with
  | none => w.ca = none
  | some (a, b) => ∃ p, w.ca = some p ∧ H p = some (.lst [.int a, .int b]) ∧ w.F p = none
structure At (w : Wd) (c : C) (H : Hp) : Prop where
  F : ∀ a o, w.F a = some o → H a = some o
  cup : Cup w c H
/-- how the state grows -/
structure Step (w : Wd) (H : Hp) (w' : Wd) (H' : Hp) : Prop where
  le : w.le w'
  keep : ∀ a o, H a = some o → w.ca ≠ some a → H' a = some o
  fresh : ∀ a, w'.F a ≠ none → w.F a ≠ none ∨ H a = none
  freshC : ∀ a, w'.ca = some a → w.ca = some a ∨ H a = none
  alive : ∀ a, H a ≠ none → H' a ≠ none
theorem Step.refl (w : Wd) (H : Hp) : Step w H w H := ⟨.refl w, fun _ _ h _ => h, fun _ h => .inl h, fun _ h => .inl h, fun _ h => h⟩
theorem Step.trans {w w1 w2 : Wd} {H H1 H2 : Hp} (a : Step w H w1 H1) (b : Step w1 H1 w2 H2) : Step w H w2 H2 where
  le := a.le.trans b.le
  keep := fun x o h n => b.keep x o (a.keep x o h n) fun e => by
    rcases a.freshC x e with q | q
    · exact n q
    · rw [q] at h; cases h
  fresh := fun x h => by
    rcases b.fresh x h with q | q
    · exact a.fresh x q
    · by_cases z : H x = none
      · exact .inr z
      · exact absurd q (a.alive x z)
  freshC := fun x h => by
    rcases b.freshC x h with q | q
    · exact a.freshC x q
    · by_cases z : H x = none
      · exact .inr z
      · exact absurd q (a.alive x z)
  alive := fun x h => b.alive x (a.alive x h)
/-- a new object is known -/
def Wd.put (w : Wd) (p : Addr) (o : HO) : Wd := ⟨upd w.F p o, w.ca⟩
theorem Wd.le_put {w : Wd} {p : Addr} {o : HO} (n : w.F p = none) : w.le (w.put p o) :=
  ⟨fun a u h => by show upd w.F p o a = some u; rw [upd_ne (ne_of_none h n)]; exact h, fun _ h => h⟩
theorem At.nof {w : Wd} {c : C} {H : Hp} (h : At w c H) {p : Addr} (n : H p = none) : w.F p = none := by
  cases q : w.F p with
  | none => rfl
  | some o => rw [h.F p o q] at n; cases n
theorem Step.new {w : Wd} {c : C} {H : Hp} {p : Addr} {o : HO} (h : At w c H) (n : H p = none) : Step w H (w.put p o) (upd H p o) where
  le := Wd.le_put (h.nof n)
  keep := fun a u e _ => by rw [upd_ne (ne_of_none e n)]; exact e
  fresh := fun a e => by
    by_cases z : a = p
    · subst z; exact .inr n
    · refine .inl ?_
      have : upd w.F p o a ≠ none := e
      rw [upd_ne z] at this; exact this
  freshC := fun a e => .inl e
  alive := fun a e => by
    by_cases z : a = p
    · subst z; rw [upd_same]; intro q; cases q
    · rw [upd_ne z]; exact e
theorem Cup.ne {w : Wd} {c : C} {H : Hp} {p : Addr} (h : Cup w c H) (n : H p = none) : w.ca ≠ some p := by
  cases c with
  | none => intro e; have : w.ca = none := h; rw [this] at e; cases e
  | some ab => obtain ⟨q, e, e2, _⟩ := h; intro z; rw [e] at z; cases z; rw [n] at e2; cases e2
theorem At.new {w : Wd} {c : C} {H : Hp} {p : Addr} {o : HO} (h : At w c H) (n : H p = none) : At (w.put p o) c (upd H p o) where
  F := fun a u e => by
    by_cases z : a = p
    · subst z
      have e' : upd w.F a o a = some u := e
      rw [upd_same] at e'; rw [upd_same]; exact e'
    · have e' : upd w.F p o a = some u := e
      rw [upd_ne z] at e'; rw [upd_ne z]; exact h.F a u e'
  cup := by
    cases c with
    | none => exact h.cup
    | some ab =>
      obtain ⟨q, e1, e2, e3⟩ := h.cup
      have hq : q ≠ p := ne_of_none e2 n
      refine ⟨q, e1, by rw [upd_ne hq]; exact e2, ?_⟩
      show upd w.F p o q = none
      rw [upd_ne hq]; exact e3
theorem Wd.put_same {w : Wd} {p : Addr} {o : HO} : (w.put p o).F p = some o := upd_same

/-- an error as it leaves -/
def RepX (K : PySem.W.Frag) (ex : Str → Option (Addr × Str)) (w : Wd) (cls : Value) (dd : Option Addr) (x : Ex) : Prop :=
  ∃ C f, ex x.cls = some (C, f) ∧ cls = .ref C ∧ match x.arg with
    | none => dd = none
    | some d => ∃ a v, dd = some a ∧ w.F a = some (.xd [(f, v)]) ∧ Rep K w v d

/-- what comes out is wanted -/
def Out {α β : Type} (K : PySem.W.Frag) (ex : Str → Option (Addr × Str)) (rep : Wd → β → α → Prop) (w : Wd) (H : Hp) (r : R α) (Q : β → Hp → Prop) (Z : XK) : Prop :=
  match r with
  | .ok d c => ∀ v w' H', Step w H w' H' → At w' c H' → rep w' v d → Q v H'
  | .ex x c => ∀ cls dd w' H', Step w H w' H' → At w' c H' → RepX K ex w' cls dd x → Z cls dd H'
  | .no => False
variable {ex : Str → Option (Addr × Str)}
theorem Out.mono {α β : Type} {rep : Wd → β → α → Prop} {w : Wd} {H : Hp} {r : R α} {Q Q' : β → Hp → Prop} {Z : XK} (h : Out K ex rep w H r Q Z) (hq : ∀ v H', Q v H' → Q' v H') : Out K ex rep w H r Q' Z := by
  cases r with
  | ok d c => exact fun v w' H' s a q => hq _ _ (h v w' H' s a q)
  | ex x c => exact h
  | no => exact h
theorem Out.step {α β : Type} {rep : Wd → β → α → Prop} {w w1 : Wd} {H H1 : Hp} {r : R α} {Q : β → Hp → Prop} {Z : XK} (s : Step w H w1 H1) (h : Out K ex rep w H r Q Z) : Out K ex rep w1 H1 r Q Z := by
  cases r with
  | ok d c => exact fun v w' H' s' a q => h v w' H' (s.trans s') a q
  | ex x c => exact fun cls dd w' H' s' a q => h cls dd w' H' (s.trans s') a q
  | no => exact h
theorem Out.bind {α β γ δ : Type} {rep : Wd → β → α → Prop} {rep' : Wd → δ → γ → Prop} {w : Wd} {H : Hp} {r : R γ} {f : γ → C → R α} {Q : β → Hp → Prop} {Z : XK} (h : Out K ex rep w H (r.bind f) Q Z) :
    Out K ex rep' w H r (fun v H1 => ∃ d c1 w1, r = .ok d c1 ∧ Step w H w1 H1 ∧ At w1 c1 H1 ∧ rep' w1 v d ∧ Out K ex rep w1 H1 (f d c1) Q Z) Z := by
  cases r with
  | ok d c => exact fun v w' H' s a q => ⟨d, c, w', rfl, s, a, q, Out.step s h⟩
  | ex x c => exact h
  | no => exact h
theorem Out.ok {α β : Type} {rep : Wd → β → α → Prop} {w : Wd} {c : C} {H : Hp} {d : α} {v : β} {Q : β → Hp → Prop} {Z : XK} (h : Out K ex rep w H (.ok d c) Q Z) (a : At w c H) (r : rep w v d) : Q v H :=
  h v w H (.refl w H) a r
theorem Out.elim {α β : Type} {rep : Wd → β → α → Prop} {w : Wd} {H : Hp} {Q : β → Hp → Prop} {Z : XK} {p : Prop} (h : Out K ex rep w H .no Q Z) : p := False.elim h
theorem Out.new {α : Type} {rep : Wd → V → α → Prop} {w : Wd} {c : C} {H : Hp} {d : α} {p : Addr} {o : HO} {Q : VK} {Z : XK} (h : Out K ex rep w H (.ok d c) Q Z) (a : At w c H) (n : H p = none) (r : rep (w.put p o) (.ref p) d) : Q (.ref p) (upd H p o) :=
  h _ _ _ (Step.new a n) (a.new n) r
end
/-- an object that is not known to the data -/
structure Hid (D : Addr) (o : HO) (w : Wd) (H : Hp) : Prop where
  h : H D = some o
  f : w.F D = none
  c : w.ca ≠ some D
theorem Hid.step {D : Addr} {o : HO} {w w' : Wd} {H H' : Hp} (x : Hid D o w H) (s : Step w H w' H') : Hid D o w' H' where
  h := s.keep D o x.h x.c
  f := by
    cases e : w'.F D with
    | none => rfl
    | some u =>
      rcases s.fresh D (by rw [e]; exact fun z => nomatch z) with q | q
      · exact absurd x.f q
      · rw [x.h] at q; cases q
  c := fun e => by
    rcases s.freshC D e with q | q
    · exact x.c q
    · rw [x.h] at q; cases q
theorem Hid.new {D : Addr} {o : HO} {w : Wd} {c : C} {H : Hp} (a : At w c H) (n : H D = none) : Hid D o w (upd H D o) := ⟨upd_same, a.nof n, a.cup.ne n⟩
theorem Hid.upd {D : Addr} {o o' : HO} {w : Wd} {H : Hp} (x : Hid D o w H) : Hid D o' w (L2.upd H D o') := ⟨upd_same, x.f, x.c⟩
theorem At.hid {D : Addr} {o' : HO} {w : Wd} {c : C} {H : Hp} (a : At w c H) (hf : w.F D = none) (hc : w.ca ≠ some D) : At w c (L2.upd H D o') where
  F := fun p u e => by
    have : p ≠ D := fun z => by subst z; rw [hf] at e; cases e
    rw [upd_ne this]; exact a.F p u e
  cup := by
    cases c with
    | none => exact a.cup
    | some ab =>
      obtain ⟨q, e1, e2, e3⟩ := a.cup
      have : q ≠ D := fun z => by subst z; exact hc e1
      exact ⟨q, e1, by rw [upd_ne this]; exact e2, e3⟩
theorem Step.updNew {D : Addr} {o : HO} {w w' : Wd} {H H' : Hp} (s : Step w H w' H') (n : H D = none) : Step w H w' (L2.upd H' D o) where
  le := s.le
  keep := fun a u e hc => by rw [upd_ne (ne_of_none e n)]; exact s.keep a u e hc
  fresh := s.fresh
  freshC := s.freshC
  alive := fun a e => by
    by_cases z : a = D
    · subst z; exact absurd n e
    · rw [upd_ne z]; exact s.alive a e
/-- it becomes known -/
theorem Step.show_ {D : Addr} {o : HO} {w w' : Wd} {H H' : Hp} (s : Step w H w' H') (n : H D = none) (x : Hid D o w' H') : Step w H (w'.put D o) H' where
  le := s.le.trans (Wd.le_put x.f)
  keep := s.keep
  fresh := fun a e => by
    by_cases z : a = D
    · subst z; exact .inr n
    · have : L2.upd w'.F D o a ≠ none := e
      rw [upd_ne z] at this
      exact s.fresh a this
  freshC := s.freshC
  alive := s.alive
theorem At.show_ {D : Addr} {o : HO} {w : Wd} {c : C} {H : Hp} (a : At w c H) (x : Hid D o w H) : At (w.put D o) c H where
  F := fun p u e => by
    by_cases z : p = D
    · subst z
      have e' : L2.upd w.F p o p = some u := e
      rw [upd_same] at e'; cases e'; exact x.h
    · have e' : L2.upd w.F D o p = some u := e
      rw [upd_ne z] at e'; exact a.F p u e'
  cup := by
    cases c with
    | none => exact a.cup
    | some ab =>
      obtain ⟨q, e1, e2, e3⟩ := a.cup
      have : q ≠ D := fun z => by subst z; exact x.c e1
      exact ⟨q, e1, e2, by show L2.upd w.F D o q = none; rw [upd_ne this]; exact e3⟩
theorem Step.back {w w' : Wd} {H H' : Hp} (s : Step w H w' H') {p : Addr} (n : H' p = none) : H p = none := by
  cases e : H p with
  | none => rfl
  | some o => exact absurd n (s.alive p (by rw [e]; exact fun z => nomatch z))
section
variable {K : PySem.W.Frag} {ex : Str → Option (Addr × Str)}
def D.isL : D → Bool
  | .lst _ => true
  | _ => false
/-- what comes out is wanted; a list that comes out is a new one, that no datum knows -/
def OutN (K : PySem.W.Frag) (ex : Str → Option (Addr × Str)) (w : Wd) (H : Hp) (r : R D) (Q : VK) (Z : XK) : Prop :=
  match r with
  | .ok (.lst ds) c => ∀ p xs w' H', Step w H w' H' → At w' c H' → H p = none → Hid p (.lst xs) w' H' → Reps K w' xs ds → Q (.ref p) H'
  | r => Out K ex (Rep K) w H r Q Z
theorem Out.toN {w : Wd} {H : Hp} {r : R D} {Q : VK} {Z : XK} (h : Out K ex (Rep K) w H r Q Z) : OutN K ex w H r Q Z := by
  unfold OutN
  split
  · intro p xs w' H' s a n x r
    exact h _ _ _ (s.show_ n x) (a.show_ x) (.lst Wd.put_same (r.mono (Wd.le_put x.f)))
  · exact h
theorem OutN.step {w w1 : Wd} {H H1 : Hp} {r : R D} {Q : VK} {Z : XK} (s : Step w H w1 H1) (h : OutN K ex w H r Q Z) : OutN K ex w1 H1 r Q Z := by
  unfold OutN at h ⊢
  split at h
  · exact fun p xs w' H' s' a n x r => h p xs w' H' (s.trans s') a (s.back n) x r
  · exact Out.step s h
theorem OutN.bind {γ δ : Type} {rep' : Wd → δ → γ → Prop} {w : Wd} {H : Hp} {r : R γ} {f : γ → C → R D} {Q : VK} {Z : XK} (h : OutN K ex w H (r.bind f) Q Z) :
    Out K ex rep' w H r (fun v H1 => ∃ d c1 w1, r = .ok d c1 ∧ Step w H w1 H1 ∧ At w1 c1 H1 ∧ rep' w1 v d ∧ OutN K ex w1 H1 (f d c1) Q Z) Z := by
  cases r with
  | ok d c => exact fun v w' H' s a q => ⟨d, c, w', rfl, s, a, q, OutN.step s h⟩
  | ex x c => exact h
  | no => exact h
theorem OutN.ofO {w : Wd} {H : Hp} {o : Option D} {c : C} {Q : VK} {Z : XK} (h : OutN K ex w H (R.of o c) Q Z) : ∃ d, o = some d ∧ OutN K ex w H (.ok d c) Q Z := by
  cases o with
  | some d => exact ⟨d, rfl, h⟩
  | none => exact False.elim h
theorem OutN.ok {w : Wd} {c : C} {H : Hp} {d : D} {v : V} {Q : VK} {Z : XK} (h : OutN K ex w H (.ok d c) Q Z) (a : At w c H) (r : Rep K w v d) (hd : D.isL d = false := by rfl) : Q v H := by
  cases d <;> first | (cases hd; done) | exact Out.ok (K := K) (ex := ex) (Z := Z) (rep := Rep K) h a r
theorem OutN.newL {w : Wd} {c : C} {H : Hp} {ds : List D} {xs : List V} {Q : VK} {Z : XK} (h : OutN K ex w H (.ok (.lst ds) c) Q Z) (a : At w c H) (r : Reps K w xs ds) : ∀ p, H p = none → Q (.ref p) (upd H p (.lst xs)) := fun p n =>
  h p xs w (upd H p (.lst xs)) ((Step.refl w H).updNew n) (a.hid (a.nof n) (a.cup.ne n)) n (Hid.new a n) r
theorem OutN.newT {w : Wd} {c : C} {H : Hp} {ds : List D} {xs : List V} {Q : VK} {Z : XK} (h : OutN K ex w H (.ok (.tup ds) c) Q Z) (a : At w c H) (r : Reps K w xs ds) : ∀ p, H p = none → Q (.ref p) (upd H p (.tup xs)) := fun p n =>
  Out.new (K := K) (ex := ex) (Z := Z) (rep := Rep K) h a n (.tup (.inl (.inl Wd.put_same)) (r.mono (Wd.le_put (a.nof n))))
theorem OutN.elim {w : Wd} {H : Hp} {Q : VK} {Z : XK} {p : Prop} (h : OutN K ex w H .no Q Z) : p := False.elim h
end
end Ev

set_option Elab.async false
set_option linter.all false
set_option maxRecDepth 100000
set_option maxHeartbeats 2000000
/-! The interpreter's expressions are the text's. -/
namespace Ev
open PySem L2

mutual
def uses : E → Nat → Bool
  | .v i, n => i == n
  | .c _, _ => false
  | .gl _, _ => false
  | .bin _ a b, n => uses a n || uses b n
  | .neg a, n => uses a n
  | .cmp _ a b, n => uses a n || uses b n
  | .chain _ _ a b e, n => uses a n || (uses b n || uses e n)
  | .and a b, n => uses a n || uses b n
  | .or a b, n => uses a n || uses b n
  | .not a, n => uses a n
  | .ite t a b, n => uses t n || (uses a n || uses b n)
  | .tup es, n => usesEs es n
  | .lst es, n => usesEs es n
  | .ix a b, n => uses a n || uses b n
  | .ixc a _, n => uses a n
  | .sl a lo hi, n => uses a n || (usesO lo n || usesO hi n)
  | .rv a, n => uses a n
  | .call _ es, n => usesEs es n
  | .bi _ es, n => usesEs es n
  | .isi a _, n => uses a n
  | .comp _ it _ f e, n => usesI it n || (usesO f n || uses e n)
  | .comp2 _ it _ f it2 _ f2 e, n => usesI it n || (usesO f n || (usesI it2 n || (usesO f2 n || uses e n)))
  | .listR it, n => usesI it n
  | .tupR it, n => usesI it n
def usesEs : Es → Nat → Bool
  | .nil, _ => false
  | .cons e es, n => uses e n || usesEs es n
def usesO : Eo → Nat → Bool
  | .non, _ => false
  | .som e, n => uses e n
def usesI : It → Nat → Bool
  | .of e, n => uses e n
  | .r1 a, n => uses a n
  | .r2 a b, n => uses a n || uses b n
  | .r3 a b c, n => uses a n || (uses b n || uses c n)
  | .zip a b, n => uses a n || uses b n
  | .enum a, n => uses a n
end

/-- the slots that are asked hold what the interpreter says -/
structure RepEnv (K : PySem.W.Frag) (w : Wd) (σ : St) (env : Env) (U : Nat → Bool) : Prop where
  len : env.length ≤ σ.length
  get : ∀ i d, U i = true → Env.at env i = some d → ∃ v, σ[i]? = some (some v) ∧ Rep K w v d
theorem RepEnv.mono {K : PySem.W.Frag} {w w' : Wd} {σ : St} {env : Env} {U U' : Nat → Bool} (h : RepEnv K w σ env U) (l : w.le w') (hu : ∀ i, U' i = true → U i = true) : RepEnv K w' σ env U' := ⟨h.len, fun i d u e => by
  obtain ⟨v, e1, r⟩ := h.get i d (hu i u) e
  exact ⟨v, e1, r.mono l⟩⟩

/-- the program's names: its defs, its constants, its errors -/
structure Tab where
  fn : List Str
  gn : List Str
  gv : List D
  ex : Str → Option (Addr × Str)

/-- a def's promise -/
def spF (K : PySem.W.Frag) (ex : Str → Option (Addr × Str)) (n : Nat) (f : List D → C → R D) : Sp := fun vs H Q Z =>
  vs.length = n ∧ ∃ w c ds, At w c H ∧ Reps K w vs ds ∧ Out K ex (Rep K) w H (f ds c) Q Z

def blts : List Str := ["len", "int", "abs", "list", "tuple", "sum", "max", "min", "all", "range", "zip", "enumerate", "isinstance", "bool", "str"]
structure Good (T : Tab) (F : Fns) (X : Cx) (W : WX) : Prop where
  calm : X.calm = true
  nd : X.N.Nodup
  tk : Takes X W
  un : X.A.units + 65 < cLine
  fn : ∀ (j : Nat) (x : Str), T.fn[j]? = some x → ∃ (f : Addr) (fd : FuncData) (ps : List Str) (k : Nat), FnOk X.prog X.w X.K X.mg X.base (L2.CX X.prog X.w) k f fd ps (spF X.K T.ex ps.length (F j)) ∧ Room k X.A ∧
    X.mg x = some (.ref f) ∧ PySem.W.keepIn X.K (.ref f) = true ∧ Binds X.K fd ps [] ∧ (∀ ds c, F j ds c ≠ .no → ds.length = ps.length) ∧ (x == ("__debug__" : Str)) = false
  gl : ∀ (j : Nat) (x : Str), T.gn[j]? = some x → ∃ (v : V) (u : Value) (d : D), X.mg x = some u ∧ RelV v u ∧ T.gv[j]? = some d ∧ (∀ w, Rep X.K w v d) ∧ (x == ("__debug__" : Str)) = false
  bt : ∀ x ∈ blts, X.mg x = none

section
variable (K : PySem.W.Frag) (T : Tab) (F : Fns) (W : WX)
/-- the readings -/
def tEv {α β : Type} (rep : Wd → β → α → Prop) (U : Nat → Bool) (run : Env → C → R α) (σ : St) (H : Hp) (Q : β → Hp → Prop) : Prop :=
  ∃ w c env, At w c H ∧ RepEnv K w σ env U ∧ Out K T.ex rep w H (run env c) Q (fun cls d H' => W cls d σ H')
/-- a reading that makes new lists -/
def tNv (U : Nat → Bool) (run : Env → C → R D) (σ : St) (H : Hp) (Q : VK) : Prop :=
  ∃ w c env, At w c H ∧ RepEnv K w σ env U ∧ OutN K T.ex w H (run env c) Q (fun cls d H' => W cls d σ H')
def tN (e : E) : TE := tNv K T W (uses e) (evE F T.gv e)
def tE (e : E) : TE := tEv K T W (Rep K) (uses e) (evE F T.gv e)
def tEs (es : Es) : TA := tEv K T W (Reps K) (usesEs es) (evEs F T.gv es)
def tEo (o : Eo) : TO := tEv K T W (fun _ v d => v = d) (usesO o) (evO F T.gv o)
def asB : D → C → R Bool
  | .bl b, c => .ok b c
  | _, _ => .no
def tT (e : E) : TT := tEv K T W (fun _ v d => v = d) (uses e) (fun env c => (evE F T.gv e env c).bind asB)
def tF (o : Eo) : TT := tEv K T W (fun _ v d => v = d) (usesO o) (evF F T.gv o)
/-- an iterator that gives these items -/
structure Wk (J : L2.It) (w : Wd) (ds : List D) : Prop where
  go : ∀ i H w1 c, w.le w1 → At w1 c H → i < ds.length → J.go i H
  yld : ∀ i H x H' w1 c, w.le w1 → At w1 c H → i < ds.length → J.yld i H x H' → ∃ w2 d, ds[i]? = some d ∧ Step w1 H w2 H' ∧ At w2 c H' ∧ Rep K w2 x d
  stop : ∀ i H w1 c, w.le w1 → At w1 c H → ds.length ≤ i → J.stop i H
def tI (it : It) : TI := tEv K T W (fun w J ds => Wk K J w ds) (usesI it) (evI F T.gv it)
end

/-- a reading, carried through a weaker one -/
theorem PE.imp {X : Cx} {e : Expr} {t t' : TE} (h : PE X e t) (i : ∀ σ H Q, t' σ H Q → t σ H Q) : PE X e t' := ⟨fun pins s σ H Q I q => h.run pins s σ H Q I (i σ H Q q)⟩
theorem PT.imp {X : Cx} {e : Expr} {t t' : TT} (h : PT X e t) (i : ∀ σ H Q, t' σ H Q → t σ H Q) : PT X e t' := ⟨fun pins s σ H Q I q => h.run pins s σ H Q I (i σ H Q q)⟩
theorem PW.imp {X : Cx} {e : Expr} {t t' : TT} (h : PW X e t) (i : ∀ σ H Q, t' σ H Q → t σ H Q) : PW X e t' := ⟨fun wh pins s σ H Q I q => h.run wh pins s σ H Q I (i σ H Q q)⟩
theorem PA.imp {X : Cx} {e : List Expr} {t t' : TA} (h : PA X e t) (i : ∀ σ H Q, t' σ H Q → t σ H Q) : PA X e t' := ⟨fun pos pins s σ H Q I q => h.run pos pins s σ H Q I (i σ H Q q)⟩
theorem PO.imp {X : Cx} {e : Option Expr} {t t' : TO} (h : PO X e t) (i : ∀ σ H Q, t' σ H Q → t σ H Q) : PO X e t' := ⟨fun pins s σ H Q I q => h.run pins s σ H Q I (i σ H Q q)⟩
theorem PI.imp {X : Cx} {tg e : Expr} {t t' : TI} (h : PI X tg e t) (i : ∀ σ H Q, t' σ H Q → t σ H Q) : PI X tg e t' := ⟨fun pins s σ H Q I q => h.run pins s σ H Q I (i σ H Q q)⟩
end Ev

set_option Elab.async false
set_option linter.all false
set_option maxRecDepth 100000
set_option maxHeartbeats 2000000
namespace Ev
open PySem L2
section
variable {K : PySem.W.Frag} {T : Tab} {F : Fns} {W : WX}

/-- one part, then the rest -/
theorem r_one {α β γ δ : Type} {rep : Wd → β → α → Prop} {rep' : Wd → δ → γ → Prop} {U U' : Nat → Bool} {run : Env → C → R γ} {k : Env → γ → C → R α} {σ : St} {H : Hp} {Q : β → Hp → Prop}
    (hu : ∀ i, U' i = true → U i = true) (h : tEv K T W rep U (fun env c => (run env c).bind (k env)) σ H Q) :
    tEv K T W rep' U' run σ H (fun v H1 => ∃ w env d c, At w c H1 ∧ RepEnv K w σ env U ∧ rep' w v d ∧ Out K T.ex rep w H1 (k env d c) Q (fun cls d H' => W cls d σ H')) := by
  obtain ⟨w, c, env, a, r, o⟩ := h
  refine ⟨w, c, env, a, r.mono (.refl w) hu, ?_⟩
  exact (Out.bind (rep' := rep') o).mono fun v H1 ⟨d, c1, w1, _, s, a1, q, o1⟩ => ⟨w1, env, d, c1, a1, r.mono s.le (fun _ u => u), q, o1⟩
/-- one part; what it gives goes on without the state -/
theorem r_un {α β γ δ : Type} {rep : Wd → β → α → Prop} {rep' : Wd → δ → γ → Prop} {U U' : Nat → Bool} {run : Env → C → R γ} {k : γ → C → R α} {σ : St} {H : Hp} {Q : β → Hp → Prop}
    (hu : ∀ i, U' i = true → U i = true) (h : tEv K T W rep U (fun env c => (run env c).bind k) σ H Q) :
    tEv K T W rep' U' run σ H (fun v H1 => ∃ w d c, At w c H1 ∧ rep' w v d ∧ Out K T.ex rep w H1 (k d c) Q (fun cls d H' => W cls d σ H')) := by
  obtain ⟨w, c, env, a, r, o⟩ := r_one (rep' := rep') hu h
  refine ⟨w, c, env, a, r, o.mono ?_⟩
  rintro v H1 ⟨w1, env1, d, c1, a1, _, q, o1⟩
  exact ⟨w1, d, c1, a1, q, o1⟩
/-- two parts -/
theorem r_two {α β γ δ γ' δ' : Type} {rep : Wd → β → α → Prop} {rep1 : Wd → δ → γ → Prop} {rep2 : Wd → δ' → γ' → Prop} {U U1 U2 : Nat → Bool} {run1 : Env → C → R γ} {run2 : Env → C → R γ'} {k : γ → γ' → C → R α} {σ : St} {H : Hp} {Q : β → Hp → Prop}
    (m1 : ∀ {w w' v d}, w.le w' → rep1 w v d → rep1 w' v d) (hu1 : ∀ i, U1 i = true → U i = true) (hu2 : ∀ i, U2 i = true → U i = true)
    (h : tEv K T W rep U (fun env c => (run1 env c).bind fun x c1 => (run2 env c1).bind fun y c2 => k x y c2) σ H Q) :
    tEv K T W rep1 U1 run1 σ H (fun v H1 => tEv K T W rep2 U2 run2 σ H1 fun u H2 => ∃ w x y c, At w c H2 ∧ rep1 w v x ∧ rep2 w u y ∧ Out K T.ex rep w H2 (k x y c) Q (fun cls d H' => W cls d σ H')) := by
  obtain ⟨w, c, env, a, r, o⟩ := h
  refine ⟨w, c, env, a, r.mono (.refl w) hu1, ?_⟩
  refine (Out.bind (rep' := rep1) o).mono fun v H1 ⟨x, c1, w1, _, s, a1, q, o1⟩ => ?_
  refine ⟨w1, c1, env, a1, r.mono s.le hu2, ?_⟩
  exact (Out.bind (rep' := rep2) o1).mono fun u H2 ⟨y, c2, w2, _, s2, a2, q2, o2⟩ => ⟨w2, x, y, c2, a2, m1 s2.le q, q2, o2⟩
theorem hor1 {a b : Nat → Bool} : ∀ i, a i = true → (a i || b i) = true := fun i h => by rw [h]; rfl
theorem hor2 {a b : Nat → Bool} : ∀ i, b i = true → (a i || b i) = true := fun i h => by rw [h]; simp
theorem hid {a : Nat → Bool} : ∀ i, a i = true → a i = true := fun i h => h
theorem Out.ofO {α β : Type} {ex : Str → Option (Addr × Str)} {rep : Wd → β → α → Prop} {w : Wd} {H : Hp} {o : Option α} {c : C} {Q : β → Hp → Prop} {Z : XK} (h : Out K ex rep w H (R.of o c) Q Z) : ∃ d, o = some d ∧ Out K ex rep w H (.ok d c) Q Z := by
  cases o with
  | some d => exact ⟨d, rfl, h⟩
  | none => exact h.elim
theorem tN_tE {e : E} {σ : St} {H : Hp} {Q : VK} (h : tE K T F W e σ H Q) : tN K T F W e σ H Q := by
  obtain ⟨w, c, env, a, r, o⟩ := h
  exact ⟨w, c, env, a, r, o.toN⟩
/-- one part; what it gives goes on without the state -/
theorem r_unN {γ δ : Type} {rep' : Wd → δ → γ → Prop} {U U' : Nat → Bool} {run : Env → C → R γ} {k : γ → C → R D} {σ : St} {H : Hp} {Q : VK}
    (hu : ∀ i, U' i = true → U i = true) (h : tNv K T W U (fun env c => (run env c).bind k) σ H Q) :
    tEv K T W rep' U' run σ H (fun v H1 => ∃ w d c, At w c H1 ∧ rep' w v d ∧ OutN K T.ex w H1 (k d c) Q (fun cls d H' => W cls d σ H')) := by
  obtain ⟨w, c, env, a, r, o⟩ := h
  refine ⟨w, c, env, a, r.mono (.refl w) hu, ?_⟩
  exact (OutN.bind (rep' := rep') o).mono fun v H1 ⟨d, c1, w1, _, s, a1, q, o1⟩ => ⟨w1, d, c1, a1, q, o1⟩
/-- two parts -/
theorem r_twoN {γ δ γ' δ' : Type} {rep1 : Wd → δ → γ → Prop} {rep2 : Wd → δ' → γ' → Prop} {U U1 U2 : Nat → Bool} {run1 : Env → C → R γ} {run2 : Env → C → R γ'} {k : γ → γ' → C → R D} {σ : St} {H : Hp} {Q : VK}
    (m1 : ∀ {w w' v d}, w.le w' → rep1 w v d → rep1 w' v d) (hu1 : ∀ i, U1 i = true → U i = true) (hu2 : ∀ i, U2 i = true → U i = true)
    (h : tNv K T W U (fun env c => (run1 env c).bind fun x c1 => (run2 env c1).bind fun y c2 => k x y c2) σ H Q) :
    tEv K T W rep1 U1 run1 σ H (fun v H1 => tEv K T W rep2 U2 run2 σ H1 fun u H2 => ∃ w x y c, At w c H2 ∧ rep1 w v x ∧ rep2 w u y ∧ OutN K T.ex w H2 (k x y c) Q (fun cls d H' => W cls d σ H')) := by
  obtain ⟨w, c, env, a, r, o⟩ := h
  refine ⟨w, c, env, a, r.mono (.refl w) hu1, ?_⟩
  refine (OutN.bind (rep' := rep1) o).mono fun v H1 ⟨x, c1, w1, _, s, a1, q, o1⟩ => ?_
  refine ⟨w1, c1, env, a1, r.mono s.le hu2, ?_⟩
  exact (OutN.bind (rep' := rep2) o1).mono fun u H2 ⟨y, c2, w2, _, s2, a2, q2, o2⟩ => ⟨w2, x, y, c2, a2, m1 s2.le q, q2, o2⟩
/-- what a datum's value is -/
theorem Rep.intV {w : Wd} {v : V} {i : Int} (h : Rep K w v (.int i)) : v = .int i := by cases h; rfl
theorem Rep.blV {w : Wd} {v : V} {i : Bool} (h : Rep K w v (.bl i)) : v = .bl i := by cases h; rfl
theorem Rep.strV {w : Wd} {v : V} {i : Str} (h : Rep K w v (.str i)) : v = .str i := by cases h; rfl
theorem Rep.nonV {w : Wd} {v : V} (h : Rep K w v .non) : v = .non := by cases h; rfl
theorem Rep.tupV {w : Wd} {v : V} {ds : List D} (h : Rep K w v (.tup ds)) : ∃ a xs, v = .ref a ∧ SqT K w.F a xs ∧ Reps K w xs ds := by cases h with | tup s r => exact ⟨_, _, rfl, s, r⟩
theorem Rep.lstV {w : Wd} {v : V} {ds : List D} (h : Rep K w v (.lst ds)) : ∃ a xs, v = .ref a ∧ w.F a = some (.lst xs) ∧ Reps K w xs ds := by cases h with | lst s r => exact ⟨_, _, rfl, s, r⟩
theorem At.tup {w : Wd} {c : C} {H : Hp} (h : At w c H) {a : Addr} {xs : List V} (s : SqT K w.F a xs) : SqT K H a xs := sqT_mono h.F s
theorem At.lst {w : Wd} {c : C} {H : Hp} (h : At w c H) {a : Addr} {xs : List V} (s : w.F a = some (.lst xs)) : SqL K H a xs := .inl (.inl (h.F _ _ s))
/-- a new list, a new tuple comes out -/
theorem Out.newL {ex : Str → Option (Addr × Str)} {w : Wd} {c : C} {H : Hp} {ds : List D} {xs : List V} {Q : VK} {Z : XK} (h : Out K ex (Rep K) w H (.ok (.lst ds) c) Q Z) (a : At w c H) (r : Reps K w xs ds) : ∀ p, H p = none → Q (.ref p) (upd H p (.lst xs)) := fun p n =>
  h.new a n (.lst Wd.put_same (r.mono (Wd.le_put (a.nof n))))
theorem Out.newT {ex : Str → Option (Addr × Str)} {w : Wd} {c : C} {H : Hp} {ds : List D} {xs : List V} {Q : VK} {Z : XK} (h : Out K ex (Rep K) w H (.ok (.tup ds) c) Q Z) (a : At w c H) (r : Reps K w xs ds) : ∀ p, H p = none → Q (.ref p) (upd H p (.tup xs)) := fun p n =>
  h.new a n (.tup (.inl (.inl Wd.put_same)) (r.mono (Wd.le_put (a.nof n))))

/-! ### operators by values -/
theorem OpR.imp {X : Cx} {f : Value → Value → Sem Value} {r r' : R2} (h : OpR X f r) (i : ∀ x y H Q, r' x y H Q → r x y H Q) : OpR X f r' := fun pins s σ H x y v u Q I rx ry q => h pins s σ H x y v u Q I rx ry (i _ _ _ _ q)
/-- what an operator's interpreter asks -/
def rD (K : PySem.W.Frag) (ex : Str → Option (Addr × Str)) (f : D → D → Option D) : R2 := fun v u H Q => ∃ w x y c Z, At w c H ∧ Rep K w v x ∧ Rep K w u y ∧ OutN K ex w H (R.of (f x y) c) Q Z
theorem small_lim {n : Nat} (h : n ≤ lim) : n ≤ sizeLine := Nat.le_trans h lim_le
variable {X : Cx} {ex : Str → Option (Addr × Str)}
theorem op_addD : OpR X (binaryOp .Add) (rD X.K ex (binD .add)) := by
  refine OpR.imp (OpR.or op_add (OpR.or op_cat op_catA)) ?_
  rintro v u H Q ⟨w, x, y, c, Z, a, r1, r2, o⟩
  obtain ⟨d, e, o⟩ := o.ofO
  unfold binD at e
  split at e <;> try (cases e; done)
  all_goals first | (rename_i h; cases h; done) | skip
  all_goals simp only [reduceCtorEq] at *
  · cases e
    cases r1; cases r2
    exact .inl ⟨_, _, rfl, rfl, o.ok a (.int _)⟩
  · split at e
    · rename_i hl
      cases e
      obtain ⟨p, xs, rfl, s1, q1⟩ := r1.lstV
      obtain ⟨p2, ys, rfl, s2, q2⟩ := r2.lstV
      refine .inr (.inl ⟨p, p2, xs, ys, rfl, rfl, a.F _ _ s1, a.F _ _ s2, ?_, o.newL a (q1.append q2)⟩)
      rw [q1.length, q2.length]; exact small_lim hl
    · cases e
  · split at e
    · rename_i hl
      cases e
      obtain ⟨p, xs, rfl, s1, q1⟩ := r1.tupV
      obtain ⟨p2, ys, rfl, s2, q2⟩ := r2.tupV
      refine .inr (.inr ⟨p, p2, xs, ys, rfl, rfl, a.tup s1, a.tup s2, ?_, fun e => ?_, fun _ e => ?_, fun _ _ => o.newT a (q1.append q2)⟩)
      · rw [q1.length, q2.length]; exact small_lim hl
      · subst e
        have q3 := q1.append q2
        exact o.ok a (.tup s2 q3)
      · subst e
        have q3 := q1.append q2
        rw [List.append_nil] at q3
        exact o.ok a (.tup s1 q3)
    · cases e
theorem op_subD : OpR X (binaryOp .Sub) (rD X.K ex (binD .sub)) := by
  refine OpR.imp op_sub ?_
  rintro v u H Q ⟨w, x, y, c, Z, a, r1, r2, o⟩
  obtain ⟨d, e, o⟩ := o.ofO
  unfold binD at e
  split at e <;> try (cases e; done)
  all_goals first | (rename_i h; cases h; done) | skip
  all_goals simp only [reduceCtorEq] at *
  cases e
  cases r1; cases r2
  exact ⟨_, _, rfl, rfl, o.ok a (.int _)⟩
theorem abs_lt {i : Int} (h : i.natAbs < 2 ^ 64) : -(2 ^ 64) < i ∧ i < 2 ^ 64 := by
  have e : ((2 ^ 64 : Nat) : Int) = 2 ^ 64 := by decide
  have e2 : (2 ^ 64 : Nat) = 18446744073709551616 := by decide
  rw [e2] at h
  constructor
  · show -(18446744073709551616 : Int) < i; omega
  · show i < (18446744073709551616 : Int); omega
theorem op_mulD : OpR X (binaryOp .Mult) (rD X.K ex (binD .mul)) := by
  refine OpR.imp (OpR.or op_mul (OpR.or op_mulW (OpR.or op_rep op_repT))) ?_
  rintro v u H Q ⟨w, x, y, c, Z, a, r1, r2, o⟩
  obtain ⟨d, e, o⟩ := o.ofO
  unfold binD at e
  split at e <;> try (cases e; done)
  all_goals first | (rename_i h; cases h; done) | skip
  all_goals simp only [reduceCtorEq] at *
  · split at e
    · rename_i i j _ _ _ hm
      cases e
      cases r1; cases r2
      have q := o.ok a (.int _)
      unfold mulOk at hm
      simp only [Bool.or_eq_true, decide_eq_true_eq] at hm
      rcases hm with (hm | hm) | hm
      · exact .inl ⟨_, _, rfl, rfl, .inl (abs_lt hm), q⟩
      · exact .inl ⟨_, _, rfl, rfl, .inr (abs_lt hm), q⟩
      · exact .inr (.inl ⟨_, _, rfl, rfl, hm, q⟩)
    · cases e
  · split at e
    · rename_i hl
      cases e
      obtain ⟨p, xs, rfl, s1, q1⟩ := r1.lstV
      cases r2
      simp only [Bool.and_eq_true, decide_eq_true_eq] at hl
      refine .inr (.inr (.inl ⟨p, _, xs, rfl, rfl, a.F _ _ s1, hl.1.1, hl.1.2, ?_, o.newL a (q1.rep _)⟩))
      rw [q1.length]; exact small_lim hl.2
    · cases e
  · split at e
    · rename_i hl
      cases e
      obtain ⟨p, xs, rfl, s1, q1⟩ := r1.tupV
      cases r2
      simp only [Bool.and_eq_true, decide_eq_true_eq] at hl
      obtain ⟨⟨⟨h1, h2⟩, h3⟩, h4⟩ := hl
      refine .inr (.inr (.inr ⟨p, _, xs, rfl, rfl, a.tup s1, ?_, h2, h3, by rw [q1.length]; exact h4, o.newT a (q1.rep _)⟩))
      rintro rfl
      cases q1
      simp at h1
    · cases e
theorem op_fdivD : OpR X (binaryOp .FloorDiv) (rD X.K ex (binD .fdiv)) := by
  refine OpR.imp op_fdivW ?_
  rintro v u H Q ⟨w, x, y, c, Z, a, r1, r2, o⟩
  obtain ⟨d, e, o⟩ := o.ofO
  unfold binD at e
  split at e <;> try (cases e; done)
  all_goals first | (rename_i h; cases h; done) | skip
  all_goals simp only [reduceCtorEq] at *
  split at e
  · rename_i hl
    cases e
    cases r1; cases r2
    unfold divOk at hl
    simp only [Bool.and_eq_true, decide_eq_true_eq] at hl
    exact ⟨_, _, rfl, rfl, hl, o.ok a (.int _)⟩
  · cases e
theorem op_modD : OpR X (binaryOp .Mod) (rD X.K ex (binD .mod)) := by
  refine OpR.imp op_modN ?_
  rintro v u H Q ⟨w, x, y, c, Z, a, r1, r2, o⟩
  obtain ⟨d, e, o⟩ := o.ofO
  unfold binD at e
  split at e <;> try (cases e; done)
  all_goals first | (rename_i h; cases h; done) | skip
  all_goals simp only [reduceCtorEq] at *
  split at e
  · rename_i hl
    cases e
    cases r1; cases r2
    exact ⟨_, _, rfl, rfl, of_decide_eq_true hl, o.ok a (.int _)⟩
  · cases e
theorem op_powD : OpR X (binaryOp .Pow) (rD X.K ex (binD .pow)) := by
  refine OpR.imp op_pow ?_
  rintro v u H Q ⟨w, x, y, c, Z, a, r1, r2, o⟩
  obtain ⟨d, e, o⟩ := o.ofO
  unfold binD at e
  split at e <;> try (cases e; done)
  all_goals first | (rename_i h; cases h; done) | skip
  all_goals simp only [reduceCtorEq] at *
  split at e
  · rename_i hl
    cases e
    cases r1; cases r2
    simp only [Bool.and_eq_true, decide_eq_true_eq] at hl
    exact ⟨_, _, rfl, rfl, ⟨hl.1.1, Int.le_trans hl.1.2 (by decide), hl.2⟩, o.ok a (.int _)⟩
  · cases e
def opB : Operator → Option Bop
  | .Add => some .add
  | .Sub => some .sub
  | .Mult => some .mul
  | .FloorDiv => some .fdiv
  | .Mod => some .mod
  | .Pow => some .pow
  | _ => none
theorem op_binD {o : Operator} {b : Bop} (h : opB o = some b) : OpR X (binaryOp o) (rD X.K ex (binD b)) := by
  cases o <;> simp only [opB, Option.some.injEq, reduceCtorEq] at h <;> subst h
  · exact op_addD
  · exact op_subD
  · exact op_mulD
  · exact op_modD
  · exact op_powD
  · exact op_fdivD

/-! ### comparisons -/
mutual
theorem Rep.dp {w : Wd} {H : Hp} (hf : ∀ a o, w.F a = some o → H a = some o) : ∀ {v : V} {d : D}, Rep X.K w v d → d.dep ≠ none → Dp X.K H v d.py
  | _, _, .non, _ => .non
  | _, _, .bl b, _ => .bl b
  | _, _, .int i, _ => .int i
  | _, _, .str s, _ => .str s
  | _, .tup ds, .tup s r, h => .tup (sqT_mono hf s) (Reps.dps hf r (fun e => h (by show (D.deps ds).map (· + 1) = none; rw [e]; rfl)))
  | _, .lst ds, .lst s r, h => .lst (.inl (.inl (hf _ _ s))) (Reps.dps hf r (fun e => h (by show (D.deps ds).map (· + 1) = none; rw [e]; rfl)))
  | _, _, .cup e, h => (h rfl).elim
  | _, _, .scr s, h => (h rfl).elim
theorem Reps.dps {w : Wd} {H : Hp} (hf : ∀ a o, w.F a = some o → H a = some o) : ∀ {v : List V} {d : List D}, Reps X.K w v d → D.deps d ≠ none → DpAll X.K H v (D.pys d)
  | _, _, .nil, _ => .nil
  | _, _, .cons (d := d) (ds := ds) r s, h => .cons (Rep.dp hf r (fun e => h (by show (match D.dep d, D.deps ds with | some a, some b => some (max a b) | _, _ => none) = none; rw [e])))
      (Reps.dps hf s (fun e => h (by show (match D.dep d, D.deps ds with | some a, some b => some (max a b) | _, _ => none) = none; rw [e]; cases D.dep d <;> rfl)))
end
mutual
theorem D.eq_py : ∀ x y : D, x.dep ≠ none → y.dep ≠ none → D.eq x y = PyData.eqv x.py y.py
  | .cup, _, h, _ => (h rfl).elim
  | .scr _, _, h, _ => (h rfl).elim
  | .non, y, _, h => by cases y <;> first | rfl | exact (h rfl).elim
  | .bl _, y, _, h => by cases y <;> first | rfl | exact (h rfl).elim
  | .int _, y, _, h => by cases y <;> first | rfl | exact (h rfl).elim
  | .str _, y, _, h => by cases y <;> first | rfl | exact (h rfl).elim
  | .tup xs, y, hx, h => by
    cases y with
    | tup ys => exact D.eqs_py xs ys (fun e => hx (by show (D.deps xs).map (· + 1) = none; rw [e]; rfl)) (fun e => h (by show (D.deps ys).map (· + 1) = none; rw [e]; rfl))
    | cup => exact (h rfl).elim
    | scr _ => exact (h rfl).elim
    | _ => rfl
  | .lst xs, y, hx, h => by
    cases y with
    | lst ys => exact D.eqs_py xs ys (fun e => hx (by show (D.deps xs).map (· + 1) = none; rw [e]; rfl)) (fun e => h (by show (D.deps ys).map (· + 1) = none; rw [e]; rfl))
    | cup => exact (h rfl).elim
    | scr _ => exact (h rfl).elim
    | _ => rfl
theorem D.eqs_py : ∀ x y : List D, D.deps x ≠ none → D.deps y ≠ none → D.eqs x y = PyData.eqvAll (D.pys x) (D.pys y)
  | [], [], _, _ => rfl
  | [], _ :: _, _, _ => rfl
  | _ :: _, [], _, _ => rfl
  | x :: xs, y :: ys, hx, hy => by
    have h1 : x.dep ≠ none := fun e => hx (by show (match D.dep x, D.deps xs with | some a, some b => some (max a b) | _, _ => none) = none; rw [e])
    have h2 : y.dep ≠ none := fun e => hy (by show (match D.dep y, D.deps ys with | some a, some b => some (max a b) | _, _ => none) = none; rw [e])
    have h3 : D.deps xs ≠ none := fun e => hx (by show (match D.dep x, D.deps xs with | some a, some b => some (max a b) | _, _ => none) = none; rw [e]; cases D.dep x <;> rfl)
    have h4 : D.deps ys ≠ none := fun e => hy (by show (match D.dep y, D.deps ys with | some a, some b => some (max a b) | _, _ => none) = none; rw [e]; cases D.dep y <;> rfl)
    show (D.eq x y && D.eqs xs ys) = (PyData.eqv x.py y.py && PyData.eqvAll (D.pys xs) (D.pys ys))
    rw [D.eq_py x y h1 h2, D.eqs_py xs ys h3 h4]
end
mutual
theorem D.py_lay : ∀ (x : D) (n : Nat), x.dep = some n → x.py.canLay0 = true ∧ x.py.depth ≤ n
  | .non, _, _ => by simp [D.py, PyData.canLay0, PyData.depth]
  | .bl _, _, _ => by simp [D.py, PyData.canLay0, PyData.depth]
  | .int _, _, _ => by simp [D.py, PyData.canLay0, PyData.depth]
  | .str s, n, e => by
    simp only [D.dep] at e
    split at e
    · rename_i h
      simp only [D.py, PyData.canLay0, PyData.depth, h]
      exact ⟨trivial, Nat.zero_le _⟩
    · cases e
  | .cup, _, e => by simp only [D.dep, reduceCtorEq] at e
  | .scr _, _, e => by simp only [D.dep, reduceCtorEq] at e
  | .tup xs, n, e => by
    simp only [D.dep, Option.map_eq_some_iff] at e
    obtain ⟨m, em, rfl⟩ := e
    have ⟨h1, h2⟩ := D.pys_lay xs m em
    refine ⟨by simp only [D.py, PyData.canLay0]; exact h1, ?_⟩
    simp only [D.py, PyData.depth]; omega
  | .lst xs, n, e => by
    simp only [D.dep, Option.map_eq_some_iff] at e
    obtain ⟨m, em, rfl⟩ := e
    have ⟨h1, h2⟩ := D.pys_lay xs m em
    refine ⟨by simp only [D.py, PyData.canLay0]; exact h1, ?_⟩
    simp only [D.py, PyData.depth]; omega
theorem D.pys_lay : ∀ (x : List D) (n : Nat), D.deps x = some n → PyData.canLayAll0 (D.pys x) = true ∧ PyData.depthAll (D.pys x) ≤ n
  | [], _, _ => by simp [D.pys, PyData.canLayAll0, PyData.depthAll]
  | x :: xs, n, e => by
    simp only [D.deps] at e
    split at e
    · rename_i a b ea eb
      cases e
      have ⟨h1, h2⟩ := D.py_lay x a ea
      have ⟨h3, h4⟩ := D.pys_lay xs b eb
      refine ⟨by simp only [D.pys, PyData.canLayAll0, h1, h3, Bool.and_true], ?_⟩
      simp only [D.pys, PyData.depthAll]; omega
    · cases e
end
theorem D.okEq_dep {d : D} (h : d.okEq = true) : d.dep ≠ none ∧ SeqAt.shaped d.py = true := by
  unfold D.okEq at h
  split at h
  · rename_i n e
    have ⟨h1, h2⟩ := D.py_lay d n e
    have hn := of_decide_eq_true h
    refine ⟨fun z => ?_, ?_⟩
    · rw [e] at z; cases z
    · unfold SeqAt.shaped
      rw [h1]
      simp only [Bool.true_and, decide_eq_true_eq]; omega
  · cases h
theorem op_eqDD (hu : X.A.units + 64 < cLine) : OpR X (compareOp .Eq) (rD X.K ex (cmpD .eq)) := by
  refine OpR.imp (op_eqD hu) ?_
  rintro v u H Q ⟨w, x, y, c, Z, a, r1, r2, o⟩
  obtain ⟨d, e, o⟩ := o.ofO
  simp only [cmpD] at e
  split at e
  · rename_i h
    cases e
    simp only [Bool.and_eq_true] at h
    have ⟨n1, s1⟩ := D.okEq_dep h.1
    have ⟨n2, s2⟩ := D.okEq_dep h.2
    refine ⟨_, _, r1.dp a.F n1, r2.dp a.F n2, s1, s2, ?_⟩
    rw [← D.eq_py x y n1 n2]
    exact o.ok a (.bl _)
  · cases e
theorem op_neDD (hu : X.A.units + 64 < cLine) : OpR X (compareOp .NotEq) (rD X.K ex (cmpD .ne)) := by
  refine OpR.imp (op_neD hu) ?_
  rintro v u H Q ⟨w, x, y, c, Z, a, r1, r2, o⟩
  obtain ⟨d, e, o⟩ := o.ofO
  simp only [cmpD] at e
  split at e
  · rename_i h
    cases e
    simp only [Bool.and_eq_true] at h
    have ⟨n1, s1⟩ := D.okEq_dep h.1
    have ⟨n2, s2⟩ := D.okEq_dep h.2
    refine ⟨_, _, r1.dp a.F n1, r2.dp a.F n2, s1, s2, ?_⟩
    rw [← D.eq_py x y n1 n2]
    exact o.ok a (.bl _)
  · cases e
theorem Rep.flatV {w : Wd} {v : V} {d : D} (r : Rep X.K w v d) (h : d.flat = true) : L2.flatV v = true := by
  cases r <;> first | rfl | (simp [D.flat] at h)
theorem Reps.flatV {w : Wd} : ∀ {vs : List V} {ds : List D}, Reps X.K w vs ds → ds.all D.flat = true → vs.all L2.flatV = true
  | _, _, .nil, _ => rfl
  | _, _, .cons r s, h => by
    simp only [List.all_cons, Bool.and_eq_true] at h ⊢
    exact ⟨r.flatV h.1, Reps.flatV s h.2⟩
theorem Rep.eqV {w : Wd} {v u : V} {x y : D} (r : Rep X.K w v x) (r2 : Rep X.K w u y) (h : x.flat = true) (h2 : y.flat = true) : L2.eqV v u = D.eq x y := by
  cases r <;> first | (simp [D.flat] at h; done) | skip
  all_goals (cases r2 <;> first | (simp [D.flat] at h2; done) | skip)
  all_goals first | rfl | (simp [L2.eqV, D.eq])
theorem Reps.inV {w : Wd} {v : V} {x : D} (r : Rep X.K w v x) (h : x.flat = true) : ∀ {vs : List V} {ds : List D}, Reps X.K w vs ds → ds.all D.flat = true → L2.inV v vs = ds.any fun y => D.eq y x
  | _, _, .nil, _ => rfl
  | _, _, .cons r1 s, h1 => by
    simp only [List.all_cons, Bool.and_eq_true] at h1
    have := Reps.inV r h s h1.2
    unfold L2.inV at this ⊢
    rw [List.any_cons, List.any_cons, this, r1.eqV r h1.1 h]
theorem op_inDD : OpR X (compareOp .In) (rD X.K ex (cmpD .inn)) := by
  refine OpR.imp op_in_seq ?_
  rintro v u H Q ⟨w, x, y, c, Z, a, r1, r2, o⟩
  obtain ⟨d, e, o⟩ := o.ofO
  unfold cmpD at e
  split at e <;> try (cases e; done)
  all_goals first | (rename_i h; cases h; done) | skip
  all_goals simp only [reduceCtorEq] at *
  all_goals (
    unfold inD at e
    split at e
    · rename_i ds h
      cases e
      simp only [Bool.and_eq_true] at h
      first
      | (obtain ⟨p, xs, rfl, s1, q1⟩ := r2.tupV
         refine ⟨p, xs, rfl, .inr (a.tup s1), r1.flatV h.1, q1.flatV h.2, ?_⟩
         show Q (.bl (L2.inV v xs)) H
         rw [Reps.inV r1 h.1 q1 h.2]
         exact o.ok a (.bl _))
      | (obtain ⟨p, xs, rfl, s1, q1⟩ := r2.lstV
         refine ⟨p, xs, rfl, .inl (a.lst s1), r1.flatV h.1, q1.flatV h.2, ?_⟩
         show Q (.bl (L2.inV v xs)) H
         rw [Reps.inV r1 h.1 q1 h.2]
         exact o.ok a (.bl _))
    · cases e)
theorem op_notinDD : OpR X (compareOp .NotIn) (rD X.K ex (cmpD .notin)) := by
  refine OpR.imp op_notIn_seq ?_
  rintro v u H Q ⟨w, x, y, c, Z, a, r1, r2, o⟩
  obtain ⟨d, e, o⟩ := o.ofO
  unfold cmpD at e
  split at e <;> try (cases e; done)
  all_goals first | (rename_i h; cases h; done) | skip
  all_goals simp only [reduceCtorEq] at *
  all_goals (
    unfold inD at e
    split at e
    · rename_i ds h
      cases e
      simp only [Bool.and_eq_true] at h
      first
      | (obtain ⟨p, xs, rfl, s1, q1⟩ := r2.tupV
         refine ⟨p, xs, rfl, .inr (a.tup s1), r1.flatV h.1, q1.flatV h.2, ?_⟩
         show Q (.bl (!L2.inV v xs)) H
         rw [Reps.inV r1 h.1 q1 h.2]
         exact o.ok a (.bl _))
      | (obtain ⟨p, xs, rfl, s1, q1⟩ := r2.lstV
         refine ⟨p, xs, rfl, .inl (a.lst s1), r1.flatV h.1, q1.flatV h.2, ?_⟩
         show Q (.bl (!L2.inV v xs)) H
         rw [Reps.inV r1 h.1 q1 h.2]
         exact o.ok a (.bl _))
    · cases e)
theorem op_isNDD : OpR X (compareOp .Is) (rD X.K ex (cmpD .isN)) := by
  refine OpR.imp op_isN ?_
  rintro v u H Q ⟨w, x, y, c, Z, a, r1, r2, o⟩
  obtain ⟨d, e, o⟩ := o.ofO
  unfold cmpD at e
  split at e <;> try (cases e; done)
  all_goals first | (rename_i h; cases h; done) | skip
  all_goals simp only [reduceCtorEq] at *
  all_goals (cases e; cases r2; refine ⟨rfl, ?_⟩; cases r1; exact o.ok a (.bl _))
theorem op_notNDD : OpR X (compareOp .IsNot) (rD X.K ex (cmpD .notN)) := by
  refine OpR.imp op_notN ?_
  rintro v u H Q ⟨w, x, y, c, Z, a, r1, r2, o⟩
  obtain ⟨d, e, o⟩ := o.ofO
  unfold cmpD at e
  split at e <;> try (cases e; done)
  all_goals first | (rename_i h; cases h; done) | skip
  all_goals simp only [reduceCtorEq] at *
  all_goals (cases e; cases r2; refine ⟨rfl, ?_⟩; cases r1; exact o.ok a (.bl _))
theorem op_ordDD {o : CmpOp} {b : Cop} (h : (o = .Lt ∧ b = .lt) ∨ (o = .LtE ∧ b = .le) ∨ (o = .Gt ∧ b = .gt) ∨ (o = .GtE ∧ b = .ge)) : OpR X (compareOp o) (rD X.K ex (cmpD b)) := by
  rcases h with ⟨rfl, rfl⟩ | ⟨rfl, rfl⟩ | ⟨rfl, rfl⟩ | ⟨rfl, rfl⟩
  · refine OpR.imp op_lt ?_
    rintro v u H Q ⟨w, x, y, c, Z, a, r1, r2, o⟩
    obtain ⟨d, e, o⟩ := o.ofO
    unfold cmpD at e
    split at e <;> try (cases e; done)
    all_goals first | (rename_i h; cases h; done) | skip
    all_goals simp only [reduceCtorEq] at *
    cases e; cases r1; cases r2; exact ⟨_, _, rfl, rfl, o.ok a (.bl _)⟩
  · refine OpR.imp op_le ?_
    rintro v u H Q ⟨w, x, y, c, Z, a, r1, r2, o⟩
    obtain ⟨d, e, o⟩ := o.ofO
    unfold cmpD at e
    split at e <;> try (cases e; done)
    all_goals first | (rename_i h; cases h; done) | skip
    all_goals simp only [reduceCtorEq] at *
    cases e; cases r1; cases r2; exact ⟨_, _, rfl, rfl, o.ok a (.bl _)⟩
  · refine OpR.imp op_gt ?_
    rintro v u H Q ⟨w, x, y, c, Z, a, r1, r2, o⟩
    obtain ⟨d, e, o⟩ := o.ofO
    unfold cmpD at e
    split at e <;> try (cases e; done)
    all_goals first | (rename_i h; cases h; done) | skip
    all_goals simp only [reduceCtorEq] at *
    cases e; cases r1; cases r2; exact ⟨_, _, rfl, rfl, o.ok a (.bl _)⟩
  · refine OpR.imp op_ge ?_
    rintro v u H Q ⟨w, x, y, c, Z, a, r1, r2, o⟩
    obtain ⟨d, e, o⟩ := o.ofO
    unfold cmpD at e
    split at e <;> try (cases e; done)
    all_goals first | (rename_i h; cases h; done) | skip
    all_goals simp only [reduceCtorEq] at *
    cases e; cases r1; cases r2; exact ⟨_, _, rfl, rfl, o.ok a (.bl _)⟩
def opC : CmpOp → Option Cop
  | .Eq => some .eq
  | .NotEq => some .ne
  | .Lt => some .lt
  | .LtE => some .le
  | .Gt => some .gt
  | .GtE => some .ge
  | .Is => some .isN
  | .IsNot => some .notN
  | .In => some .inn
  | .NotIn => some .notin
theorem op_cmpD (hu : X.A.units + 64 < cLine) {o : CmpOp} {b : Cop} (h : opC o = some b) : OpR X (compareOp o) (rD X.K ex (cmpD b)) := by
  cases o <;> simp only [opC, Option.some.injEq, reduceCtorEq] at h <;> subst h
  · exact op_eqDD hu
  · exact op_neDD hu
  · exact op_ordDD (.inl ⟨rfl, rfl⟩)
  · exact op_ordDD (.inr (.inl ⟨rfl, rfl⟩))
  · exact op_ordDD (.inr (.inr (.inl ⟨rfl, rfl⟩)))
  · exact op_ordDD (.inr (.inr (.inr ⟨rfl, rfl⟩)))
  · exact op_isNDD
  · exact op_notNDD
  · exact op_inDD
  · exact op_notinDD
end
end Ev

set_option Elab.async false
set_option linter.all false
set_option maxRecDepth 100000
set_option maxHeartbeats 2000000
/-! x[::-1] of tuples -/
namespace Ev
open PySem L2 PyProof.Rows
section
variable {prog : Program} {w : World} {A : Around} {E : Value → Shared → Prop} {s : Shared}
theorem adjust_back (n : Nat) : Builtin.Slice.sliceAdjust none none (-1) (n : Int) = ((n : Int) - 1, -1) := rfl
theorem places_back (n : Nat) : Builtin.Slice.slicePlaces ((n : Int) - 1) (-1) (-1) = n := by
  unfold Builtin.Slice.slicePlaces
  rw [if_neg (by decide)]
  split
  · show (((n : Int) - 1 - -1 - 1) / (- -1) + 1).toNat = n
    rw [show (- -1 : Int) = 1 from rfl, Int.ediv_one]; omega
  · omega
theorem applied_back {sl : Addr} {vl vu vs : Value} {n : Nat} {Q : Int × Int × Nat → Shared → Prop} (hs : s.heap.IsSliceOf sl vl vu vs)
    (pl : IsPart vl none) (pu : IsPart vu none) (ps : IsPart vs (some (-1))) (h : Q ((n : Int) - 1, -1, n) s) :
    wpAny (model prog w) A (Builtin.Slice.sliceApplied (.ref sl) (pure (n : Int))) Q E s := by
  obtain ⟨os, hos, hcs, hds⟩ := id hs
  unfold Builtin.Slice.sliceApplied
  unfold Builtin.Slice.sliceFields
  refine wpAny_bind (wpAny_bind (wpAny_field hos hds (x := vl) rfl (wpAny_bind (wpAny_field hos hds (x := vu) rfl
    (wpAny_bind (wpAny_field hos hds (x := vs) rfl (wpAny_pure ?_)))))))
  refine wpAny_bind (HT.slicePart_ ps ?_)
  show wpAny _ _ (if ((-1 : Int) == 0) = true then _ else _) _ _ s
  rw [if_neg (by decide)]
  refine wpAny_bind (HT.slicePart_ pl (wpAny_bind (HT.slicePart_ pu
    (wpAny_bind (wpAny_pure ?_)))))
  show wpAny _ _ (pure (((n : Int) - 1, (-1 : Int), Builtin.Slice.slicePlaces ((n : Int) - 1) (-1) (-1)) : Int × Int × Nat)) _ _ s
  rw [places_back]
  exact wpAny_pure h
theorem filterMap_some {α β : Type} (f : α → Option β) (g : α → β) : ∀ l : List α, (∀ a ∈ l, f a = some (g a)) → l.filterMap f = l.map g
  | [], _ => rfl
  | a :: l, h => by
    rw [List.filterMap_cons_some (h a List.mem_cons_self), filterMap_some f g l fun b hb => h b (List.mem_cons_of_mem _ hb)]
    rfl
theorem pick_back (xs : Array Value) : ((List.range xs.size).filterMap fun (k : Nat) => xs[(((xs.size : Int) - 1) + (k : Int) * -1).toNat]?).toArray = xs.toList.reverse.toArray := by
  congr 1
  have e : (List.range xs.size).filterMap (fun (k : Nat) => xs[(((xs.size : Int) - 1) + (k : Int) * -1).toNat]?) = (List.range xs.size).map fun k => xs.toList.reverse.getD k .none := by
    refine filterMap_some _ _ _ fun k hk => ?_
    have hk' : k < xs.size := List.mem_range.mp hk
    have e1 : (((xs.size : Int) - 1) + (k : Int) * -1).toNat = xs.size - 1 - k := by omega
    rw [e1, ← Array.getElem?_toList, List.getD_eq_getElem?_getD, List.getElem?_reverse (by simpa using hk')]
    simp only [Array.length_toList]
    rw [List.getElem?_eq_getElem (by simp; omega)]
    rfl
  rw [e]
  apply List.ext_getElem?
  intro i
  rw [List.getElem?_map]
  by_cases hi : i < xs.size
  · rw [List.getElem?_range hi, List.getElem?_eq_getElem (by simpa using hi)]
    simp [List.getD_eq_getElem?_getD, hi]
  · rw [List.getElem?_eq_none (by simpa using hi), List.getElem?_eq_none (by simpa using hi)]
    rfl
theorem getItem_tuple_back {t sl : Addr} {items : Array Value} {vl vu vs : Value} {Q : Value → Shared → Prop} (ht : IsTup s.heap t items)
    (hs : s.heap.IsSliceOf sl vl vu vs) (pl : IsPart vl none) (pu : IsPart vu none) (ps : IsPart vs (some (-1)))
    (h : Q (.ref s.heap.objs.size) { s with heap := s.heap.push { cls := .type "tuple", data := .seq items.toList.reverse.toArray } })
    (hsz : items.size ≤ sizeLine) : wpAny (model prog w) A (getItem (.ref t) (.ref sl)) Q E s := by
  have hz : sizeOk (.seq items.toList.reverse.toArray) := by
    show items.toList.reverse.toArray.size ≤ sizeLine
    simpa using hsz
  obtain ⟨os, hos, hcs, hds⟩ := id hs
  have hTs : s.TypeIs (.ref sl) "slice" := ⟨os, hos, hcs⟩
  unfold getItem
  try with_reducible refine wpAny_holding ?_
  first | refine wpAny_bind (wpAny_pure ?_) | skip
  refine wpAny_bind (wpAny_sequenceKey ht.typeIs (by decide) ?_)
  refine wpAny_bind (wpAny_callSpecial?_slot (name := Str.ofString "__getitem__")
    ht.typeIs PyProof.Rows.slot_tuple_getitem (wpAny_call_entry PyProof.Rows.slot_tuple_getitem ht.typeIs
      PyProof.Rows.entry_tuple_getitem ?_ (PyProof.Rows.args_tuple_getitem _ _)))
  show wpAny _ _ (Builtin.Tuple.tupleItemsOf (Value.ref t) >>= _) _ _ s
  refine wpAny_bind (PyProof.Rows.tupleItemsOf_ ht ?_)
  refine wpAny_bind (wpAny_typeOf hTs ?_)
  rw [if_pos (by decide)]
  refine wpAny_bind (applied_back hs pl pu ps ?_)
  have hno : ¬ ((((items.size : Int) - 1) == 0 && (-1 : Int) == 1 && items.size == items.size) = true) := by
    intro q
    rw [Bool.and_eq_true, Bool.and_eq_true] at q
    exact absurd q.1.2 (by decide)
  show wpAny _ _ (if (((items.size : Int) - 1) == 0 && (-1 : Int) == 1 && items.size == items.size) = true then _ else _) _ _ s
  rw [if_neg hno, pick_back]
  first
    | exact wpAny_bind (m := Builtin.Tuple.tupleExact _) (wpAny_newObj_type (wpAny_pure ⟨_, rfl, wpAny_pure h⟩) hz)
    | exact wpAny_bind (m := Builtin.Tuple.tupleExact _) (wpAny_newObj_type (wpAny_bind (wpAny_pure (wpAny_pure ⟨_, rfl, wpAny_pure h⟩))) hz)
    | exact wpAny_bind (wpAny_bind (m := Builtin.Tuple.tupleExact _) (wpAny_newObj_type (wpAny_pure (wpAny_pure ⟨_, rfl, wpAny_pure h⟩)) hz))
    | exact wpAny_bind (wpAny_bind (m := Builtin.Tuple.tupleExact _) (wpAny_newObj_type (wpAny_pure ⟨_, rfl, wpAny_pure h⟩) hz))
end
/-- x[::-1], a list or a tuple -/
def tRevA (K : PySem.W.Frag) (te : TE) : TE := fun σ H Q => te σ H fun x H1 => ∃ a xs, x = .ref a ∧
  ((SqL K H1 a xs ∧ ∀ p, H1 p = none → Q (.ref p) (upd H1 p (.lst xs.reverse))) ∨ (SqT K H1 a xs ∧ ∀ p, H1 p = none → Q (.ref p) (upd H1 p (.tup xs.reverse))))
theorem pe_revA {X : Cx} {e : Expr} {te : TE} {k : Nat} {p1 p2 p3 pos : Pos} (he : PE X e te) :
    PE X (.Subscript e (.Slice none none (some (.UnaryOp .USub (.Constant (.int 1) k p1) p2)) p3) pos) (tRevA X.K te) := by
  refine ⟨fun pins s σ H Q I h => ?_⟩
  refine Subscript_ (thn (he.run pins s σ H _ I h) fun v s1 ⟨x, H1, I1, r1, q1⟩ => ?_)
  obtain ⟨a, xs, ex, q⟩ := q1
  subst ex
  cases r1
  have hst : PO X (some (.UnaryOp .USub (.Constant (.int 1) k p1) p2)) (tPart (tUn (rU fun i => .int (-i)) (tC (.int 1)))) :=
    po_some (pe_un un_neg pe_int)
  refine wpAny_Slice (thn (po_none.run pins s1 σ H1 (fun o H2 => o = none ∧ H2 = H1) I1 ⟨rfl, rfl⟩)
    fun vl s2 ⟨l, H2, I2, pl, el, e2⟩ => ?_)
  subst el e2
  refine thn (po_none.run pins s2 σ H2 (fun o H3 => o = none ∧ H3 = H2) I2 ⟨rfl, rfl⟩)
    fun vu s3 ⟨u, H3, I3, pu, eu, e3⟩ => ?_
  subst eu e3
  refine thn (hst.run pins s3 σ H3 (fun o H4 => o = some (-1) ∧ H4 = H3) I3 ⟨1, rfl, -1, rfl, rfl, rfl⟩)
    fun vs s4 ⟨o, H4, I4, ps, eo, e4⟩ => ?_
  subst eo e4
  have I5 : Inv X pins σ H4 { s4 with heap := s4.heap.push { cls := .type "slice", data := .fields #[vl, vu, vs] } } :=
    I4.kept (t' := s4.toks) fun b ob q => Heap.get?_push_of_some _ q
  rcases q with ⟨hx, q⟩ | ⟨hx, q⟩
  · obtain ⟨its, r, ht, hz⟩ := I5.list hx
    have hlen := r.length
    show wpAny (model X.prog X.w) X.A (subscriptTail e (.Slice none none (some (.UnaryOp .USub (.Constant (.int 1) k p1) p2)) p3)
      (.ref a) (.ref s4.heap.objs.size)) (EP X pins σ Q) X.xe { s4 with heap := s4.heap.push { cls := .type "slice", data := .fields #[vl, vu, vs] } }
    refine tail_any (ops := [.ref a, .ref s4.heap.objs.size]) ht.isList.typeIs
      (PySem.slot_list_getitem.lookup) ?_ (by with_unfolding_all rfl)
    refine wpAny_getItem_list_slice ht.isList (Heap.IsSliceOf.new _ vl vu vs) pl pu ps
      (by decide) ?_ (by rw [List.size_toArray]; omega)
    rw [PySem.W.krv_pick]
    refine ⟨.ref _, _, I5.laid (t' := s4.toks) (o := .lst xs.reverse) (fun b ob q => Heap.get?_push_of_some _ q)
      (Nat.le_refl _) ?_, rfl, q _ (I5.hok.fresh (Nat.le_refl _))⟩
    exact ⟨by rw [List.length_reverse]; exact hz, _, 0, r.reverse, Heap.get?_push_size _ rfl⟩
  · obtain ⟨its, r, ht, hz⟩ := I5.tuple hx
    have hlen := r.length
    show wpAny (model X.prog X.w) X.A (subscriptTail e (.Slice none none (some (.UnaryOp .USub (.Constant (.int 1) k p1) p2)) p3)
      (.ref a) (.ref s4.heap.objs.size)) (EP X pins σ Q) X.xe { s4 with heap := s4.heap.push { cls := .type "slice", data := .fields #[vl, vu, vs] } }
    refine tail_any (ops := [.ref a, .ref s4.heap.objs.size]) ht.typeIs
      PyProof.Rows.slot_tuple_getitem.lookup ?_ (by with_unfolding_all rfl)
    refine getItem_tuple_back ht (Heap.IsSliceOf.new _ vl vu vs) pl pu ps ?_ (by rw [List.size_toArray]; omega)
    refine ⟨.ref _, _, I5.laid (t' := s4.toks) (o := .tup xs.reverse) (fun b ob q => Heap.get?_push_of_some _ q)
      (Nat.le_refl _) ?_, rfl, q _ (I5.hok.fresh (Nat.le_refl _))⟩
    exact ⟨by rw [List.length_reverse]; exact hz, _, r.reverse, IsTup.new _ _⟩
end Ev

set_option Elab.async false
set_option linter.all false
set_option maxRecDepth 100000
set_option maxHeartbeats 2000000
namespace Ev
open PySem L2

/-! ### argument lists without stars -/
def noStar : Expr → Bool
  | .Starred .. => false
  | _ => true
theorem starEach_cons {e : Expr} {es : List Expr} {env : PySem.Env} (h : noStar e = true) : starEach (e :: es) env = (false, eval e env) :: starEach es env := by
  cases e <;> first | rfl | cases h
theorem starEach_any {pos : Pos} {env : PySem.Env} : ∀ {es : List Expr}, es.all noStar = true → (backTo pos (starEach es env)).any (·.1) = false
  | [], _ => rfl
  | e :: es, h => by
    simp only [List.all_cons, Bool.and_eq_true] at h
    rw [starEach_cons h.1]
    cases es with
    | nil => rfl
    | cons e2 es2 =>
      have h2 := h.2
      simp only [List.all_cons, Bool.and_eq_true] at h2
      have ih := starEach_any (pos := pos) (env := env) h.2
      rw [starEach_cons h2.1] at ih ⊢
      exact ih
section
variable {T : Tab} {F : Fns} {X : Cx} {W : WX}
theorem r_val {K : PySem.W.Frag} {α β : Type} {rep : Wd → β → α → Prop} {U : Nat → Bool} {run : Env → C → R α} {σ : St} {H : Hp} {Q : β → Hp → Prop} {t : St → Hp → (β → Hp → Prop) → Prop}
    (h : tEv K T W rep U run σ H Q) (k : ∀ w c env, At w c H → RepEnv K w σ env U → Out K T.ex rep w H (run env c) Q (fun cls d H' => W cls d σ H') → t σ H Q) : t σ H Q := by
  obtain ⟨w, c, env, a, r, o⟩ := h
  exact k w c env a r o

theorem s_v {i : Nat} {x : Str} {pos : Pos} (hN : X.N[i]? = some x) (hv : Vis X.env.scope x) (hd : (x == ("__debug__" : Str)) = false) (hcd : (x == ("__classdict__" : Str)) = false) : PE X (.Name x pos) (tE X.K T F W (.v i)) := by
  refine PE.imp (pe_var (i := i) hN hv hd hcd) fun σ H Q h => ?_
  obtain ⟨w, c, env, a, r, o⟩ := h
  obtain ⟨d, e, o⟩ := Out.ofO o
  obtain ⟨v, e1, q⟩ := r.get i d (by simp [uses]) e
  exact ⟨v, e1, o.ok a q⟩
theorem s_cint {i : Int} {j : Nat} {pos : Pos} : PE X (.Constant (.int i) j pos) (tE X.K T F W (.c (.int i))) := PE.imp pe_int fun σ H Q ⟨w, c, env, a, r, o⟩ => o.ok a (.int i)
theorem s_cbl {i : Bool} {j : Nat} {pos : Pos} : PE X (.Constant (.bool i) j pos) (tE X.K T F W (.c (.bl i))) := PE.imp pe_bl fun σ H Q ⟨w, c, env, a, r, o⟩ => o.ok a (.bl i)
theorem s_cnon {j : Nat} {pos : Pos} : PE X (.Constant .none j pos) (tE X.K T F W (.c .non)) := PE.imp pe_non fun σ H Q ⟨w, c, env, a, r, o⟩ => o.ok a .non
theorem s_cstr {i : Str} {j : Nat} {pos : Pos} : PE X (.Constant (.str i) j pos) (tE X.K T F W (.c (.str i))) := PE.imp pe_str fun σ H Q ⟨w, c, env, a, r, o⟩ => o.ok a (.str i)
theorem s_gl (G : Good T F X W) {j : Nat} {x : Str} {pos : Pos} (hj : T.gn[j]? = some x) (hg : Gl X x) : PE X (.Name x pos) (tE X.K T F W (.gl j)) := by
  obtain ⟨v, u, d, hm, r, e, rep, hd⟩ := G.gl j x hj
  refine PE.imp (pe_glob hg hm r hd) fun σ H Q ⟨w, c, env, a, _, o⟩ => ?_
  have o' : Out X.K T.ex (Rep X.K) w H (R.of (T.gv[j]?) c) Q (fun cls d H' => W cls d σ H') := o
  rw [e] at o'
  exact Out.ok o' a (rep w)
theorem s_binN {a b : Expr} {A B : E} {op : Operator} {o : Bop} {pos : Pos} (ho : opB op = some o) (ha : PE X a (tE X.K T F W A)) (hb : PE X b (tE X.K T F W B)) : PE X (.BinOp a op b pos) (tN X.K T F W (.bin o A B)) := by
  refine PE.imp (pe_op (op_binD (ex := T.ex) ho) ha hb) fun σ H Q h => ?_
  have h2 := r_twoN (rep1 := Rep X.K) (rep2 := Rep X.K) (U1 := uses A) (U2 := uses B) (fun l r => r.mono l) hor1 hor2 h
  obtain ⟨w, c, env, a, r, o⟩ := h2
  refine ⟨w, c, env, a, r, o.mono fun v H1 ⟨w, c, env, a, r, o⟩ => ⟨w, c, env, a, r, o.mono fun u H2 ⟨w, x, y, c, a, r1, r2, o⟩ => ⟨w, x, y, c, _, a, r1, r2, o⟩⟩⟩
theorem s_bin {a b : Expr} {A B : E} {op : Operator} {o : Bop} {pos : Pos} (ho : opB op = some o) (ha : PE X a (tE X.K T F W A)) (hb : PE X b (tE X.K T F W B)) : PE X (.BinOp a op b pos) (tE X.K T F W (.bin o A B)) :=
  PE.imp (s_binN ho ha hb) fun _ _ _ h => tN_tE h
theorem s_cmp (G : Good T F X W) {a b : Expr} {A B : E} {op : CmpOp} {o : Cop} {pos : Pos} (ho : opC op = some o) (ha : PE X a (tE X.K T F W A)) (hb : PE X b (tE X.K T F W B)) (hm : behindInMarks op b = false) : PE X (.Compare a [op] [b] pos) (tE X.K T F W (.cmp o A B)) := by
  refine PE.imp (pe_cmpR (op_cmpD (ex := T.ex) (by have := G.un; omega) ho) ha hb hm) fun σ H Q h => ?_
  have h2 := r_two (rep1 := Rep X.K) (rep2 := Rep X.K) (U1 := uses A) (U2 := uses B) (fun l r => r.mono l) hor1 hor2 h
  obtain ⟨w, c, env, a, r, o⟩ := h2
  refine ⟨w, c, env, a, r, o.mono fun v H1 ⟨w, c, env, a, r, o⟩ => ⟨w, c, env, a, r, o.mono fun u H2 ⟨w, x, y, c, a, r1, r2, o⟩ => ⟨w, x, y, c, _, a, r1, r2, o.toN⟩⟩⟩
/-- a value that is asked for its truth -/
theorem r_truth {e : E} {σ : St} {H : Hp} {Q : Bool → Hp → Prop} (h : tT X.K T F W e σ H Q) : tE X.K T F W e σ H (fun x H' => ∃ k, x = .bl k ∧ Q k H') := by
  obtain ⟨w, c, env, a, r, o⟩ := r_one (rep' := Rep X.K) (U' := uses e) (run := evE F T.gv e) (k := fun _ => asB) hid h
  refine ⟨w, c, env, a, r, o.mono fun v H1 ⟨w, env, d, c, a, _, q, o⟩ => ?_⟩
  cases d <;> try exact o.elim
  cases q
  exact ⟨_, rfl, o.ok a rfl⟩
theorem t_cmp (G : Good T F X W) {a b : Expr} {A B : E} {op : CmpOp} {o : Cop} {pos : Pos} (ho : opC op = some o) (ha : PE X a (tE X.K T F W A)) (hb : PE X b (tE X.K T F W B)) (hm : behindInMarks op b = false) : PT X (.Compare a [op] [b] pos) (tT X.K T F W (.cmp o A B)) := by
  refine PT.imp (pt_cmpR (op_cmpD (ex := T.ex) (by have := G.un; omega) ho) ha hb hm) fun σ H Q h => ?_
  have h2 := r_two (rep1 := Rep X.K) (rep2 := Rep X.K) (U1 := uses A) (U2 := uses B) (fun l r => r.mono l) hor1 hor2 (r_truth h)
  obtain ⟨w, c, env, a, r, o⟩ := h2
  refine ⟨w, c, env, a, r, o.mono fun v H1 ⟨w, c, env, a, r, o⟩ => ⟨w, c, env, a, r, o.mono fun u H2 ⟨w, x, y, c, a, r1, r2, o⟩ => ⟨w, x, y, c, _, a, r1, r2, o.toN⟩⟩⟩
/-- two comparisons in a row -/
theorem r_chain {A B D' : E} {o p : Cop} {σ : St} {H : Hp} {Q : VK} (h : tE X.K T F W (.chain o p A B D') σ H Q) : tChain (rD X.K T.ex (cmpD o)) (rD X.K T.ex (cmpD p)) (tE X.K T F W A) (tE X.K T F W B) (tE X.K T F W D') σ H Q := by
  obtain ⟨w, c, env, a, r, oo⟩ := h
  refine ⟨w, c, env, a, r.mono (.refl w) hor1, ?_⟩
  refine (Out.bind (rep' := Rep X.K) oo).mono fun v H1 ⟨x, c1, w1, _, s1, a1, q1, o1⟩ => ?_
  refine ⟨w1, c1, env, a1, r.mono s1.le (fun i h => by simp only [uses]; rw [h]; simp), ?_⟩
  refine (Out.bind (rep' := Rep X.K) o1).mono fun u H2 ⟨y, c2, w2, _, s2, a2, q2, o2⟩ => ?_
  refine ⟨w2, x, y, c2, fun _ _ _ => False, a2, q1.mono s2.le, q2, ?_⟩
  split at o2
  · rename_i e
    rw [e]
    intro v' w3 H3 s3 a3 q3
    cases q3
    refine ⟨true, rfl, ?_⟩
    rw [if_pos rfl]
    refine ⟨w3, c2, env, a3, r.mono ((s1.le.trans s2.le).trans s3.le) (fun i h => by simp only [uses]; rw [h]; simp), ?_⟩
    refine (Out.bind (rep' := Rep X.K) (Out.step s3 o2)).mono fun z H4 ⟨d4, c4, w4, _, s4, a4, q4, o4⟩ => ?_
    exact ⟨w4, y, d4, c4, _, a4, (q2.mono s3.le).mono s4.le, q4, o4.toN⟩
  · rename_i e
    rw [e]
    intro v' w3 H3 s3 a3 q3
    cases q3
    refine ⟨false, rfl, ?_⟩
    rw [if_neg (by decide)]
    exact (Out.step s3 o2).ok a3 (.bl _)
  · exact o2.elim
theorem s_chain (G : Good T F X W) {a b d : Expr} {A B D' : E} {op op' : CmpOp} {o p : Cop} {pos : Pos} (ho : opC op = some o) (hp : opC op' = some p) (ha : PE X a (tE X.K T F W A)) (hb : PE X b (tE X.K T F W B)) (hc : PE X d (tE X.K T F W D')) (hm : lastMarks [op, op'] [b, d] = false) :
    PE X (.Compare a [op, op'] [b, d] pos) (tE X.K T F W (.chain o p A B D')) :=
  PE.imp (pe_chain (op_cmpD (ex := T.ex) (by have := G.un; omega) ho) (op_cmpD (ex := T.ex) (by have := G.un; omega) hp) ha hb hc hm) fun σ H Q h => r_chain h
theorem t_chain (G : Good T F X W) {a b d : Expr} {A B D' : E} {op op' : CmpOp} {o p : Cop} {pos : Pos} (ho : opC op = some o) (hp : opC op' = some p) (ha : PE X a (tE X.K T F W A)) (hb : PE X b (tE X.K T F W B)) (hc : PE X d (tE X.K T F W D')) (hm : lastMarks [op, op'] [b, d] = false) :
    PT X (.Compare a [op, op'] [b, d] pos) (tT X.K T F W (.chain o p A B D')) :=
  PT.imp (pt_chain (op_cmpD (ex := T.ex) (by have := G.un; omega) ho) (op_cmpD (ex := T.ex) (by have := G.un; omega) hp) ha hb hc hm) fun σ H Q h => r_chain (r_truth h)
theorem s_neg {a : Expr} {A : E} {pos : Pos} (ha : PE X a (tE X.K T F W A)) : PE X (.UnaryOp .USub a pos) (tE X.K T F W (.neg A)) := by
  refine PE.imp (pe_un un_neg ha) fun σ H Q h => ?_
  obtain ⟨w, c, env, a, r, o⟩ := r_un (rep' := Rep X.K) (U' := uses A) (run := evE F T.gv A) hid h
  refine ⟨w, c, env, a, r, o.mono fun v H1 ⟨w, d, c, a, q, o⟩ => ?_⟩
  cases d <;> try exact o.elim
  cases q
  exact ⟨_, rfl, o.ok a (.int _)⟩
theorem s_not {a : Expr} {A : E} {pos : Pos} (ha : PE X a (tE X.K T F W A)) : PE X (.UnaryOp .Not a pos) (tE X.K T F W (.not A)) := by
  refine PE.imp (pe_not ha) fun σ H Q h => ?_
  obtain ⟨w, c, env, a, r, o⟩ := r_un (rep' := Rep X.K) (U' := uses A) (run := evE F T.gv A) hid h
  refine ⟨w, c, env, a, r, o.mono fun v H1 ⟨w, d, c, a, q, o⟩ => ?_⟩
  cases d <;> try exact o.elim
  cases q
  exact ⟨_, rfl, o.ok a (.bl _)⟩
/-- the state's test behind a first part -/
theorem bind_asB {r : R D} {f : D → C → R D} : (r.bind f).bind asB = r.bind fun d c => (f d c).bind asB := by
  cases r <;> rfl
theorem t_not {a : Expr} {A : E} {pos : Pos} (ha : PT X a (tT X.K T F W A)) : PT X (.UnaryOp .Not a pos) (tT X.K T F W (.not A)) := by
  refine PT.imp (pt_not ha) fun σ H Q h => ?_
  obtain ⟨w, c, env, a, r, o⟩ := h
  refine ⟨w, c, env, a, r, ?_⟩
  show Out X.K T.ex _ w H ((evE F T.gv A env c).bind asB) _ _
  have o' : Out X.K T.ex (fun _ (v : Bool) d => v = d) w H (((evE F T.gv A env c).bind fun x c1 => match x with | .bl b => .ok (.bl (!b)) c1 | _ => .no).bind asB) Q (fun cls d H' => W cls d σ H') := o
  cases e : evE F T.gv A env c with
  | ok d c1 =>
    rw [e] at o'
    cases d <;> try exact o'.elim
    rename_i b
    exact fun v w' H' s a' q => by
      have z := o' (!b) w' H' s a' rfl
      have q' : v = b := q
      rw [q']; exact z
  | ex x c1 => rw [e] at o'; exact o'
  | no => rw [e] at o'; exact o'

theorem s_and {a b : Expr} {rest : List Expr} {A B : E} {pos : Pos} (ha : PE X a (tE X.K T F W A)) (hb : PE X (.BoolOp .And (b :: rest) pos) (tE X.K T F W B)) : PE X (.BoolOp .And (a :: b :: rest) pos) (tE X.K T F W (.and A B)) := by
  refine PE.imp (pe_and ha hb) fun σ H Q h => ?_
  obtain ⟨w, c, env, a, r, o⟩ := r_one (rep' := Rep X.K) (U' := uses A) (run := evE F T.gv A) hor1 h
  refine ⟨w, c, env, a, r, o.mono fun v H1 ⟨w, env, d, c, a, r, q, o⟩ => ?_⟩
  cases d <;> try exact o.elim
  rename_i k
  cases q
  refine ⟨k, rfl, ?_⟩
  cases k with
  | true => rw [if_pos rfl]; exact ⟨w, c, env, a, r.mono (.refl w) hor2, o⟩
  | false => rw [if_neg (by decide)]; exact o.ok a (.bl _)
theorem s_or {a b : Expr} {rest : List Expr} {A B : E} {pos : Pos} (ha : PE X a (tE X.K T F W A)) (hb : PE X (.BoolOp .Or (b :: rest) pos) (tE X.K T F W B)) : PE X (.BoolOp .Or (a :: b :: rest) pos) (tE X.K T F W (.or A B)) := by
  refine PE.imp (pe_or ha hb) fun σ H Q h => ?_
  obtain ⟨w, c, env, a, r, o⟩ := r_one (rep' := Rep X.K) (U' := uses A) (run := evE F T.gv A) hor1 h
  refine ⟨w, c, env, a, r, o.mono fun v H1 ⟨w, env, d, c, a, r, q, o⟩ => ?_⟩
  cases d <;> try exact o.elim
  rename_i k
  cases q
  refine ⟨k, rfl, ?_⟩
  cases k with
  | true => rw [if_pos rfl]; exact o.ok a (.bl _)
  | false => rw [if_neg (by decide)]; exact ⟨w, c, env, a, r.mono (.refl w) hor2, o⟩
/-- the first test's answer -/
theorem r_test {α β : Type} {rep : Wd → β → α → Prop} {U : Nat → Bool} {A : E} {k : Env → Bool → C → R α} {σ : St} {H : Hp} {Q : β → Hp → Prop} (hu : ∀ i, uses A i = true → U i = true)
    (h : tEv X.K T W rep U (fun env c => (evE F T.gv A env c).bind fun x c1 => match x with | .bl b => k env b c1 | _ => .no) σ H Q) :
    tT X.K T F W A σ H (fun b H1 => ∃ w env c, At w c H1 ∧ RepEnv X.K w σ env U ∧ Out X.K T.ex rep w H1 (k env b c) Q (fun cls d H' => W cls d σ H')) := by
  obtain ⟨w, c, env, a, r, o⟩ := h
  refine ⟨w, c, env, a, r.mono (.refl w) hu, ?_⟩
  dsimp only at o ⊢
  cases e : evE F T.gv A env c with
  | ok d c1 =>
    rw [e] at o
    cases d <;> try exact o.elim
    rename_i b
    intro v w' H' s a' q
    have q' : v = b := q
    rw [q']
    exact ⟨w', env, c1, a', r.mono s.le hid, Out.step s o⟩
  | ex x c1 => rw [e] at o; exact o
  | no => rw [e] at o; exact o.elim
theorem t_and {a b : Expr} {rest : List Expr} {A B : E} {pos : Pos} (ha : PT X a (tT X.K T F W A)) (hb : PW X (.BoolOp .And (b :: rest) pos) (tT X.K T F W B)) : PW X (.BoolOp .And (a :: b :: rest) pos) (tT X.K T F W (.and A B)) := by
  refine PW.imp (pw_and ha hb) fun σ H Q h => ?_
  have h' : tEv X.K T W (fun _ (v : Bool) d => v = d) (uses (.and A B)) (fun env c => (evE F T.gv A env c).bind fun x c1 => match x with | .bl k => (fun env k c => match k with | true => (evE F T.gv B env c).bind asB | false => .ok false c) env k c1 | _ => .no) σ H Q := by
    obtain ⟨w, c, env, a, r, o⟩ := h
    refine ⟨w, c, env, a, r, ?_⟩
    have o' : Out X.K T.ex (fun _ (v : Bool) d => v = d) w H ((evE F T.gv (.and A B) env c).bind asB) Q (fun cls d H' => W cls d σ H') := o
    rw [show evE F T.gv (.and A B) env c = (evE F T.gv A env c).bind fun x c1 => match x with | .bl true => evE F T.gv B env c1 | .bl false => .ok (.bl false) c1 | _ => .no from rfl, bind_asB] at o'
    refine cast ?_ o'
    congr 2
    funext d c1
    cases d <;> try rfl
    rename_i k
    cases k <;> rfl
  obtain ⟨w, c, env, a, r, o⟩ := r_test (A := A) (k := fun env k c => match k with | true => (evE F T.gv B env c).bind asB | false => .ok false c) hor1 h'
  refine ⟨w, c, env, a, r, o.mono fun k H1 ⟨w, env, c, a, r, o⟩ => ?_⟩
  cases k with
  | true => rw [if_pos rfl]; exact ⟨w, c, env, a, r.mono (.refl w) hor2, o⟩
  | false => rw [if_neg (by decide)]; exact o.ok a rfl
theorem t_or {a b : Expr} {rest : List Expr} {A B : E} {pos : Pos} (ha : PT X a (tT X.K T F W A)) (hb : PW X (.BoolOp .Or (b :: rest) pos) (tT X.K T F W B)) : PW X (.BoolOp .Or (a :: b :: rest) pos) (tT X.K T F W (.or A B)) := by
  refine PW.imp (pw_or ha hb) fun σ H Q h => ?_
  have h' : tEv X.K T W (fun _ (v : Bool) d => v = d) (uses (.or A B)) (fun env c => (evE F T.gv A env c).bind fun x c1 => match x with | .bl k => (fun env k c => match k with | false => (evE F T.gv B env c).bind asB | true => .ok true c) env k c1 | _ => .no) σ H Q := by
    obtain ⟨w, c, env, a, r, o⟩ := h
    refine ⟨w, c, env, a, r, ?_⟩
    have o' : Out X.K T.ex (fun _ (v : Bool) d => v = d) w H ((evE F T.gv (.or A B) env c).bind asB) Q (fun cls d H' => W cls d σ H') := o
    rw [show evE F T.gv (.or A B) env c = (evE F T.gv A env c).bind fun x c1 => match x with | .bl true => .ok (.bl true) c1 | .bl false => evE F T.gv B env c1 | _ => .no from rfl, bind_asB] at o'
    refine cast ?_ o'
    congr 2
    funext d c1
    cases d <;> try rfl
    rename_i k
    cases k <;> rfl
  obtain ⟨w, c, env, a, r, o⟩ := r_test (A := A) (k := fun env k c => match k with | false => (evE F T.gv B env c).bind asB | true => .ok true c) hor1 h'
  refine ⟨w, c, env, a, r, o.mono fun k H1 ⟨w, env, c, a, r, o⟩ => ?_⟩
  cases k with
  | true => rw [if_pos rfl]; exact o.ok a rfl
  | false => rw [if_neg (by decide)]; exact ⟨w, c, env, a, r.mono (.refl w) hor2, o⟩
theorem s_ite {t a b : Expr} {T' A B : E} {pos : Pos} (ht : PT X t (tT X.K T F W T')) (ha : PE X a (tE X.K T F W A)) (hb : PE X b (tE X.K T F W B)) : PE X (.IfExp t a b pos) (tE X.K T F W (.ite T' A B)) := by
  refine PE.imp (pe_ifExp ht ha hb) fun σ H Q h => ?_
  have h' : tEv X.K T W (Rep X.K) (uses (.ite T' A B)) (fun env c => (evE F T.gv T' env c).bind fun x c1 => match x with | .bl k => (fun env k c => match k with | true => evE F T.gv A env c | false => evE F T.gv B env c) env k c1 | _ => .no) σ H Q := by
    obtain ⟨w, c, env, a, r, o⟩ := h
    refine ⟨w, c, env, a, r, ?_⟩
    have o' : Out X.K T.ex (Rep X.K) w H (evE F T.gv (.ite T' A B) env c) Q (fun cls d H' => W cls d σ H') := o
    rw [show evE F T.gv (.ite T' A B) env c = (evE F T.gv T' env c).bind fun x c1 => match x with | .bl true => evE F T.gv A env c1 | .bl false => evE F T.gv B env c1 | _ => .no from rfl] at o'
    refine cast ?_ o'
    congr 2
    funext d c1
    cases d <;> try rfl
    rename_i k
    cases k <;> rfl
  obtain ⟨w, c, env, a, r, o⟩ := r_test (A := T') (k := fun env k c => match k with | true => evE F T.gv A env c | false => evE F T.gv B env c) (fun i h => by simp only [uses]; rw [h]; simp) h'
  refine ⟨w, c, env, a, r, o.mono fun k H1 ⟨w, env, c, a, r, o⟩ => ?_⟩
  cases k with
  | true => rw [if_pos rfl]; exact ⟨w, c, env, a, r.mono (.refl w) (fun i h => by simp only [uses]; rw [h]; simp), o⟩
  | false => rw [if_neg (by decide)]; exact ⟨w, c, env, a, r.mono (.refl w) (fun i h => by simp only [uses]; rw [h]; simp), o⟩
/-- any other value as a test -/
theorem t_val {e : Expr} {A : E} (h : PE X e (tE X.K T F W A)) (he : ∀ whole, isTrue e X.env whole = (do let v ← whole; standAt e.pos; holding [v] (truthy v))) : PT X e (tT X.K T F W A) :=
  PT.imp (pt_val h he) fun σ H Q h => r_truth h
end
end Ev

set_option Elab.async false
set_option linter.all false
set_option maxRecDepth 100000
set_option maxHeartbeats 2000000
namespace Ev
open PySem L2
section
variable {T : Tab} {F : Fns} {X : Cx} {W : WX}
theorem a_nil : PA X [] (tEs X.K T F W .nil) := PA.imp pa_nil fun σ H Q ⟨w, c, env, a, r, o⟩ => o.ok a .nil
theorem a_cons {e : Expr} {es : List Expr} {A : E} {As : Es} (ha : PE X e (tE X.K T F W A)) (hs : PA X es (tEs X.K T F W As)) (hn : noStar e = true) : PA X (e :: es) (tEs X.K T F W (.cons A As)) := by
  refine PA.imp (pa_cons ha hs (starEach_cons hn)) fun σ H Q h => ?_
  obtain ⟨w, c, env, a, r, o⟩ := r_two (rep1 := Rep X.K) (rep2 := Reps X.K) (U1 := uses A) (U2 := usesEs As) (fun l r => r.mono l) hor1 hor2 h
  exact ⟨w, c, env, a, r, o.mono fun v H1 ⟨w, c, env, a, r, o⟩ => ⟨w, c, env, a, r, o.mono fun u H2 ⟨w, x, y, c, a, r1, r2, o⟩ => o.ok a (.cons r1 r2)⟩⟩
theorem o_non : PO X none (tEo X.K T F W .non) := PO.imp po_none fun σ H Q ⟨w, c, env, a, r, o⟩ => o.ok a rfl
theorem o_som {e : Expr} {A : E} (ha : PE X e (tE X.K T F W A)) : PO X (some e) (tEo X.K T F W (.som A)) := by
  refine PO.imp (po_some ha) fun σ H Q h => ?_
  obtain ⟨w, c, env, a, r, o⟩ := r_un (rep' := Rep X.K) (U' := uses A) (run := evE F T.gv A) hid h
  refine ⟨w, c, env, a, r, o.mono fun v H1 ⟨w, d, c, a, q, o⟩ => ?_⟩
  cases d <;> try exact o.elim
  cases q
  exact ⟨_, rfl, o.ok a rfl⟩
theorem s_tup {es : List Expr} {As : Es} {k : Nat} {pos : Pos} (hs : PA X es (tEs X.K T F W As)) : PE X (.Tuple es k pos) (tE X.K T F W (.tup As)) := by
  refine PE.imp (pe_tup hs) fun σ H Q h => ?_
  obtain ⟨w, c, env, a, r, o⟩ := r_un (rep' := Reps X.K) (U' := usesEs As) (run := evEs F T.gv As) hid h
  refine ⟨w, c, env, a, r, o.mono fun v H1 ⟨w, d, c, a, q, o⟩ => ?_⟩
  split at o
  · rename_i hl
    exact ⟨by rw [q.length]; exact small_lim hl, o.newT a q⟩
  · exact o.elim
theorem s_lstN {es : List Expr} {As : Es} {pos : Pos} (hs : PA X es (tEs X.K T F W As)) : PE X (.List es pos) (tN X.K T F W (.lst As)) := by
  refine PE.imp (pe_lst hs) fun σ H Q h => ?_
  obtain ⟨w, c, env, a, r, o⟩ := r_unN (rep' := Reps X.K) (U' := usesEs As) (run := evEs F T.gv As) hid h
  refine ⟨w, c, env, a, r, o.mono fun v H1 ⟨w, d, c, a, q, o⟩ => ?_⟩
  split at o
  · rename_i hl
    exact ⟨by rw [q.length]; exact small_lim hl, o.newL a q⟩
  · exact o.elim
theorem s_lst {es : List Expr} {As : Es} {pos : Pos} (hs : PA X es (tEs X.K T F W As)) : PE X (.List es pos) (tE X.K T F W (.lst As)) := PE.imp (s_lstN hs) fun _ _ _ h => tN_tE h
theorem Reps.at {K : PySem.W.Frag} {w : Wd} {xs : List V} {ds : List D} {i : Int} {d : D} (r : Reps K w xs ds) (h : atI ds i = some d) : ∃ v, atI xs i = some v ∧ Rep K w v d := by
  unfold atI at h ⊢
  rw [r.length]
  cases e : ixN ds.length i with
  | none => rw [e] at h; cases h
  | some j =>
    rw [e] at h
    exact r.get h
def noSlice : Expr → Bool
  | .Slice .. => false
  | _ => true
theorem plainIx {b : Expr} (h : noSlice b = true) : PlainIx b := by
  intro o i
  cases b <;> first | rfl | cases h
theorem s_ix {a b : Expr} {A B : E} {pos : Pos} (ha : PE X a (tE X.K T F W A)) (hb : PE X b (tE X.K T F W B)) (hs : noSlice b = true) : PE X (.Subscript a b pos) (tE X.K T F W (.ix A B)) := by
  refine PE.imp (pe_ix (IxR.or ix_list ix_tup) ha hb (plainIx hs)) fun σ H Q h => ?_
  have h2 := r_two (rep1 := Rep X.K) (rep2 := Rep X.K) (U1 := uses A) (U2 := uses B) (fun l r => r.mono l) hor1 hor2 h
  obtain ⟨w, c, env, a, r, o⟩ := h2
  refine ⟨w, c, env, a, r, o.mono fun v H1 ⟨w, c, env, a, r, o⟩ => ⟨w, c, env, a, r, o.mono fun u H2 ⟨w, x, y, c, a, r1, r2, o3⟩ => ?_⟩⟩
  obtain ⟨d, e, o4⟩ := o3.ofO
  unfold ixD at e
  split at e <;> try (cases e; done)
  · obtain ⟨p, xs, rfl, s1, q1⟩ := r1.tupV
    cases r2
    obtain ⟨v, e2, q⟩ := q1.at e
    exact .inr ⟨p, xs, _, v, rfl, rfl, a.tup s1, e2, o4.ok a q⟩
  · obtain ⟨p, xs, rfl, s1, q1⟩ := r1.lstV
    cases r2
    obtain ⟨v, e2, q⟩ := q1.at e
    exact .inl ⟨p, xs, _, v, rfl, rfl, a.lst s1, e2, o4.ok a q⟩
/-- a place of the draws' state -/
theorem s_ixc {a : Expr} {A : E} {k : Nat} {j : Nat} {p pos : Pos} (ha : PE X a (tE X.K T F W A)) : PE X (.Subscript a (.Constant (.int (k : Nat)) j p) pos) (tE X.K T F W (.ixc A k)) := by
  refine PE.imp (pe_ix ix_list ha pe_int (fun _ _ => rfl)) fun σ H Q h => ?_
  obtain ⟨w, c, env, a, r, o⟩ := r_un (rep' := Rep X.K) (U' := uses A) (run := evE F T.gv A) hid h
  refine ⟨w, c, env, a, r, o.mono fun v H1 ⟨w, d, c, a, q, o⟩ => ?_⟩
  split at o
  · cases q with
    | cup e =>
      obtain ⟨q, e1, e2, e3⟩ := a.cup
      rw [e] at e1; cases e1
      exact ⟨_, _, _, _, rfl, rfl, .inl (.inl e2), rfl, o.ok a (.int _)⟩
  · cases q with
    | cup e =>
      obtain ⟨q, e1, e2, e3⟩ := a.cup
      rw [e] at e1; cases e1
      exact ⟨_, _, _, _, rfl, rfl, .inl (.inl e2), rfl, o.ok a (.int _)⟩
  · exact o.elim
theorem Reps.cut {K : PySem.W.Frag} {w : Wd} {xs : List V} {ds : List D} (r : Reps K w xs ds) (lo hi : Option Int) : Reps K w (cutV xs lo hi) (Ev.cut ds lo hi) := by
  unfold cutV Ev.cut
  rw [r.length]
  exact (r.drop _).take _
theorem cut_whole {ds : List D} {lo hi : Option Int} (h : HT.sIx ds.length 0 lo = 0 ∧ HT.sIx ds.length ds.length hi = ds.length) : Ev.cut ds lo hi = ds := by
  unfold Ev.cut
  rw [h.1, h.2, List.drop_zero, Nat.sub_zero, List.take_length]
theorem s_slN {a : Expr} {lo hi : Option Expr} {A : E} {L U : Eo} {p2 pos : Pos} (ha : PE X a (tE X.K T F W A)) (hl : PO X lo (tEo X.K T F W L)) (hu : PO X hi (tEo X.K T F W U)) : PE X (.Subscript a (.Slice lo hi none p2) pos) (tN X.K T F W (.sl A L U)) := by
  refine PE.imp (pe_slice (SlR.or sl_list sl_tupA) ha hl hu) fun σ H Q h => ?_
  obtain ⟨w, c, env, a, r, o⟩ := h
  refine ⟨w, c, env, a, r.mono (.refl w) hor1, ?_⟩
  refine (OutN.bind (rep' := Rep X.K) o).mono fun v H1 ⟨x, c1, w1, _, s1, a1, q1, o1⟩ => ?_
  refine ⟨w1, c1, env, a1, r.mono s1.le (fun i h => by simp only [uses]; rw [h]; simp), ?_⟩
  refine (OutN.bind (rep' := fun _ v d => v = d) o1).mono fun l H2 ⟨l', c2, w2, _, s2, a2, q2, o2⟩ => ?_
  have q2' : l = l' := q2
  subst q2'
  refine ⟨w2, c2, env, a2, r.mono (s1.le.trans s2.le) (fun i h => by simp only [uses]; rw [h]; simp), ?_⟩
  refine (OutN.bind (rep' := fun _ v d => v = d) o2).mono fun u H3 ⟨u', c3, w3, _, s3, a3, q3, o3⟩ => ?_
  have q3' : u = u' := q3
  subst q3'
  obtain ⟨d, e, o⟩ := o3.ofO
  have r1 := (q1.mono s2.le).mono s3.le
  unfold slD at e
  split at e <;> try (cases e; done)
  · cases e
    obtain ⟨p, xs, rfl, k1, k2⟩ := r1.tupV
    refine .inr ⟨p, xs, rfl, a3.tup k1, fun hw => ?_, fun _ => o.newT a3 (k2.cut l u)⟩
    rw [k2.length] at hw
    rw [cut_whole hw] at o
    exact o.ok a3 (.tup k1 k2)
  · cases e
    obtain ⟨p, xs, rfl, k1, k2⟩ := r1.lstV
    exact .inl ⟨p, xs, rfl, a3.lst k1, o.newL a3 (k2.cut l u)⟩
theorem s_sl {a : Expr} {lo hi : Option Expr} {A : E} {L U : Eo} {p2 pos : Pos} (ha : PE X a (tE X.K T F W A)) (hl : PO X lo (tEo X.K T F W L)) (hu : PO X hi (tEo X.K T F W U)) : PE X (.Subscript a (.Slice lo hi none p2) pos) (tE X.K T F W (.sl A L U)) :=
  PE.imp (s_slN ha hl hu) fun _ _ _ h => tN_tE h
theorem s_rv {a : Expr} {A : E} {k : Nat} {p1 p2 p3 pos : Pos} (ha : PE X a (tE X.K T F W A)) : PE X (.Subscript a (.Slice none none (some (.UnaryOp .USub (.Constant (.int 1) k p1) p2)) p3) pos) (tE X.K T F W (.rv A)) := by
  refine PE.imp (pe_revA ha) fun σ H Q h => ?_
  obtain ⟨w, c, env, a, r, o⟩ := r_un (rep' := Rep X.K) (U' := uses A) (run := evE F T.gv A) hid h
  refine ⟨w, c, env, a, r, o.mono fun v H1 ⟨w, d, c, a, q, o⟩ => ?_⟩
  obtain ⟨d', e, o⟩ := o.ofO
  unfold rvD at e
  split at e <;> try (cases e; done)
  · cases e
    obtain ⟨p, xs, rfl, k1, k2⟩ := q.tupV
    exact ⟨p, xs, rfl, .inr ⟨a.tup k1, o.newT a k2.reverse⟩⟩
  · cases e
    obtain ⟨p, xs, rfl, k1, k2⟩ := q.lstV
    exact ⟨p, xs, rfl, .inl ⟨a.lst k1, o.newL a k2.reverse⟩⟩
/-- a call without arguments -/
theorem pe_call0S {CX : CXT} {k : Nat} {f : Addr} {fd : FuncData} {ps : List Str} {sp : Sp} {Z : St → XK} {x : Str} {p pos : Pos} (Fk : FnOk X.prog X.w X.K X.mg X.base CX k f fd ps sp) (hr : Room k X.A) (hg : Gl X x) (hm : X.mg x = some (.ref f))
    (hk : PySem.W.keepIn X.K (.ref f) = true) (hb : Binds X.K fd ps []) (hx : ∀ σ, PassesAt CX X σ (Z σ)) (hdb : (x == ("__debug__" : Str)) = false) : PE X (.Call (.Name x p) [] [] pos) (tCallS sp Z tNil) := by
  refine ⟨fun pins s σ H Q I h => ?_⟩
  refine wpAny_Call_Name_kw (ld_glob I hg hm ?_ hdb)
  exact PySem.W.callWith_K0 I.kIn hk (run_fnS (us := []) Fk hr hb (hx σ) I .nil h)
theorem r_call (G : Good T F X W) {f : Nat} {As : Es} {n : Nat} (hl : ∀ ds c, F f ds c ≠ .no → ds.length = n) : ∀ σ H Q, tE X.K T F W (.call f As) σ H Q → tCallS (spF X.K T.ex n (F f)) (WE W) (tEs X.K T F W As) σ H Q := fun σ H Q h => by
  obtain ⟨w, c, env, a, r, o⟩ := r_un (rep' := Reps X.K) (U' := usesEs As) (run := evEs F T.gv As) hid h
  refine ⟨w, c, env, a, r, o.mono fun vs H1 ⟨w, ds, c, a, q, o⟩ => ⟨?_, w, c, ds, a, q, o⟩⟩
  rw [q.length]
  refine hl ds c fun e => ?_
  rw [e] at o
  exact o
theorem s_call (G : Good T F X W) {f : Nat} {x : Str} {p pos : Pos} {e : Expr} {es : List Expr} {As : Es} (hf : T.fn[f]? = some x) (hg : Gl X x) (hs : PA X (e :: es) (tEs X.K T F W As)) (hn : noStar e = true) (hn2 : es.all noStar = true) :
    PE X (.Call (.Name x p) (e :: es) [] pos) (tE X.K T F W (.call f As)) := by
  obtain ⟨fa, fd, ps, k, FK, hr, hm, hk, hb, hl, hd⟩ := G.fn f x hf
  exact PE.imp (pe_callS (E := WE W) FK hr hg hm hk hb (fun σ => passAt G.tk σ) hs hd (starEach_cons hn) (starEach_any hn2)) (r_call G hl)
theorem s_call0 (G : Good T F X W) {f : Nat} {x : Str} {p pos : Pos} (hf : T.fn[f]? = some x) (hg : Gl X x) : PE X (.Call (.Name x p) [] [] pos) (tE X.K T F W (.call f .nil)) := by
  obtain ⟨fa, fd, ps, k, FK, hr, hm, hk, hb, hl, hd⟩ := G.fn f x hf
  refine PE.imp (pe_call0S (Z := WE W) FK hr hg hm hk hb (fun σ => passAt G.tk σ) hd) fun σ H Q h => ?_
  obtain ⟨w, c, env, a, r, o⟩ := r_call G hl σ H Q h
  exact o.ok a .nil
/-! ### built-ins -/
/-- what a built-in's interpreter asks -/
def rB (K : PySem.W.Frag) (ex : Str → Option (Addr × Str)) (b : Bi) : List V → Hp → VK → Prop := fun vs H Q => ∃ w ds c Z, At w c H ∧ Reps K w vs ds ∧ OutN K ex w H (R.of (biD b ds) c) Q Z
theorem CallR.imp {f : Value} {r r' : List V → Hp → VK → Prop} (h : CallR X f r) (i : ∀ vs H Q, r' vs H Q → r vs H Q) : CallR X f r' := fun pins s σ H vs us Q I rs q => h pins s σ H vs us Q I rs (i _ _ _ q)
theorem Reps.one {K : PySem.W.Frag} {w : Wd} {vs : List V} {d : D} (r : Reps K w vs [d]) : ∃ v, vs = [v] ∧ Rep K w v d := by
  cases r with | cons r s => cases s; exact ⟨_, rfl, r⟩
theorem Reps.two {K : PySem.W.Frag} {w : Wd} {vs : List V} {d e : D} (r : Reps K w vs [d, e]) : ∃ v u, vs = [v, u] ∧ Rep K w v d ∧ Rep K w u e := by
  cases r with | cons r s => obtain ⟨u, rfl, q⟩ := s.one; exact ⟨_, _, rfl, r, q⟩
theorem Reps.ints {K : PySem.W.Frag} {w : Wd} : ∀ {vs : List V} {ds : List D} {is : List Int}, Reps K w vs ds → intsOf ds = some is → vs = is.map V.int
  | _, _, _, .nil, h => by simp only [intsOf, Option.some.injEq] at h; subst h; rfl
  | _, .int i :: ds, _, .cons r s, h => by
    simp only [intsOf, Option.map_eq_some_iff] at h
    obtain ⟨is, e, rfl⟩ := h
    cases r
    rw [Reps.ints s e]; rfl
  | _, .non :: _, _, _, h => by simp [intsOf] at h
  | _, .bl _ :: _, _, _, h => by simp [intsOf] at h
  | _, .str _ :: _, _, _, h => by simp [intsOf] at h
  | _, .tup _ :: _, _, _, h => by simp [intsOf] at h
  | _, .lst _ :: _, _, _, h => by simp [intsOf] at h
  | _, .cup :: _, _, _, h => by simp [intsOf] at h
  | _, .scr _ :: _, _, _, h => by simp [intsOf] at h
theorem Reps.bls {K : PySem.W.Frag} {w : Wd} : ∀ {vs : List V} {ds : List D} {is : List Bool}, Reps K w vs ds → blsOf ds = some is → vs = is.map V.bl
  | _, _, _, .nil, h => by simp only [blsOf, Option.some.injEq] at h; subst h; rfl
  | _, .bl i :: ds, _, .cons r s, h => by
    simp only [blsOf, Option.map_eq_some_iff] at h
    obtain ⟨is, e, rfl⟩ := h
    cases r
    rw [Reps.bls s e]; rfl
  | _, .non :: _, _, _, h => by simp [blsOf] at h
  | _, .int _ :: _, _, _, h => by simp [blsOf] at h
  | _, .str _ :: _, _, _, h => by simp [blsOf] at h
  | _, .tup _ :: _, _, _, h => by simp [blsOf] at h
  | _, .lst _ :: _, _, _, h => by simp [blsOf] at h
  | _, .cup :: _, _, _, h => by simp [blsOf] at h
  | _, .scr _ :: _, _, _, h => by simp [blsOf] at h
theorem maxI_is : ∀ {is : List Int} {m m' : Int}, maxI is = some m → m' ∈ is → (∀ y, y ∈ is → y ≤ m') → m' = m
  | [], _, _, h, _, _ => by simp [maxI] at h
  | i :: is, m, m', h, h1, h2 => by
    simp only [maxI, Option.some.injEq] at h
    have key : ∀ (l : List Int) (a : Int), (l.foldl (fun m x => if x > m then x else m) a = a ∨ l.foldl (fun m x => if x > m then x else m) a ∈ l) ∧ a ≤ l.foldl (fun m x => if x > m then x else m) a ∧ ∀ y ∈ l, y ≤ l.foldl (fun m x => if x > m then x else m) a := by
      intro l
      induction l with
      | nil => intro a; exact ⟨.inl rfl, Int.le_refl _, fun y h => nomatch h⟩
      | cons b l ih =>
        intro a
        rw [List.foldl_cons]
        obtain ⟨p1, p2, p3⟩ := ih (if b > a then b else a)
        refine ⟨?_, ?_, fun y hy => ?_⟩
        · rcases p1 with p1 | p1
          · rw [p1]; split
            · exact .inr List.mem_cons_self
            · exact .inl rfl
          · exact .inr (List.mem_cons_of_mem _ p1)
        · refine Int.le_trans ?_ p2; split <;> omega
        · rcases List.mem_cons.mp hy with rfl | hy
          · refine Int.le_trans ?_ p2; split <;> omega
          · exact p3 y hy
    obtain ⟨p1, p2, p3⟩ := key is i
    rw [h] at p1 p2 p3
    have hm : m ∈ i :: is := by
      rcases p1 with p1 | p1
      · rw [p1]; exact List.mem_cons_self
      · exact List.mem_cons_of_mem _ p1
    have a1 := h2 m hm
    rcases List.mem_cons.mp h1 with rfl | h1
    · omega
    · have := p3 m' h1; omega
theorem minI_is : ∀ {is : List Int} {m m' : Int}, minI is = some m → m' ∈ is → (∀ y, y ∈ is → m' ≤ y) → m' = m
  | [], _, _, h, _, _ => by simp [minI] at h
  | i :: is, m, m', h, h1, h2 => by
    simp only [minI, Option.some.injEq] at h
    have key : ∀ (l : List Int) (a : Int), (l.foldl (fun m x => if x < m then x else m) a = a ∨ l.foldl (fun m x => if x < m then x else m) a ∈ l) ∧ l.foldl (fun m x => if x < m then x else m) a ≤ a ∧ ∀ y ∈ l, l.foldl (fun m x => if x < m then x else m) a ≤ y := by
      intro l
      induction l with
      | nil => intro a; exact ⟨.inl rfl, Int.le_refl _, fun y h => nomatch h⟩
      | cons b l ih =>
        intro a
        rw [List.foldl_cons]
        obtain ⟨p1, p2, p3⟩ := ih (if b < a then b else a)
        refine ⟨?_, ?_, fun y hy => ?_⟩
        · rcases p1 with p1 | p1
          · rw [p1]; split
            · exact .inr List.mem_cons_self
            · exact .inl rfl
          · exact .inr (List.mem_cons_of_mem _ p1)
        · refine Int.le_trans p2 ?_; split <;> omega
        · rcases List.mem_cons.mp hy with rfl | hy
          · refine Int.le_trans p2 ?_; split <;> omega
          · exact p3 y hy
    obtain ⟨p1, p2, p3⟩ := key is i
    rw [h] at p1 p2 p3
    have hm : m ∈ i :: is := by
      rcases p1 with p1 | p1
      · rw [p1]; exact List.mem_cons_self
      · exact List.mem_cons_of_mem _ p1
    have a1 := h2 m hm
    rcases List.mem_cons.mp h1 with rfl | h1
    · omega
    · have := p3 m' h1; omega
variable {ex : Str → Option (Addr × Str)}
theorem reps_ints {K : PySem.W.Frag} {w : Wd} : ∀ ns : List Int, Reps K w (ns.map V.int) (ns.map D.int)
  | [] => .nil
  | i :: ns => .cons (.int i) (reps_ints ns)
theorem b_len : CallR X (.builtin "len") (rB X.K ex .len) := by
  refine CallR.imp call_len_seq ?_
  rintro vs H Q ⟨w, ds, c, Z, a, r, o⟩
  obtain ⟨d, e, o⟩ := o.ofO
  unfold biD at e
  split at e <;> try (cases e; done)
  all_goals first | (rename_i h; cases h; done) | skip
  all_goals simp only [reduceCtorEq] at *
  · cases e
    obtain ⟨v, rfl, r1⟩ := r.one
    obtain ⟨p, xs, rfl, s1, q1⟩ := r1.tupV
    refine ⟨p, xs, rfl, .inr (a.tup s1), ?_⟩
    rw [q1.length]; exact o.ok a (.int _)
  · cases e
    obtain ⟨v, rfl, r1⟩ := r.one
    obtain ⟨p, xs, rfl, s1, q1⟩ := r1.lstV
    refine ⟨p, xs, rfl, .inl (a.lst s1), ?_⟩
    rw [q1.length]; exact o.ok a (.int _)
theorem b_int : CallR X (.type "int") (rB X.K ex .int) := by
  refine CallR.imp call_int1 ?_
  rintro vs H Q ⟨w, ds, c, Z, a, r, o⟩
  obtain ⟨d, e, o⟩ := o.ofO
  unfold biD at e
  split at e <;> try (cases e; done)
  all_goals first | (rename_i h; cases h; done) | skip
  all_goals simp only [reduceCtorEq] at *
  · cases e
    obtain ⟨v, rfl, r1⟩ := r.one
    cases r1
    exact .inl ⟨_, rfl, o.ok a (.int _)⟩
  · cases e
    obtain ⟨v, rfl, r1⟩ := r.one
    cases r1
    exact .inr ⟨_, rfl, o.ok a (.int _)⟩
theorem b_abs : CallR X (.builtin "abs") (rB X.K ex .abs) := by
  refine CallR.imp call_abs ?_
  rintro vs H Q ⟨w, ds, c, Z, a, r, o⟩
  obtain ⟨d, e, o⟩ := o.ofO
  unfold biD at e
  split at e <;> try (cases e; done)
  all_goals first | (rename_i h; cases h; done) | skip
  all_goals simp only [reduceCtorEq] at *
  cases e
  obtain ⟨v, rfl, r1⟩ := r.one
  cases r1
  exact ⟨_, rfl, o.ok a (.int _)⟩
theorem b_list : CallR X (.type "list") (rB X.K ex .list) := by
  refine CallR.imp call_list_of ?_
  rintro vs H Q ⟨w, ds, c, Z, a, r, o⟩
  obtain ⟨d, e, o⟩ := o.ofO
  unfold biD at e
  split at e <;> try (cases e; done)
  all_goals first | (rename_i h; cases h; done) | skip
  all_goals simp only [reduceCtorEq] at *
  · cases e
    obtain ⟨v, rfl, r1⟩ := r.one
    obtain ⟨p, xs, rfl, s1, q1⟩ := r1.tupV
    exact ⟨p, xs, rfl, .inr (a.tup s1), o.newL a q1⟩
  · cases e
    obtain ⟨v, rfl, r1⟩ := r.one
    obtain ⟨p, xs, rfl, s1, q1⟩ := r1.lstV
    exact ⟨p, xs, rfl, .inl (a.lst s1), o.newL a q1⟩
  · cases e
    obtain ⟨v, rfl, r1⟩ := r.one
    cases r1 with
    | scr s1 => exact ⟨_, _, rfl, .inl (sqL_mono a.F s1), o.newL a (reps_ints _)⟩
theorem b_tuple : CallR X (.type "tuple") (rB X.K ex .tuple) := by
  refine CallR.imp call_tuple_of ?_
  rintro vs H Q ⟨w, ds, c, Z, a, r, o⟩
  obtain ⟨d, e, o⟩ := o.ofO
  unfold biD at e
  split at e <;> try (cases e; done)
  all_goals first | (rename_i h; cases h; done) | skip
  all_goals simp only [reduceCtorEq] at *
  · cases e
    obtain ⟨v, rfl, r1⟩ := r.one
    obtain ⟨p, xs, rfl, s1, q1⟩ := r1.tupV
    exact ⟨p, xs, rfl, .inr ⟨a.tup s1, o.ok a (.tup s1 q1)⟩⟩
  · cases e
    obtain ⟨v, rfl, r1⟩ := r.one
    obtain ⟨p, xs, rfl, s1, q1⟩ := r1.lstV
    exact ⟨p, xs, rfl, .inl ⟨a.lst s1, o.newT a q1⟩⟩
theorem b_sum (hc : X.calm = true) : CallR X (.builtin "sum") (rB X.K ex .sum) := by
  refine CallR.imp (cr_sum hc) ?_
  rintro vs H Q ⟨w, ds, c, Z, a, r, o⟩
  obtain ⟨d, e, o⟩ := o.ofO
  unfold biD at e
  split at e <;> try (cases e; done)
  all_goals first | (rename_i h; cases h; done) | skip
  all_goals simp only [reduceCtorEq] at *
  simp only [Option.map_eq_some_iff] at e
  obtain ⟨is, e, rfl⟩ := e
  obtain ⟨v, rfl, r1⟩ := r.one
  obtain ⟨p, xs, rfl, s1, q1⟩ := r1.lstV
  have ex := q1.ints e
  subst ex
  exact ⟨p, is, rfl, a.lst s1, o.ok a (.int _)⟩
theorem b_max (hc : X.calm = true) : CallR X (.builtin "max") (rB X.K ex .max) := by
  refine CallR.imp (cr_max hc) ?_
  rintro vs H Q ⟨w, ds, c, Z, a, r, o⟩
  obtain ⟨d, e, o⟩ := o.ofO
  unfold biD at e
  split at e <;> try (cases e; done)
  all_goals first | (rename_i h; cases h; done) | skip
  all_goals simp only [reduceCtorEq] at *
  simp only [Option.bind_eq_some_iff, Option.map_eq_some_iff] at e
  obtain ⟨is, e, m, e2, rfl⟩ := e
  obtain ⟨v, rfl, r1⟩ := r.one
  obtain ⟨p, xs, rfl, s1, q1⟩ := r1.lstV
  have ex := q1.ints e
  subst ex
  refine ⟨p, is, rfl, a.lst s1, ?_, fun m' h1 h2 => ?_⟩
  · cases is with
    | nil => simp [maxI] at e2
    | cons => simp
  · rw [maxI_is e2 h1 h2]; exact o.ok a (.int _)
theorem b_min (hc : X.calm = true) : CallR X (.builtin "min") (rB X.K ex .min) := by
  refine CallR.imp (cr_min hc) ?_
  rintro vs H Q ⟨w, ds, c, Z, a, r, o⟩
  obtain ⟨d, e, o⟩ := o.ofO
  unfold biD at e
  split at e <;> try (cases e; done)
  all_goals first | (rename_i h; cases h; done) | skip
  all_goals simp only [reduceCtorEq] at *
  simp only [Option.bind_eq_some_iff, Option.map_eq_some_iff] at e
  obtain ⟨is, e, m, e2, rfl⟩ := e
  obtain ⟨v, rfl, r1⟩ := r.one
  obtain ⟨p, xs, rfl, s1, q1⟩ := r1.lstV
  have ex := q1.ints e
  subst ex
  refine ⟨p, is, rfl, a.lst s1, ?_, fun m' h1 h2 => ?_⟩
  · cases is with
    | nil => simp [minI] at e2
    | cons => simp
  · rw [minI_is e2 h1 h2]; exact o.ok a (.int _)
theorem b_all (hc : X.calm = true) : CallR X (.builtin "all") (rB X.K ex .all) := by
  refine CallR.imp (cr_all hc) ?_
  rintro vs H Q ⟨w, ds, c, Z, a, r, o⟩
  obtain ⟨d, e, o⟩ := o.ofO
  unfold biD at e
  split at e <;> try (cases e; done)
  all_goals first | (rename_i h; cases h; done) | skip
  all_goals simp only [reduceCtorEq] at *
  simp only [Option.map_eq_some_iff] at e
  obtain ⟨is, e, rfl⟩ := e
  obtain ⟨v, rfl, r1⟩ := r.one
  obtain ⟨p, xs, rfl, s1, q1⟩ := r1.lstV
  have ex := q1.bls e
  subst ex
  exact ⟨p, is, rfl, a.lst s1, o.ok a (.bl _)⟩
theorem b_max2 (hc : X.calm = true) : CallR X (.builtin "max") (rB X.K ex .max2) := by
  refine CallR.imp (call_max2 hc) ?_
  rintro vs H Q ⟨w, ds, c, Z, a, r, o⟩
  obtain ⟨d, e, o⟩ := o.ofO
  unfold biD at e
  split at e <;> try (cases e; done)
  all_goals first | (rename_i h; cases h; done) | skip
  all_goals simp only [reduceCtorEq] at *
  cases e
  obtain ⟨v, u, rfl, r1, r2⟩ := r.two
  cases r1; cases r2
  exact ⟨_, _, rfl, o.ok a (.int _)⟩
theorem b_min2 (hc : X.calm = true) : CallR X (.builtin "min") (rB X.K ex .min2) := by
  refine CallR.imp (call_min2 hc) ?_
  rintro vs H Q ⟨w, ds, c, Z, a, r, o⟩
  obtain ⟨d, e, o⟩ := o.ofO
  unfold biD at e
  split at e <;> try (cases e; done)
  all_goals first | (rename_i h; cases h; done) | skip
  all_goals simp only [reduceCtorEq] at *
  cases e
  obtain ⟨v, u, rfl, r1, r2⟩ := r.two
  cases r1; cases r2
  exact ⟨_, _, rfl, o.ok a (.int _)⟩
end
end Ev

set_option Elab.async false
set_option linter.all false
set_option maxRecDepth 100000
set_option maxHeartbeats 2000000
namespace Ev
open PySem L2
section
variable {T : Tab} {F : Fns} {X : Cx} {W : WX}

/-! ### isinstance -/
def Ty.name : Ty → String
  | .int => "int"
  | .bool => "bool"
  | .tuple => "tuple"
  | .list => "list"
  | .str => "str"
def D.ty : D → String
  | .non => "NoneType"
  | .bl _ => "bool"
  | .int _ => "int"
  | .str _ => "str"
  | .tup _ => "tuple"
  | .lst _ => "list"
  | .cup => ""
  | .scr _ => ""
theorem kit_int (t : Ty) : kitB "int" t.name = some (decide (t = .int)) := by cases t <;> decide +kernel
theorem kit_non (t : Ty) : kitB "NoneType" t.name = some false := by cases t <;> decide +kernel
theorem kit_bl (t : Ty) : kitB "bool" t.name = some (decide (t = .int) || decide (t = .bool)) := by cases t <;> decide +kernel
theorem kit_str (t : Ty) : kitB "str" t.name = some (decide (t = .str)) := by cases t <;> decide +kernel
theorem kit_tup (t : Ty) : kitB "tuple" t.name = some (decide (t = .tuple)) := by cases t <;> decide +kernel
theorem kit_lst (t : Ty) : kitB "list" t.name = some (decide (t = .list)) := by cases t <;> decide +kernel
theorem isi_kit {d : D} {t : Ty} {b : Bool} (h : isiD d t = some b) : kitB d.ty t.name = some b := by
  cases d
  · rw [show D.ty .non = "NoneType" from rfl, kit_non]; cases t <;> exact h
  · rename_i k; rw [show D.ty (.bl k) = "bool" from rfl, kit_bl]; cases t <;> exact h
  · rename_i k; rw [show D.ty (.int k) = "int" from rfl, kit_int]; cases t <;> exact h
  · rename_i k; rw [show D.ty (.str k) = "str" from rfl, kit_str]; cases t <;> exact h
  · rename_i k; rw [show D.ty (.tup k) = "tuple" from rfl, kit_tup]; cases t <;> exact h
  · rename_i k; rw [show D.ty (.lst k) = "list" from rfl, kit_lst]; cases t <;> exact h
  · cases t <;> cases h
  · cases t <;> cases h
theorem Rep.tyX {w : Wd} {c : C} {H : Hp} {v : V} {d : D} (r : Rep X.K w v d) (a : At w c H) (hd : d.ty ≠ "") : TyX X.K H v (.type d.ty) := by
  cases r with
  | non => exact .base .non
  | bl b => exact .base (.bl b)
  | int i => exact .base (.int i)
  | str s => exact .base (.str s)
  | tup s r =>
    rcases a.tup s with (s | ⟨o, s⟩) | ⟨o, its, n, s, c, _⟩
    · exact .base (.tup s)
    · exact .fTuple s
    · exact .kTuple s c
  | lst s r => exact .base (.lst (a.F _ _ s))
  | cup e => exact (hd rfl).elim
  | scr e => exact (hd rfl).elim
theorem ty_ne {d : D} {t : Ty} {b : Bool} (h : isiD d t = some b) : d.ty ≠ "" := by
  cases d
  · show "NoneType" ≠ ""; decide
  · show "bool" ≠ ""; decide
  · show "int" ≠ ""; decide
  · show "str" ≠ ""; decide
  · show "tuple" ≠ ""; decide
  · show "list" ≠ ""; decide
  · cases t <;> cases h
  · cases t <;> cases h
theorem b_isi {t : Ty} : CallR X (.builtin "isinstance") (fun vs H Q => ∃ v w d c Z, vs = [v, .ty t.name] ∧ At w c H ∧ Rep X.K w v d ∧ Out X.K T.ex (Rep X.K) w H (R.of ((isiD d t).map D.bl) c) Q Z) := by
  refine CallR.imp call_isi ?_
  rintro vs H Q ⟨v, w, d, c, Z, rfl, a, r, o⟩
  obtain ⟨d', e, o⟩ := o.ofO
  simp only [Option.map_eq_some_iff] at e
  obtain ⟨b, e, rfl⟩ := e
  refine ⟨v, _, .type d.ty, .type t.name, b, rfl, .ty _, r.tyX a ?_, kit_ty (isi_kit e), o.ok a (.bl b)⟩
  exact ty_ne e
theorem s_isi (G : Good T F X W) {a : Expr} {A : E} {t : Ty} {x : Str} {p p2 pos : Pos} (ha : PE X a (tE X.K T F W A)) (hn : noStar a = true) (hg : Gl X "isinstance") (hx : x = Str.ofString t.name) (hg2 : Gl X x) :
    PE X (.Call (.Name "isinstance" p) [a, .Name x p2] [] pos) (tE X.K T F W (.isi A t)) := by
  have ht : PE X (.Name x p2) (tC (.ty t.name)) := by
    subst hx
    cases t
    · exact pe_bltn (v := .ty "int") hg2 (G.bt _ (by decide)) (by decide +kernel) rfl
    · exact pe_bltn (v := .ty "bool") hg2 (G.bt _ (by decide)) (by decide +kernel) rfl
    · exact pe_bltn (v := .ty "tuple") hg2 (G.bt _ (by decide)) (by decide +kernel) rfl
    · exact pe_bltn (v := .ty "list") hg2 (G.bt _ (by decide)) (by decide +kernel) rfl
    · exact pe_bltn (v := .ty "str") hg2 (G.bt _ (by decide)) (by decide +kernel) rfl
  refine PE.imp (pe_callB (b_isi (T := T) (t := t)) hg (G.bt _ (by decide)) (by decide +kernel) (pa_cons ha (pa_cons ht pa_nil (starEach_cons rfl)) (starEach_cons hn)) (by decide) (by decide) (starEach_cons hn) (starEach_any (by rfl))) fun σ H Q h => ?_
  obtain ⟨w, c, env, a, r, o⟩ := r_un (rep' := Rep X.K) (U' := uses A) (run := evE F T.gv A) hid h
  exact ⟨w, c, env, a, r, o.mono fun v H1 ⟨w, d, c, a, q, o⟩ => ⟨v, w, d, c, _, rfl, a, q, o⟩⟩
/-- built-in functions by name -/
theorem s_biBN (G : Good T F X W) {b : Bi} {id : String} {x : Str} {a : Expr} {as : List Expr} {As : Es} {p pos : Pos} (hc : CallR X (.builtin id) (rB X.K T.ex b)) (hx : x ∈ blts) (hg : Gl X x) (hv : bootBuiltins x = some (.builtin id))
    (hs : PA X (a :: as) (tEs X.K T F W As)) (hn : noStar a = true) (hn2 : as.all noStar = true) (h1 : x ≠ "__name__") (h2 : (x == ("__debug__" : Str)) = false) : PE X (.Call (.Name x p) (a :: as) [] pos) (tN X.K T F W (.bi b As)) := by
  refine PE.imp (pe_callB hc hg (G.bt _ hx) hv hs h1 h2 (starEach_cons hn) (starEach_any hn2)) fun σ H Q h => ?_
  obtain ⟨w, c, env, a, r, o⟩ := r_unN (rep' := Reps X.K) (U' := usesEs As) (run := evEs F T.gv As) hid h
  exact ⟨w, c, env, a, r, o.mono fun v H1 ⟨w, d, c, a, q, o⟩ => ⟨w, d, c, _, a, q, o⟩⟩
theorem s_biTN (G : Good T F X W) {b : Bi} {id : String} {x : Str} {a : Expr} {as : List Expr} {As : Es} {p pos : Pos} (hc : CallR X (.type id) (rB X.K T.ex b)) (hx : x ∈ blts) (hg : Gl X x) (hv : bootBuiltins x = some (.type id))
    (hs : PA X (a :: as) (tEs X.K T F W As)) (hn : noStar a = true) (hn2 : as.all noStar = true) (h1 : x ≠ "__name__") (h2 : (x == ("__debug__" : Str)) = false) : PE X (.Call (.Name x p) (a :: as) [] pos) (tN X.K T F W (.bi b As)) := by
  refine PE.imp (pe_callTy hc hg (G.bt _ hx) hv hs h1 h2 (starEach_cons hn) (starEach_any hn2)) fun σ H Q h => ?_
  obtain ⟨w, c, env, a, r, o⟩ := r_unN (rep' := Reps X.K) (U' := usesEs As) (run := evEs F T.gv As) hid h
  exact ⟨w, c, env, a, r, o.mono fun v H1 ⟨w, d, c, a, q, o⟩ => ⟨w, d, c, _, a, q, o⟩⟩
/-- a built-in's name, the number of its arguments -/
def biName : Bi → Str × Nat
  | .len => ("len", 1)
  | .int => ("int", 1)
  | .abs => ("abs", 1)
  | .list => ("list", 1)
  | .tuple => ("tuple", 1)
  | .sum => ("sum", 1)
  | .max => ("max", 1)
  | .min => ("min", 1)
  | .all => ("all", 1)
  | .max2 => ("max", 2)
  | .min2 => ("min", 2)
  | .range1 => ("range", 0)
  | .range2 => ("range", 0)
theorem s_biN (G : Good T F X W) {b : Bi} {x : Str} {a : Expr} {as : List Expr} {As : Es} {p pos : Pos} (hx : x = (biName b).1) (hk : (biName b).2 ≠ 0) (hg : Gl X x)
    (hs : PA X (a :: as) (tEs X.K T F W As)) (hn : noStar a = true) (hn2 : as.all noStar = true) : PE X (.Call (.Name x p) (a :: as) [] pos) (tN X.K T F W (.bi b As)) := by
  subst hx
  cases b
  · exact s_biBN G b_len (by decide) hg (by decide +kernel) hs hn hn2 (by decide) (by decide)
  · exact s_biTN G b_int (by decide) hg (by decide +kernel) hs hn hn2 (by decide) (by decide)
  · exact s_biBN G b_abs (by decide) hg (by decide +kernel) hs hn hn2 (by decide) (by decide)
  · exact s_biTN G b_list (by decide) hg (by decide +kernel) hs hn hn2 (by decide) (by decide)
  · exact s_biTN G b_tuple (by decide) hg (by decide +kernel) hs hn hn2 (by decide) (by decide)
  · exact s_biBN G (b_sum G.calm) (by decide) hg (by decide +kernel) hs hn hn2 (by decide) (by decide)
  · exact s_biBN G (b_max G.calm) (by decide) hg (by decide +kernel) hs hn hn2 (by decide) (by decide)
  · exact s_biBN G (b_min G.calm) (by decide) hg (by decide +kernel) hs hn hn2 (by decide) (by decide)
  · exact s_biBN G (b_all G.calm) (by decide) hg (by decide +kernel) hs hn hn2 (by decide) (by decide)
  · exact s_biBN G (b_max2 G.calm) (by decide) hg (by decide +kernel) hs hn hn2 (by decide) (by decide)
  · exact s_biBN G (b_min2 G.calm) (by decide) hg (by decide +kernel) hs hn hn2 (by decide) (by decide)
  · exact absurd rfl hk
  · exact absurd rfl hk
theorem s_bi (G : Good T F X W) {b : Bi} {x : Str} {a : Expr} {as : List Expr} {As : Es} {p pos : Pos} (hx : x = (biName b).1) (hk : (biName b).2 ≠ 0) (hg : Gl X x)
    (hs : PA X (a :: as) (tEs X.K T F W As)) (hn : noStar a = true) (hn2 : as.all noStar = true) : PE X (.Call (.Name x p) (a :: as) [] pos) (tE X.K T F W (.bi b As)) :=
  PE.imp (s_biN G hx hk hg hs hn hn2) fun _ _ _ h => tN_tE h
end
end Ev

set_option Elab.async false
set_option linter.all false
set_option maxRecDepth 100000
set_option maxHeartbeats 2000000
namespace Ev
open PySem L2 RZ PyProof.Rows
section
variable {T : Tab} {F : Fns} {X : Cx} {W : WX} {tg : Expr}

/-! ### what is walked -/
theorem Wk.mono {K : PySem.W.Frag} {J : L2.It} {w w' : Wd} {ds : List D} (h : Wk K J w ds) (l : w.le w') : Wk K J w' ds :=
  ⟨fun i H w1 c l1 a hi => h.go i H w1 c (l.trans l1) a hi, fun i H x H' w1 c l1 a hi y => h.yld i H x H' w1 c (l.trans l1) a hi y, fun i H w1 c l1 a hi => h.stop i H w1 c (l.trans l1) a hi⟩
theorem le_at {w w1 : Wd} {c : C} {H : Hp} (l : w.le w1) (a : At w1 c H) : ∀ p o, w.F p = some o → H p = some o := fun p o h => a.F p o (l.F p o h)
theorem wk_list {K : PySem.W.Frag} {w : Wd} {a : Addr} {xs : List V} {ds : List D} (h : w.F a = some (.lst xs)) (r : Reps K w xs ds) : Wk K (Itl K a) w ds where
  go := fun i H w1 c l at1 hi => by
    obtain ⟨v, e, _⟩ := r.get (List.getElem?_eq_getElem hi)
    exact ⟨xs, v, .inl (.inl (le_at l at1 _ _ h)), e⟩
  yld := fun i H x H' w1 c l at1 _ y => by
    obtain ⟨rfl, y⟩ := y
    have e := y xs (.inl (.inl (le_at l at1 _ _ h)))
    obtain ⟨d, e2, q⟩ := r.getV e
    exact ⟨w1, d, e2, .refl _ _, at1, q.mono l⟩
  stop := fun i H w1 c l at1 hi => ⟨xs, .inl (.inl (le_at l at1 _ _ h)), by rw [r.length]; exact hi⟩
theorem wk_tup {K : PySem.W.Frag} {w : Wd} {a : Addr} {xs : List V} {ds : List D} (h : SqT K w.F a xs) (r : Reps K w xs ds) : Wk K (Itt K a) w ds where
  go := fun i H w1 c l at1 hi => by
    obtain ⟨v, e, _⟩ := r.get (List.getElem?_eq_getElem hi)
    exact ⟨xs, v, sqT_mono (le_at l at1) h, e⟩
  yld := fun i H x H' w1 c l at1 _ y => by
    obtain ⟨rfl, y⟩ := y
    have e := y xs (sqT_mono (le_at l at1) h)
    obtain ⟨d, e2, q⟩ := r.getV e
    exact ⟨w1, d, e2, .refl _ _, at1, q.mono l⟩
  stop := fun i H w1 c l at1 hi => ⟨xs, sqT_mono (le_at l at1) h, by rw [r.length]; exact hi⟩
theorem rg_len (a b : Int) : (rg a b).length = (b - a).toNat := by simp [rg]
theorem rg_get {a b : Int} {i : Nat} (h : i < (b - a).toNat) : (rg a b)[i]? = some (.int (a + (i : Nat))) := by
  unfold rg
  rw [List.getElem?_map, List.getElem?_range h]; rfl
theorem wk_range {K : PySem.W.Frag} {w : Wd} {a b : Int} : Wk K (Itr a (b - a).toNat) w (rg a b) where
  go := fun i H w1 c l at1 hi => by rw [rg_len] at hi; exact hi
  yld := fun i H x H' w1 c l at1 hi y => by
    obtain ⟨rfl, rfl⟩ := y
    rw [rg_len] at hi
    exact ⟨w1, _, rg_get hi, .refl _ _, at1, .int _⟩
  stop := fun i H w1 c l at1 hi => by rw [rg_len] at hi; exact hi
theorem rg3_len (a b s : Int) : (rg3 a b s).length = (Builtin.Range.rangeSize a b s).toNat := by simp [rg3]
theorem rg3_get {a b s : Int} {i : Nat} (h : i < (Builtin.Range.rangeSize a b s).toNat) : (rg3 a b s)[i]? = some (.int (a + (i : Nat) * s)) := by
  unfold rg3
  rw [List.getElem?_map, List.getElem?_range h]; rfl
theorem wk_range3 {K : PySem.W.Frag} {w : Wd} {a b s : Int} : Wk K (Itc a s (Builtin.Range.rangeSize a b s).toNat) w (rg3 a b s) where
  go := fun i H w1 c l at1 hi => by rw [rg3_len] at hi; exact hi
  yld := fun i H x H' w1 c l at1 hi y => by
    obtain ⟨rfl, rfl⟩ := y
    rw [rg3_len] at hi
    exact ⟨w1, _, rg3_get hi, .refl _ _, at1, .int _⟩
  stop := fun i H w1 c l at1 hi => by rw [rg3_len] at hi; exact hi
theorem zipD_len (xs ys : List D) : (zipD xs ys).length = min xs.length ys.length := by simp [zipD]
theorem zipD_get {xs ys : List D} {i : Nat} {x y : D} (h1 : xs[i]? = some x) (h2 : ys[i]? = some y) : (zipD xs ys)[i]? = some (.tup [x, y]) := by
  unfold zipD
  rw [List.getElem?_map, (List.getElem?_zip_eq_some (z := (x, y))).mpr ⟨h1, h2⟩]; rfl
theorem pair_new {K : PySem.W.Frag} {w : Wd} {c : C} {H : Hp} {t : Addr} {x y : V} {d e : D} (a : At w c H) (n : H t = none) (r1 : Rep K w x d) (r2 : Rep K w y e) :
    Step w H (w.put t (.tup [x, y])) (upd H t (.tup [x, y])) ∧ At (w.put t (.tup [x, y])) c (upd H t (.tup [x, y])) ∧ Rep K (w.put t (.tup [x, y])) (.ref t) (.tup [d, e]) :=
  ⟨Step.new a n, a.new n, .tup (.inl (.inl Wd.put_same)) (.cons (r1.mono (Wd.le_put (a.nof n))) (.cons (r2.mono (Wd.le_put (a.nof n))) .nil))⟩
theorem wk_zip {K : PySem.W.Frag} {w : Wd} {a b : Addr} {xs ys : List V} {ds es : List D} (h : w.F a = some (.lst xs)) (r : Reps K w xs ds) (h2 : w.F b = some (.lst ys)) (r2 : Reps K w ys es) : Wk K (Itz K a b) w (zipD ds es) where
  go := fun i H w1 c l at1 hi => by
    rw [zipD_len] at hi
    obtain ⟨v, e, _⟩ := r.get (List.getElem?_eq_getElem (show i < ds.length by omega))
    obtain ⟨v2, e2, _⟩ := r2.get (List.getElem?_eq_getElem (show i < es.length by omega))
    exact ⟨xs, ys, v, v2, .inl (.inl (le_at l at1 _ _ h)), .inl (.inl (le_at l at1 _ _ h2)), e, e2⟩
  yld := fun i H x H' w1 c l at1 _ y => by
    obtain ⟨t, u, v, rfl, n, rfl, y1, y2⟩ := y
    obtain ⟨d, e, q⟩ := r.getV (y1 xs (.inl (.inl (le_at l at1 _ _ h))))
    obtain ⟨d2, e2, q2⟩ := r2.getV (y2 ys (.inl (.inl (le_at l at1 _ _ h2))))
    exact ⟨_, _, zipD_get e e2, pair_new at1 n (q.mono l) (q2.mono l)⟩
  stop := fun i H w1 c l at1 hi => by
    rw [zipD_len] at hi
    refine ⟨xs, ys, .inl (.inl (le_at l at1 _ _ h)), .inl (.inl (le_at l at1 _ _ h2)), ?_⟩
    rw [r.length, r2.length]; omega
theorem wk_zipT {K : PySem.W.Frag} {w : Wd} {a b : Addr} {xs ys : List V} {ds es : List D} (h : SqT K w.F a xs) (r : Reps K w xs ds) (h2 : SqT K w.F b ys) (r2 : Reps K w ys es) : Wk K (ItzT K a b) w (zipD ds es) where
  go := fun i H w1 c l at1 hi => by
    rw [zipD_len] at hi
    obtain ⟨v, e, _⟩ := r.get (List.getElem?_eq_getElem (show i < ds.length by omega))
    obtain ⟨v2, e2, _⟩ := r2.get (List.getElem?_eq_getElem (show i < es.length by omega))
    exact ⟨xs, ys, v, v2, sqT_mono (le_at l at1) h, sqT_mono (le_at l at1) h2, e, e2⟩
  yld := fun i H x H' w1 c l at1 _ y => by
    obtain ⟨t, u, v, rfl, n, rfl, y1, y2⟩ := y
    obtain ⟨d, e, q⟩ := r.getV (y1 xs (sqT_mono (le_at l at1) h))
    obtain ⟨d2, e2, q2⟩ := r2.getV (y2 ys (sqT_mono (le_at l at1) h2))
    exact ⟨_, _, zipD_get e e2, pair_new at1 n (q.mono l) (q2.mono l)⟩
  stop := fun i H w1 c l at1 hi => by
    rw [zipD_len] at hi
    refine ⟨xs, ys, sqT_mono (le_at l at1) h, sqT_mono (le_at l at1) h2, ?_⟩
    rw [r.length, r2.length]; omega
theorem enumD_len (xs : List D) : (enumD xs).length = xs.length := by simp [enumD]
theorem enumD_get {xs : List D} {i : Nat} {x : D} (h1 : xs[i]? = some x) : (enumD xs)[i]? = some (.tup [.int (i : Nat), x]) := by
  unfold enumD
  rw [List.getElem?_map, List.getElem?_zipIdx, h1]
  simp
theorem wk_enum {K : PySem.W.Frag} {w : Wd} {a : Addr} {xs : List V} {ds : List D} (h : w.F a = some (.lst xs)) (r : Reps K w xs ds) : Wk K (Ite K a) w (enumD ds) where
  go := fun i H w1 c l at1 hi => by
    rw [enumD_len] at hi
    obtain ⟨v, e, _⟩ := r.get (List.getElem?_eq_getElem hi)
    exact ⟨xs, v, .inl (.inl (le_at l at1 _ _ h)), e⟩
  yld := fun i H x H' w1 c l at1 _ y => by
    obtain ⟨t, v, rfl, n, rfl, y1⟩ := y
    obtain ⟨d, e, q⟩ := r.getV (y1 xs (.inl (.inl (le_at l at1 _ _ h))))
    exact ⟨_, _, enumD_get e, pair_new at1 n (.int _) (q.mono l)⟩
  stop := fun i H w1 c l at1 hi => by
    rw [enumD_len] at hi
    exact ⟨xs, .inl (.inl (le_at l at1 _ _ h)), by rw [r.length]; exact hi⟩

/-! ### the iterators of the text -/
theorem pi_seq {l : Expr} {tl : TE} (hl : PE X l tl) : PI X tg l (fun σ H R => tl σ H fun x H1 => ∃ a xs, x = .ref a ∧ ((SqL X.K H1 a xs ∧ R (Itl X.K a) H1) ∨ (SqT X.K H1 a xs ∧ R (Itt X.K a) H1))) := by
  refine ⟨fun pins s σ H R I h => ?_⟩
  refine thn (hl.run pins s σ H _ I h) fun v s1 ⟨x, H1, I1, r1, q1⟩ => ?_
  obtain ⟨a, xs, e, q⟩ := q1
  subst e
  cases r1
  rcases q with ⟨hq, q⟩ | ⟨hq, q⟩
  · obtain ⟨its, rv, p, hz⟩ := I1.list hq
    refine wpAny_pyIter_list p.isList ?_
    exact pi_one (tk := s1.toks) I1 _ (turn_list a _) ⟨_, Heap.get?_push_size _ rfl, rfl, rfl⟩ q
  · obtain ⟨its, rv, p, hz⟩ := I1.tuple hq
    refine wpAny_pyIter_tuple (show s1.heap.IsTuple a its.toArray from p) ?_
    exact pi_one (tk := s1.toks) I1 _ (turn_tuple a _) ⟨_, Heap.get?_push_size _ rfl, rfl, rfl⟩ q
theorem i_of {l : Expr} {A : E} (hl : PE X l (tE X.K T F W A)) : PI X tg l (tI X.K T F W (.of A)) := by
  refine PI.imp (pi_seq hl) fun σ H R h => ?_
  obtain ⟨w, c, env, a, r, o⟩ := r_un (rep' := Rep X.K) (U' := uses A) (run := evE F T.gv A) hid h
  refine ⟨w, c, env, a, r, o.mono fun v H1 ⟨w, d, c, a, q, o⟩ => ?_⟩
  obtain ⟨ds, e, o⟩ := o.ofO
  unfold items at e
  split at e <;> try (cases e; done)
  · cases e
    obtain ⟨p, xs, rfl, k1, k2⟩ := q.tupV
    exact ⟨p, xs, rfl, .inr ⟨a.tup k1, o.ok a (wk_tup k1 k2)⟩⟩
  · cases e
    obtain ⟨p, xs, rfl, k1, k2⟩ := q.lstV
    exact ⟨p, xs, rfl, .inl ⟨a.lst k1, o.ok a (wk_list k1 k2)⟩⟩
/-- ranges lean on no datum -/
def tIr (K : PySem.W.Frag) (T : Tab) (F : Fns) (W : WX) (it : It) : TI := tEv K T W (fun _ J ds => ∀ w1, Wk K J w1 ds) (usesI it) (evI F T.gv it)
theorem Out.rep {α β : Type} {K : PySem.W.Frag} {ex : Str → Option (Addr × Str)} {rep rep' : Wd → β → α → Prop} {w : Wd} {H : Hp} {r : R α} {Q : β → Hp → Prop} {Z : XK} (h : Out K ex rep' w H r Q Z) (i : ∀ w v d, rep w v d → rep' w v d) : Out K ex rep w H r Q Z := by
  cases r with
  | ok d c => exact fun v w' H' s a q => h v w' H' s a (i _ _ _ q)
  | ex x c => exact h
  | no => exact h
theorem tIr_tI {K : PySem.W.Frag} {it : It} {σ : L2.St} {H : Hp} {R' : L2.It → Hp → Prop} (h : tI K T F W it σ H R') : tIr K T F W it σ H R' := by
  obtain ⟨w, c, env, a, r, o⟩ := h
  exact ⟨w, c, env, a, r, Out.rep o fun w J ds q => q w⟩
theorem i_r1r (G : Good T F X W) {e : Expr} {A : E} {p pos : Pos} (hg : Gl X "range") (ha : PE X e (tE X.K T F W A)) (hn : noStar e = true) : PI X tg (.Call (.Name "range" p) [e] [] pos) (tIr X.K T F W (.r1 A)) := by
  refine PI.imp (pi_range1 hg (G.bt _ (by decide)) (pa_cons ha pa_nil (starEach_cons hn)) (starEach_cons hn)) fun σ H R h => ?_
  obtain ⟨w, c, env, a, r, o⟩ := r_un (rep' := Rep X.K) (U' := uses A) (run := evE F T.gv A) hid h
  refine ⟨w, c, env, a, r, o.mono fun v H1 ⟨w, d, c, a, q, o⟩ => ?_⟩
  cases d <;> try exact o.elim
  rename_i n
  cases q
  dsimp only at o
  split at o
  · rename_i ok
    replace ok := rgOk_so ok
    refine ⟨n, rfl, ok.1.2, ok.2, ?_⟩
    have := o.ok a (rep := fun _ J ds => ∀ w1, Wk X.K J w1 ds) (v := Itr 0 (n - 0).toNat) (fun _ => wk_range)
    rw [Int.sub_zero] at this
    exact this
  · exact o.elim
theorem i_r1 (G : Good T F X W) {e : Expr} {A : E} {p pos : Pos} (hg : Gl X "range") (ha : PE X e (tE X.K T F W A)) (hn : noStar e = true) : PI X tg (.Call (.Name "range" p) [e] [] pos) (tI X.K T F W (.r1 A)) :=
  PI.imp (i_r1r G hg ha hn) fun _ _ _ h => tIr_tI h
theorem i_r2r (G : Good T F X W) {e f : Expr} {A B : E} {p pos : Pos} (hg : Gl X "range") (ha : PE X e (tE X.K T F W A)) (hb : PE X f (tE X.K T F W B)) (hn : noStar e = true) (hn2 : noStar f = true) : PI X tg (.Call (.Name "range" p) [e, f] [] pos) (tIr X.K T F W (.r2 A B)) := by
  refine PI.imp (pi_range2 hg (G.bt _ (by decide)) (pa_cons ha (pa_cons hb pa_nil (starEach_cons hn2)) (starEach_cons hn)) (by rw [starEach_cons hn, starEach_cons hn2]; rfl) (starEach_cons hn2)) fun σ H R h => ?_
  obtain ⟨w, c, env, a, r, o⟩ := r_two (rep1 := Rep X.K) (rep2 := Rep X.K) (U1 := uses A) (U2 := uses B) (fun l r => r.mono l) hor1 hor2 h
  refine ⟨w, c, env, a, r, o.mono fun v H1 ⟨w, c, env, a, r, o⟩ => ⟨w, c, env, a, r, o.mono fun u H2 ⟨w, x, y, c, a, r1, r2, o2⟩ => ?_⟩⟩
  cases x <;> try exact o2.elim
  cases y <;> try exact o2.elim
  rename_i m n
  cases r1; cases r2
  dsimp only at o2
  split at o2
  · rename_i ok
    replace ok := rgOk_so ok
    exact ⟨m, n, rfl, ⟨ok.1.1.1, ok.1.1.2, ok.1.2, ok.2⟩, o2.ok a (rep := fun _ J ds => ∀ w1, Wk X.K J w1 ds) (fun _ => wk_range)⟩
  · exact o2.elim

theorem i_r2 (G : Good T F X W) {e f : Expr} {A B : E} {p pos : Pos} (hg : Gl X "range") (ha : PE X e (tE X.K T F W A)) (hb : PE X f (tE X.K T F W B)) (hn : noStar e = true) (hn2 : noStar f = true) : PI X tg (.Call (.Name "range" p) [e, f] [] pos) (tI X.K T F W (.r2 A B)) :=
  PI.imp (i_r2r G hg ha hb hn hn2) fun _ _ _ h => tIr_tI h
theorem r_three {K : PySem.W.Frag} {α β : Type} {rep : Wd → β → α → Prop} {U : Nat → Bool} {A B D' : E} {k : D → D → D → C → R α} {σ : L2.St} {H : Hp} {Q : β → Hp → Prop}
    (hu1 : ∀ i, uses A i = true → U i = true) (hu2 : ∀ i, uses B i = true → U i = true) (hu3 : ∀ i, uses D' i = true → U i = true)
    (h : tEv K T W rep U (fun env c => (evE F T.gv A env c).bind fun x c1 => (evE F T.gv B env c1).bind fun y c2 => (evE F T.gv D' env c2).bind fun z c3 => k x y z c3) σ H Q) :
    tE K T F W A σ H (fun v H1 => tE K T F W B σ H1 fun u H2 => tE K T F W D' σ H2 fun t H3 => ∃ w x y z c, At w c H3 ∧ Rep K w v x ∧ Rep K w u y ∧ Rep K w t z ∧ Out K T.ex rep w H3 (k x y z c) Q (fun cls d H' => W cls d σ H')) := by
  obtain ⟨w, c, env, a, r, o⟩ := h
  refine ⟨w, c, env, a, r.mono (.refl w) hu1, ?_⟩
  refine (Out.bind (rep' := Rep K) o).mono fun v H1 ⟨x, c1, w1, _, s1, a1, q1, o1⟩ => ?_
  refine ⟨w1, c1, env, a1, r.mono s1.le hu2, ?_⟩
  refine (Out.bind (rep' := Rep K) o1).mono fun u H2 ⟨y, c2, w2, _, s2, a2, q2, o2⟩ => ?_
  refine ⟨w2, c2, env, a2, r.mono (s1.le.trans s2.le) hu3, ?_⟩
  exact (Out.bind (rep' := Rep K) o2).mono fun t H3 ⟨z, c3, w3, _, s3, a3, q3, o3⟩ => ⟨w3, x, y, z, c3, a3, (q1.mono s2.le).mono s3.le, q2.mono s3.le, q3, o3⟩
theorem i_r3r (G : Good T F X W) {e f g : Expr} {A B D' : E} {p pos : Pos} (hg : Gl X "range") (ha : PE X e (tE X.K T F W A)) (hb : PE X f (tE X.K T F W B)) (hc : PE X g (tE X.K T F W D')) (hn : noStar e = true) (hn2 : noStar f = true) (hn3 : noStar g = true) :
    PI X tg (.Call (.Name "range" p) [e, f, g] [] pos) (tIr X.K T F W (.r3 A B D')) := by
  refine PI.imp (pi_range3 hg (G.bt _ (by decide)) (pa_cons ha (pa_cons hb (pa_cons hc pa_nil (starEach_cons hn3)) (starEach_cons hn2)) (starEach_cons hn)) (starEach_cons hn) (starEach_any (by simp [hn2, hn3]))) fun σ H R h => ?_
  obtain ⟨w, c, env, a, r, o⟩ := r_three (U := usesI (.r3 A B D')) (A := A) (B := B) (D' := D') (fun i h => by simp only [usesI]; rw [h]; rfl) (fun i h => by simp only [usesI]; rw [h]; simp) (fun i h => by simp only [usesI]; rw [h]; simp) h
  refine ⟨w, c, env, a, r, o.mono fun v H1 ⟨w, c, env, a, r, o⟩ => ⟨w, c, env, a, r, o.mono fun u H2 ⟨w, c, env, a, r, o⟩ => ⟨w, c, env, a, r, o.mono fun t H3 ⟨w, x, y, z, c, a, r1, r2, r3, o2⟩ => ?_⟩⟩⟩
  cases x <;> try exact o2.elim
  cases y <;> try exact o2.elim
  cases z <;> try exact o2.elim
  rename_i m n s
  cases r1; cases r2; cases r3
  dsimp only at o2
  split at o2
  · rename_i ok
    unfold rg3Ok at ok
    simp only [Bool.and_eq_true, decide_eq_true_eq] at ok
    refine ⟨m, n, s, (Builtin.Range.rangeSize m n s).toNat, rfl, ⟨ok.1.1.1, ok.1.1.2, ok.1.2, ?_⟩, o2.ok a (rep := fun _ J ds => ∀ w1, Wk X.K J w1 ds) (fun _ => wk_range3)⟩
    have := ok.2; omega
  · exact o2.elim
theorem i_r3 (G : Good T F X W) {e f g : Expr} {A B D' : E} {p pos : Pos} (hg : Gl X "range") (ha : PE X e (tE X.K T F W A)) (hb : PE X f (tE X.K T F W B)) (hc : PE X g (tE X.K T F W D')) (hn : noStar e = true) (hn2 : noStar f = true) (hn3 : noStar g = true) :
    PI X tg (.Call (.Name "range" p) [e, f, g] [] pos) (tI X.K T F W (.r3 A B D')) :=
  PI.imp (i_r3r G hg ha hb hc hn hn2 hn3) fun _ _ _ h => tIr_tI h
theorem i_zip (G : Good T F X W) {e f : Expr} {A B : E} {elts : List Expr} {kk : Nat} {p pos tpos : Pos} (hg : Gl X "zip") (ha : PE X e (tE X.K T F W A)) (hb : PE X f (tE X.K T F W B)) (hn : noStar e = true) (hn2 : noStar f = true) :
    PI X (.Tuple elts kk tpos) (.Call (.Name "zip" p) [e, f] [] pos) (tI X.K T F W (.zip A B)) := by
  refine PI.imp (pi_zipA hg (G.bt _ (by decide)) (pa_cons ha (pa_cons hb pa_nil (starEach_cons hn2)) (starEach_cons hn)) (starEach_cons hn) (starEach_any (by simp [hn2]))) fun σ H R h => ?_
  obtain ⟨w, c, env, a, r, o⟩ := r_two (rep1 := Rep X.K) (rep2 := Rep X.K) (U1 := uses A) (U2 := uses B) (fun l r => r.mono l) hor1 hor2 h
  refine ⟨w, c, env, a, r, o.mono fun v H1 ⟨w, c, env, a, r, o⟩ => ⟨w, c, env, a, r, o.mono fun u H2 ⟨w, x, y, c, a, r1, r2, o2⟩ => ?_⟩⟩
  cases x <;> try exact o2.elim
  · cases y <;> try exact o2.elim
    obtain ⟨p1, xs, rfl, k1, k2⟩ := r1.tupV
    obtain ⟨p2, ys, rfl, m1, m2⟩ := r2.tupV
    exact ⟨p1, p2, xs, ys, rfl, .inr ⟨a.tup k1, a.tup m1, o2.ok a (rep := fun w J ds => Wk X.K J w ds) (wk_zipT k1 k2 m1 m2)⟩⟩
  · cases y <;> try exact o2.elim
    obtain ⟨p1, xs, rfl, k1, k2⟩ := r1.lstV
    obtain ⟨p2, ys, rfl, m1, m2⟩ := r2.lstV
    exact ⟨p1, p2, xs, ys, rfl, .inl ⟨a.lst k1, a.lst m1, o2.ok a (rep := fun w J ds => Wk X.K J w ds) (wk_zip k1 k2 m1 m2)⟩⟩
theorem i_enum (G : Good T F X W) {e : Expr} {A : E} {elts : List Expr} {kk : Nat} {p pos tpos : Pos} (hg : Gl X "enumerate") (ha : PE X e (tE X.K T F W A)) (hn : noStar e = true) :
    PI X (.Tuple elts kk tpos) (.Call (.Name "enumerate" p) [e] [] pos) (tI X.K T F W (.enum A)) := by
  refine PI.imp (pi_enum hg (G.bt _ (by decide)) (pa_cons ha pa_nil (starEach_cons hn)) (starEach_cons hn)) fun σ H R h => ?_
  obtain ⟨w, c, env, a, r, o⟩ := r_un (rep' := Rep X.K) (U' := uses A) (run := evE F T.gv A) hid h
  refine ⟨w, c, env, a, r, o.mono fun v H1 ⟨w, d, c, a, q, o⟩ => ?_⟩
  cases d <;> try exact o.elim
  obtain ⟨p, xs, rfl, k1, k2⟩ := q.lstV
  exact ⟨p, xs, rfl, a.lst k1, o.ok a (rep := fun w J ds => Wk X.K J w ds) (wk_enum k1 k2)⟩
/-! ### list(range(..)), tuple(range(..)) -/
theorem rgV_rep {K : PySem.W.Frag} {w : Wd} (a b : Int) : Reps K w (rgV a b) (rg a b) := by
  unfold rgV rg
  generalize (List.range (b - a).toNat) = l
  induction l with
  | nil => exact .nil
  | cons x l ih => exact .cons (.int _) ih
/-- a range as a value: its bounds -/
def tRgE (K : PySem.W.Frag) (T : Tab) (F : Fns) (W : WX) (it : It) : L2.St → Hp → (Int → Int → Hp → Prop) → Prop := fun σ H Q =>
  tEv K T W (fun _ (ab : Int × Int) ds => ds = rg ab.1 ab.2 ∧ rgOk ab.1 ab.2 = true) (usesI it) (evI F T.gv it) σ H (fun ab H' => Q ab.1 ab.2 H')
theorem PRg.imp {e : Expr} {t t' : L2.St → Hp → (Int → Int → Hp → Prop) → Prop} (h : PRg X e t) (i : ∀ σ H Q, t' σ H Q → t σ H Q) : PRg X e t' := fun pins s σ H Q I q => h pins s σ H Q I (i σ H Q q)
theorem g_r1 (G : Good T F X W) {e : Expr} {A : E} {p pos : Pos} (hg : Gl X "range") (ha : PE X e (tE X.K T F W A)) (hn : noStar e = true) : PRg X (.Call (.Name "range" p) [e] [] pos) (tRgE X.K T F W (.r1 A)) := by
  refine PRg.imp (prg_1 hg (G.bt _ (by decide)) ha (starEach_cons hn)) fun σ H Q h => ?_
  obtain ⟨w, c, env, a, r, o⟩ := r_un (rep' := Rep X.K) (U' := uses A) (run := evE F T.gv A) hid h
  refine ⟨w, c, env, a, r, o.mono fun v H1 ⟨w, d, c, a, q, o⟩ => ?_⟩
  cases d <;> try exact o.elim
  rename_i n
  cases q
  dsimp only at o
  split at o
  · rename_i ok
    exact ⟨n, rfl, o.ok a (v := (0, n)) ⟨rfl, ok⟩⟩
  · exact o.elim
theorem g_r2 (G : Good T F X W) {e f : Expr} {A B : E} {p pos : Pos} (hg : Gl X "range") (ha : PE X e (tE X.K T F W A)) (hb : PE X f (tE X.K T F W B)) (hn : noStar e = true) (hn2 : noStar f = true) : PRg X (.Call (.Name "range" p) [e, f] [] pos) (tRgE X.K T F W (.r2 A B)) := by
  refine PRg.imp (prg_2 hg (G.bt _ (by decide)) ha hb (starEach_cons hn) (starEach_cons hn2) (starEach_any (by simp [hn2]))) fun σ H Q h => ?_
  obtain ⟨w, c, env, a, r, o⟩ := r_two (rep1 := Rep X.K) (rep2 := Rep X.K) (U1 := uses A) (U2 := uses B) (fun l r => r.mono l) hor1 hor2 h
  refine ⟨w, c, env, a, r, o.mono fun v H1 ⟨w, c, env, a, r, o⟩ => ⟨w, c, env, a, r, o.mono fun u H2 ⟨w, x, y, c, a, r1, r2, o2⟩ => ?_⟩⟩
  cases x <;> try exact o2.elim
  cases y <;> try exact o2.elim
  rename_i m n
  cases r1; cases r2
  dsimp only at o2
  split at o2
  · rename_i ok
    exact ⟨m, n, rfl, rfl, o2.ok a (v := (m, n)) ⟨rfl, ok⟩⟩
  · exact o2.elim
theorem s_listRN (G : Good T F X W) {e : Expr} {it : It} {p pos : Pos} (hg : Gl X "list") (he : PRg X e (tRgE X.K T F W it)) (hn : noStar e = true) : PE X (.Call (.Name "list" p) [e] [] pos) (tN X.K T F W (.listR it)) := by
  refine PE.imp (pe_listRg G.calm hg (G.bt _ (by decide)) he (starEach_cons hn)) fun σ H Q h => ?_
  have h2 := r_unN (rep' := fun _ (ab : Int × Int) ds => ds = rg ab.1 ab.2 ∧ rgOk ab.1 ab.2 = true) (U' := usesI it) (run := evI F T.gv it) hid h
  obtain ⟨w, c, env, a, r, o⟩ := h2
  refine ⟨w, c, env, a, r, o.mono fun ab H1 ⟨w, ds, c, a, q, o⟩ => ?_⟩
  obtain ⟨rfl, ok⟩ := q
  split at o
  · rename_i hl
    rw [rg_len] at hl
    replace ok := rgOk_so ok
    exact ⟨⟨ok.1.1.1, ok.1.1.2, ok.1.2, ok.2, hl⟩, o.newL a (rgV_rep _ _)⟩
  · exact o.elim
theorem s_listR (G : Good T F X W) {e : Expr} {it : It} {p pos : Pos} (hg : Gl X "list") (he : PRg X e (tRgE X.K T F W it)) (hn : noStar e = true) : PE X (.Call (.Name "list" p) [e] [] pos) (tE X.K T F W (.listR it)) :=
  PE.imp (s_listRN G hg he hn) fun _ _ _ h => tN_tE h
theorem s_tupR (G : Good T F X W) {e : Expr} {it : It} {p pos : Pos} (hg : Gl X "tuple") (he : PRg X e (tRgE X.K T F W it)) (hn : noStar e = true) : PE X (.Call (.Name "tuple" p) [e] [] pos) (tE X.K T F W (.tupR it)) := by
  refine PE.imp (pe_tupRg G.calm hg (G.bt _ (by decide)) he (starEach_cons hn)) fun σ H Q h => ?_
  have h2 := r_un (rep' := fun _ (ab : Int × Int) ds => ds = rg ab.1 ab.2 ∧ rgOk ab.1 ab.2 = true) (U' := usesI it) (run := evI F T.gv it) hid h
  obtain ⟨w, c, env, a, r, o⟩ := h2
  refine ⟨w, c, env, a, r, o.mono fun ab H1 ⟨w, ds, c, a, q, o⟩ => ?_⟩
  obtain ⟨rfl, ok⟩ := q
  split at o
  · rename_i hl
    rw [rg_len] at hl
    replace ok := rgOk_so ok
    exact ⟨⟨ok.1.1.1, ok.1.1.2, ok.1.2, ok.2, hl⟩, o.newT a (rgV_rep _ _)⟩
  · exact o.elim
end
end Ev

set_option Elab.async false
set_option linter.all false
set_option maxRecDepth 100000
set_option maxHeartbeats 2000000
namespace Ev
open PySem L2
section
variable {T : Tab} {F : Fns} {X : Cx} {W : WX}

/-! ### targets -/
def Tg.slots : Tg → List Nat
  | .v i => [i]
  | .tup is => is
def gs : List Nat → TGs
  | [] => gNil
  | i :: is => gCons (gName i) (gs is)
def gTg (K : PySem.W.Frag) : Tg → TG
  | .v i => gName i
  | .tup is => gTup K is.length (gs is)
theorem at_set {env : Env} {i j : Nat} {d : D} : Env.at (env.set i (some d)) j = if i = j ∧ i < env.length then some d else Env.at env j := by
  unfold Env.at
  by_cases e : i = j
  · subst e
    by_cases h : i < env.length
    · rw [if_pos ⟨rfl, h⟩, List.getElem?_set_self h]; rfl
    · rw [if_neg (fun z => h z.2), List.getElem?_eq_none (by simpa using h), List.getElem?_eq_none (by simpa using h)]
  · rw [if_neg (fun z => e z.1), List.getElem?_set_ne e]
/-- behind the stores: the slots that were stored hold the data, the others are as they were -/
structure Stored (K : PySem.W.Frag) (w : Wd) (is : List Nat) (σ σ' : St) (env env' : Env) : Prop where
  len : σ'.length = σ.length
  lenE : env'.length = env.length
  new : ∀ i d, i ∈ is → Env.at env' i = some d → ∃ v, σ'[i]? = some (some v) ∧ Rep K w v d
  old : ∀ i, i ∉ is → σ'[i]? = σ[i]? ∧ Env.at env' i = Env.at env i
theorem Stored.nil {K : PySem.W.Frag} {w : Wd} {σ : St} {env : Env} : Stored K w [] σ σ env env := ⟨rfl, rfl, fun i d h => (nomatch h), fun i _ => ⟨rfl, rfl⟩⟩
theorem Stored.cons {K : PySem.W.Frag} {w : Wd} {i : Nat} {is : List Nat} {σ σ' : St} {env env' : Env} {v : V} {d : D} (hl : env.length ≤ σ.length) (r : Rep K w v d) (s : Stored K w is (σ.set i (some v)) σ' (env.set i (some d)) env') : Stored K w (i :: is) σ σ' env env' where
  len := by rw [s.len, List.length_set]
  lenE := by rw [s.lenE, List.length_set]
  new := fun j e hj he => by
    by_cases hm : j ∈ is
    · exact s.new j e hm he
    · have hji : j = i := by
        rcases List.mem_cons.mp hj with z | z
        · exact z
        · exact absurd z hm
      subst hji
      obtain ⟨o1, o2⟩ := s.old j hm
      rw [o2, at_set] at he
      rw [o1]
      by_cases hlt : j < env.length
      · rw [if_pos ⟨rfl, hlt⟩] at he
        cases he
        exact ⟨v, List.getElem?_set_self (by omega), r⟩
      · rw [if_neg (fun z => hlt z.2)] at he
        unfold Env.at at he
        rw [List.getElem?_eq_none (by simpa using hlt)] at he
        cases he
  old := fun j hj => by
    obtain ⟨h1, h2⟩ : j ≠ i ∧ j ∉ is := by simpa [not_or] using hj
    obtain ⟨o1, o2⟩ := s.old j h2
    rw [o1, o2, List.getElem?_set_ne (Ne.symm h1), at_set, if_neg (fun z => h1 z.1.symm)]
    exact ⟨rfl, rfl⟩
theorem gs_ok {K : PySem.W.Frag} {w : Wd} {H : Hp} {Q : St → Hp → Prop} : ∀ {is : List Nat} {vs : List V} {ds : List D} {σ : St} {env : Env}, Reps K w vs ds → is.length = ds.length → env.length ≤ σ.length →
    (∀ σ', Stored K w is σ σ' env ((is.zip ds).foldl (fun e p => e.set p.1 (some p.2)) env) → Q σ' H) → gs is vs σ H Q
  | [], _, [], σ, env, .nil, _, _, h => ⟨rfl, h σ .nil⟩
  | i :: is, _, d :: ds, σ, env, .cons r s, hl, hle, h => by
    refine ⟨_, _, rfl, ?_⟩
    refine gs_ok (env := env.set i (some d)) s (by simpa using hl) (by simpa using hle) fun σ' st => ?_
    exact h σ' (st.cons hle r)
  | [], _, _ :: _, _, _, _, hl, _, _ => by simp at hl
theorem tg_ok {K : PySem.W.Frag} {w : Wd} {c : C} {H : Hp} {Q : St → Hp → Prop} {tg : Tg} {v : V} {d : D} {σ : St} {env env1 : Env} (a : At w c H) (r : Rep K w v d) (hle : env.length ≤ σ.length) (e : setTg tg d env = some env1)
    (h : ∀ σ', Stored K w tg.slots σ σ' env env1 → Q σ' H) : gTg K tg v σ H Q := by
  cases tg with
  | v i =>
    simp only [setTg, Option.some.injEq] at e
    subst e
    exact h _ (Stored.cons hle r .nil)
  | tup is =>
    cases d <;> simp only [setTg, reduceCtorEq] at e
    rename_i ds
    split at e
    · rename_i hl
      cases e
      obtain ⟨p, xs, rfl, s1, q1⟩ := r.tupV
      exact ⟨p, xs, rfl, a.tup s1, by rw [q1.length, hl], gs_ok q1 hl hle h⟩
    · cases e
/-! ### the block's slots -/
theorem wipeE_len (env : Env) : ∀ vs : List Nat, (Ev.wipe env vs).length = env.length
  | [] => rfl
  | v :: vs => by unfold Ev.wipe; rw [List.length_set, wipeE_len env vs]
theorem wipeE_at {env : Env} {i : Nat} {d : D} : ∀ {vs : List Nat}, Env.at (Ev.wipe env vs) i = some d → i ∉ vs ∧ Env.at env i = some d
  | [], h => ⟨by simp, h⟩
  | v :: vs, h => by
    unfold Ev.wipe at h
    by_cases e : v = i
    · subst e
      unfold Env.at at h
      by_cases hl : v < (Ev.wipe env vs).length
      · rw [List.getElem?_set_self hl] at h; cases h
      · rw [List.getElem?_eq_none (by simpa using hl)] at h; cases h
    · unfold Env.at at h
      rw [List.getElem?_set_ne e] at h
      obtain ⟨h1, h2⟩ := wipeE_at (vs := vs) h
      exact ⟨fun m => (List.mem_cons.mp m).elim (fun z => e z.symm) h1, h2⟩
theorem RepEnv.wipe {K : PySem.W.Frag} {w : Wd} {σ : St} {env : Env} {U : Nat → Bool} (r : RepEnv K w σ env U) (vs : List Nat) : RepEnv K w (L2.wipe σ vs) (Ev.wipe env vs) U where
  len := by rw [wipeE_len, wipe_length]; exact r.len
  get := fun i d u e => by
    obtain ⟨h1, h2⟩ := wipeE_at e
    obtain ⟨v, e1, q⟩ := r.get i d u h2
    exact ⟨v, by rw [wipe_out h1]; exact e1, q⟩
theorem RepEnv.stored {K : PySem.W.Frag} {w : Wd} {σ σ' : St} {env env' : Env} {U : Nat → Bool} {is : List Nat} (r : RepEnv K w σ env U) (s : Stored K w is σ σ' env env') : RepEnv K w σ' env' U where
  len := by rw [s.len, s.lenE]; exact r.len
  get := fun i d u e => by
    by_cases h : i ∈ is
    · exact s.new i d h e
    · obtain ⟨o1, o2⟩ := s.old i h
      rw [o2] at e
      obtain ⟨v, e1, q⟩ := r.get i d u e
      exact ⟨v, by rw [o1]; exact e1, q⟩
theorem stored_wipe {K : PySem.W.Frag} {w : Wd} {σ σ' : St} {env env' : Env} {is vs : List Nat} (s : Stored K w is (L2.wipe σ vs) σ' env env') (h : ∀ i ∈ is, i ∈ vs) : L2.wipe σ' vs = L2.wipe σ vs := by
  have key : ∀ (τ τ' : St) (ws : List Nat), τ.length = τ'.length → (∀ i, i ∉ ws → τ'[i]? = τ[i]?) → L2.wipe τ' ws = L2.wipe τ ws := by
    intro τ τ' ws hl hs
    apply List.ext_getElem?
    intro i
    by_cases hi : i ∈ ws
    · have one : ∀ (ρ : St) (us : List Nat), i ∈ us → (L2.wipe ρ us)[i]? = if i < ρ.length then some none else none := by
        intro ρ us
        induction us with
        | nil => intro h; exact absurd h (by simp)
        | cons u us ih =>
          intro h
          unfold L2.wipe
          by_cases e : u = i
          · subst e
            by_cases hlt : u < ρ.length
            · rw [List.getElem?_set_self (by rw [wipe_length]; exact hlt), if_pos hlt]
            · rw [List.getElem?_eq_none (by rw [List.length_set, wipe_length]; omega), if_neg hlt]
          · rw [List.getElem?_set_ne e]
            exact ih ((List.mem_cons.mp h).resolve_left fun z => e z.symm)
      rw [one τ' ws hi, one τ ws hi, hl]
    · rw [wipe_out hi, wipe_out hi]; exact hs i hi
  have h1 : L2.wipe (L2.wipe σ vs) vs = L2.wipe σ vs := key σ (L2.wipe σ vs) vs (by rw [wipe_length]) fun i hi => wipe_out hi
  rw [← h1]
  refine key _ _ vs s.len.symm fun i hi => ?_
  exact (s.old i fun z => hi (h i z)).1
end
end Ev

set_option Elab.async false
set_option linter.all false
set_option maxRecDepth 100000
set_option maxHeartbeats 2000000
namespace Ev
open PySem L2
section
variable {T : Tab} {F : Fns} {X : Cx} {W : WX}

abbrev WN : WX := fun _ _ _ _ => False
/-- one turn of a comprehension -/
def turnC (F : Fns) (G : List D) (own : List Nat) (tg : Tg) (f : Eo) (e : E) (env : Env) (d : D) (c : C) : R (List D) :=
  match setTg tg d (wipe env own) with
  | none => .no
  | some env1 => match evF F G f env1 c with
    | .ok true c2 => match evE F G e env1 c2 with
      | .ok x c3 => .ok [x] c3
      | _ => .no
    | .ok false c2 => .ok [] c2
    | _ => .no
theorem evE_comp {G : List D} {own : List Nat} {it : It} {tg : Tg} {f : Eo} {e : E} {env : Env} {c : C} : evE F G (.comp own it tg f e) env c =
    (evI F G it env c).bind fun ds c1 => (compGo (turnC F G own tg f e env) ds c1).bind fun xs c2 => if ds.length < lim then .ok (.lst xs) c2 else .no := by
  unfold evE
  rfl
theorem compGo_cons {step : D → C → R (List D)} {d : D} {ds : List D} {c : C} : compGo step (d :: ds) c = (step d c).bind fun xs c1 => (compGo step ds c1).bind fun ys c2 => .ok (xs ++ ys) c2 := rfl
theorem turn_ne {G : List D} {own : List Nat} {tg : Tg} {f : Eo} {e : E} {env : Env} {d : D} {c c1 : C} {x : Ex} : turnC F G own tg f e env d c ≠ .ex x c1 := by
  unfold turnC
  intro h
  split at h
  · cases h
  · split at h
    · split at h <;> cases h
    · cases h
    · cases h
theorem Out.ex_elim {α β : Type} {K : PySem.W.Frag} {ex : Str → Option (Addr × Str)} {rep : Wd → β → α → Prop} {w : Wd} {H : Hp} {Q : β → Hp → Prop} {Z : XK} (h : Out K ex rep w H (R.no : R α) Q Z) : False := h
/-- the state of a comprehension ahead of its i-th turn -/
structure CompAt (K : PySem.W.Frag) (T : Tab) (F : Fns) (own : List Nat) (tg : Tg) (f : Eo) (e : E) (env : Env) (Q : VK) (Z : XK) (D' : Addr) (w1 : Wd) (H1 : Hp) (ds : List D) (i : Nat) (H : Hp) : Prop where
  hi : i ≤ ds.length
  go : ∃ w c xs zs, Step w1 H1 w H ∧ At w c H ∧ Hid D' (.lst xs) w H ∧ Reps K w xs zs ∧ xs.length ≤ i ∧
    OutN K T.ex w1 H1 ((compGo (turnC F T.gv own tg f e env) (ds.drop i) c).bind fun ys c2 => if ds.length < lim then .ok (.lst (zs ++ ys)) c2 else .no) Q Z
theorem r_comp {K : PySem.W.Frag} {own : List Nat} {it : It} {tg : Tg} {f : Eo} {e : E} {σ : St} {H : Hp} {Q : VK} (ht : ∀ i ∈ tg.slots, i ∈ own) (h : tN K T F W (.comp own it tg f e) σ H Q) :
    tLc (tI K T F W it) (gTg K tg) (tF K T F WN f) (tE K T F WN e) own σ H Q := by
  obtain ⟨w, c, env, a, r, o⟩ := h
  rw [evE_comp] at o
  refine ⟨w, c, env, a, r.mono (.refl w) hor1, ?_⟩
  refine (OutN.bind (rep' := fun w J ds => Wk K J w ds) o).mono fun J H1 ⟨ds, c1, w1, _, s1, a1, wk, o1⟩ => ?_
  intro D' hD
  refine ⟨fun i m H' => m = ds.length - i ∧ CompAt K T F own tg f e env Q (fun cls d H' => W cls d σ H') D' w1 H1 ds i H', ⟨_, rfl, Nat.zero_le _, w1, c1, [], [], Step.updNew (.refl _ _) hD, a1.hid (a1.nof hD) (a1.cup.ne hD), Hid.new a1 hD, .nil, Nat.le_refl _, o1⟩, ?_⟩
  rintro i m H2 ⟨rfl, hi, w2, c2, xs, zs, s2, a2, hd2, rz, hl, o2⟩
  by_cases hlt : i < ds.length
  · refine .inr ⟨wk.go i H2 w2 c2 s2.le a2 hlt, fun H' => CompAt K T F own tg f e env Q (fun cls d H' => W cls d σ H') D' w1 H1 ds (i + 1) H', fun H' q => ⟨ds.length - (i + 1), by omega, rfl, q⟩, fun x H3 y => ?_⟩
    obtain ⟨w3, d, e3, s3, a3, rx⟩ := wk.yld i H2 x H3 w2 c2 s2.le a2 hlt y
    have hd3 := hd2.step s3
    have edrop : ds.drop i = d :: ds.drop (i + 1) := by
      rw [List.drop_eq_getElem_cons hlt]
      congr 1
      exact Option.some.inj ((List.getElem?_eq_getElem hlt).symm.trans e3)
    rw [edrop, compGo_cons] at o2
    -- the turn
    have hne : turnC F T.gv own tg f e env d c2 ≠ .no := fun z => by
      rw [z] at o2; exact o2
    unfold turnC at hne
    cases et : setTg tg d (wipe env own) with
    | none => rw [et] at hne; exact absurd rfl hne
    | some env1 =>
      rw [et] at hne
      dsimp only at hne
      have r3 : RepEnv K w3 (L2.wipe σ own) (wipe env own) (uses (.comp own it tg f e)) := (r.mono (s1.le.trans (s2.le.trans s3.le)) hid).wipe own
      refine tg_ok a3 rx r3.len et fun σ' st => ⟨stored_wipe st ht, ?_⟩
      have r4 := r3.stored st
      refine ⟨w3, c2, env1, a3, r4.mono (.refl _) (fun i h => by simp only [uses]; rw [h]; simp), ?_⟩
      cases ef : evF F T.gv f env1 c2 with
      | no => rw [ef] at hne; exact absurd rfl hne
      | ex x c4 => rw [ef] at hne; exact absurd rfl hne
      | ok b c4 =>
        intro b' w4 H4 s4 a4 eb
        have eb' : b' = b := eb
        subst eb'
        have hd4 := hd3.step s4
        cases b' with
        | false =>
          rw [if_neg (by decide)]
          refine ⟨hlt, w4, c4, xs, zs, (s2.trans s3).trans s4, a4, hd4, rz.mono (s3.le.trans s4.le), by omega, ?_⟩
          have et2 : turnC F T.gv own tg f e env d c2 = .ok [] c4 := by unfold turnC; rw [et]; dsimp only; rw [ef]
          rw [et2] at o2
          refine cast ?_ o2
          congr 1
          dsimp only [R.bind]
          cases compGo (turnC F T.gv own tg f e env) (ds.drop (i + 1)) c4 <;> rfl
        | true =>
          rw [if_pos rfl]
          rw [ef] at hne
          dsimp only at hne
          refine ⟨w4, c4, env1, a4, r4.mono s4.le (fun i h => by simp only [uses]; rw [h]; simp), ?_⟩
          cases ee : evE F T.gv e env1 c4 with
          | no => rw [ee] at hne; exact absurd rfl hne
          | ex x c5 => rw [ee] at hne; exact absurd rfl hne
          | ok z c5 =>
            intro v w5 H5 s5 a5 rv
            have hd5 := hd4.step s5
            have s25 := ((s2.trans s3).trans s4).trans s5
            have et2 : turnC F T.gv own tg f e env d c2 = .ok [z] c5 := by unfold turnC; rw [et]; dsimp only; rw [ef]; dsimp only; rw [ee]
            rw [et2] at o2
            refine ⟨xs, hd5.h, ?_, hlt, w5, c5, xs ++ [v], zs ++ [z], s25.updNew hD, a5.hid hd5.f hd5.c, hd5.upd, (rz.mono ((s3.le.trans s4.le).trans s5.le)).append (.cons rv .nil), ?_, ?_⟩
            · have hlim : ds.length < lim := by
                by_cases q : ds.length < lim
                · exact q
                · exfalso
                  dsimp only [R.bind] at o2
                  cases eg : compGo (turnC F T.gv own tg f e env) (ds.drop (i + 1)) c5 with
                  | no => rw [eg] at o2; exact o2
                  | ok ys c6 => rw [eg] at o2; dsimp only at o2; rw [if_neg q] at o2; exact o2
                  | ex x c6 =>
                    have key : ∀ (l : List D) (c c' : C) (x : Ex), compGo (turnC F T.gv own tg f e env) l c ≠ .ex x c' := by
                      intro l
                      induction l with
                      | nil => intro c c' x z; cases z
                      | cons b l ih =>
                        intro c c' x z
                        rw [compGo_cons] at z
                        cases eb : turnC F T.gv own tg f e env b c with
                        | no => rw [eb] at z; cases z
                        | ex y c3 => exact turn_ne eb
                        | ok y c3 =>
                          rw [eb] at z
                          dsimp only [R.bind] at z
                          cases eb2 : compGo (turnC F T.gv own tg f e env) l c3 with
                          | no => rw [eb2] at z; cases z
                          | ex y c4 => exact ih _ _ _ eb2
                          | ok y c4 => rw [eb2] at z; cases z
                    exact key _ _ _ _ eg
              have := lim_le
              omega
            · rw [List.length_append]; show xs.length + 1 ≤ i + 1; omega
            · refine cast ?_ o2
              congr 1
              dsimp only [R.bind]
              cases compGo (turnC F T.gv own tg f e env) (ds.drop (i + 1)) c5 with
              | no => rfl
              | ex x c6 => rfl
              | ok ys c6 =>
                dsimp only
                rw [List.append_assoc]
  · have ei : i = ds.length := by omega
    subst ei
    refine .inl ⟨wk.stop _ H2 w2 c2 s2.le a2 (Nat.le_refl _), ?_⟩
    rw [List.drop_length] at o2
    have o3 : OutN K T.ex w1 H1 (if ds.length < lim then .ok (.lst (zs ++ [])) c2 else .no) Q (fun cls d H' => W cls d σ H') := o2
    split at o3
    · rw [List.append_nil] at o3
      exact o3 _ _ _ _ s2 a2 hD hd2 rz
    · exact o3.elim
end
end Ev

set_option Elab.async false
set_option linter.all false
set_option maxRecDepth 100000
set_option maxHeartbeats 4000000
namespace Ev
open PySem L2

/-! ### the look: an own expression beside the text's -/
def visB (sc : Scope) (x : Str) : Bool := match sc.names.lookup x with
  | some .local => true
  | some .cell => true
  | some .free => true
  | _ => false
def glB (sc : Scope) (x : Str) : Bool := match sc.names.lookup x with
  | some .globalImplicit => true
  | _ => false
def isIte : E → Bool
  | .ite .. => true
  | _ => false
def chkK : D → Const → Bool
  | .int i, .int j => decide (i = j)
  | .bl i, .bool j => decide (i = j)
  | .str i, .str j => decide (i = j)
  | .non, .none => true
  | _, _ => false
/-- a name that is stored: in the scope sc as it was written -/
def chkN (N : List Str) (sc : Scope) (i : Nat) (x : Str) : Bool := decide (N[i]? = some x) && match sc.names.lookup x with
  | some .local => true
  | some .cell => true
  | _ => false
def chkNs (N : List Str) (sc : Scope) : List Nat → List Expr → Bool
  | [], [] => true
  | i :: is, .Name x _ :: es => chkN N sc i x && chkNs N sc is es
  | _, _ => false
def chkTg (N : List Str) (sc : Scope) : Tg → Expr → Bool
  | .v i, .Name x _ => chkN N sc i x
  | .tup is, .Tuple es _ _ => chkNs N sc is es
  | _, _ => false
def notSet : Expr → Bool
  | .Set .. => false
  | _ => true
def isTup : Expr → Bool
  | .Tuple .. => true
  | _ => false
def ownN (N : List Str) (own : List Nat) : List (Str × Nat) := own.map fun i => (N.getD i "", i)
section
variable (fn gn : List Str) (N : List Str)
mutual
def chkE : E → Scope → Expr → Bool
  | .v i, sc, e0 => match e0 with
    | .Name x _ => decide (N[i]? = some x) && visB sc x && !(x == "__debug__") && !(x == "__classdict__")
    | _ => false
  | .c d, _, e0 => match e0 with
    | .Constant k _ _ => chkK d k
    | _ => false
  | .gl j, sc, e0 => match e0 with
    | .Name x _ => decide (gn[j]? = some x) && glB sc x
    | _ => false
  | .bin o a b, sc, e0 => match e0 with
    | .BinOp x op y _ => decide (opB op = some o) && chkE a sc x && chkE b sc y
    | _ => false
  | .neg a, sc, e0 => match e0 with
    | .UnaryOp .USub x _ => chkE a sc x
    | _ => false
  | .not a, sc, e0 => match e0 with
    | .UnaryOp .Not x _ => !isIte a && chkE a sc x
    | _ => false
  | .cmp o a b, sc, e0 => match e0 with
    | .Compare x [op] [y] _ => decide (opC op = some o) && chkE a sc x && chkE b sc y && !behindInMarks op y
    | _ => false
  | .chain o p a b d, sc, e0 => match e0 with
    | .Compare x [op, op'] [y, z] _ => decide (opC op = some o) && decide (opC op' = some p) && chkE a sc x && chkE b sc y && chkE d sc z && !lastMarks [op, op'] [y, z]
    | _ => false
  | .and a b, sc, e0 => match e0 with
    | .BoolOp .And [x, y] _ => !isIte a && chkE a sc x && !isIte b && chkE b sc y
    | .BoolOp .And (x :: y :: z :: zs) pos => !isIte a && chkE a sc x && chkE b sc (.BoolOp .And (y :: z :: zs) pos)
    | _ => false
  | .or a b, sc, e0 => match e0 with
    | .BoolOp .Or [x, y] _ => !isIte a && chkE a sc x && !isIte b && chkE b sc y
    | .BoolOp .Or (x :: y :: z :: zs) pos => !isIte a && chkE a sc x && chkE b sc (.BoolOp .Or (y :: z :: zs) pos)
    | _ => false
  | .ite t a b, sc, e0 => match e0 with
    | .IfExp u x y _ => !isIte t && chkE t sc u && chkE a sc x && chkE b sc y
    | _ => false
  | .tup As, sc, e0 => match e0 with
    | .Tuple es _ _ => chkEs As sc es
    | _ => false
  | .lst As, sc, e0 => match e0 with
    | .List es _ => chkEs As sc es
    | _ => false
  | .ix a b, sc, e0 => match e0 with
    | .Subscript x y _ => chkE a sc x && chkE b sc y && noSlice y
    | _ => false
  | .ixc a k, sc, e0 => match e0 with
    | .Subscript x (.Constant (.int j) _ _) _ => chkE a sc x && decide (j = (k : Int))
    | _ => false
  | .sl a lo hi, sc, e0 => match e0 with
    | .Subscript x (.Slice l u none _) _ => chkE a sc x && chkO lo sc l && chkO hi sc u
    | _ => false
  | .rv a, sc, e0 => match e0 with
    | .Subscript x (.Slice none none (some (.UnaryOp .USub (.Constant (.int 1) _ _) _)) _) _ => chkE a sc x
    | _ => false
  | .call f As, sc, e0 => match e0 with
    | .Call (.Name x _) es [] _ => decide (fn[f]? = some x) && glB sc x && chkEs As sc es
    | _ => false
  | .bi b As, sc, e0 => match e0 with
    | .Call (.Name x _) (e :: es) [] _ => decide (x = (biName b).1) && decide ((biName b).2 ≠ 0) && glB sc x && chkEs As sc (e :: es)
    | _ => false
  | .isi a t, sc, e0 => match e0 with
    | .Call (.Name f _) [x, .Name y _] [] _ => decide (f = "isinstance") && glB sc f && decide (y = Str.ofString t.name) && glB sc y && chkE a sc x && noStar x
    | _ => false
  | .comp own it tg f e, sc, e0 => match e0 with
    | .ListComp elt [⟨tge, iter, ifs, 0⟩] scope _ => chkI it sc tge iter && notSet iter && blkC N sc scope (ownN N own) && chkTg N scope tg tge && tg.slots.all (fun i => own.contains i) &&
      chkF f (relS scope sc) ifs && chkE e (relS scope sc) elt
    | _ => false
  | .comp2 .., _, _ => false
  | .listR it, sc, e0 => match e0 with
    | .Call (.Name f _) [e] [] _ => decide (f = "list") && glB sc f && chkG it sc e && noStar e
    | _ => false
  | .tupR it, sc, e0 => match e0 with
    | .Call (.Name f _) [e] [] _ => decide (f = "tuple") && glB sc f && chkG it sc e && noStar e
    | _ => false
def chkEs : Es → Scope → List Expr → Bool
  | .nil, _, es => match es with
    | [] => true
    | _ => false
  | .cons A As, sc, es => match es with
    | e :: es => chkE A sc e && noStar e && chkEs As sc es
    | _ => false
def chkO : Eo → Scope → Option Expr → Bool
  | .non, _, o => match o with
    | none => true
    | _ => false
  | .som A, sc, o => match o with
    | some e => chkE A sc e
    | _ => false
def chkF : Eo → Scope → List Expr → Bool
  | .non, _, o => match o with
    | [] => true
    | _ => false
  | .som A, sc, o => match o with
    | [e] => !isIte A && chkE A sc e
    | _ => false
def chkI : It → Scope → Expr → Expr → Bool
  | .of A, sc, _, e => chkE A sc e
  | .r1 a, sc, _, e0 => match e0 with
    | .Call (.Name f _) [x] [] _ => decide (f = "range") && glB sc f && chkE a sc x && noStar x
    | _ => false
  | .r2 a b, sc, _, e0 => match e0 with
    | .Call (.Name f _) [x, y] [] _ => decide (f = "range") && glB sc f && chkE a sc x && noStar x && chkE b sc y && noStar y
    | _ => false
  | .r3 a b c, sc, _, e0 => match e0 with
    | .Call (.Name f _) [x, y, z] [] _ => decide (f = "range") && glB sc f && chkE a sc x && noStar x && chkE b sc y && noStar y && chkE c sc z && noStar z
    | _ => false
  | .zip a b, sc, tge, e0 => match e0 with
    | .Call (.Name f _) [x, y] [] _ => decide (f = "zip") && isTup tge && glB sc f && chkE a sc x && noStar x && chkE b sc y && noStar y
    | _ => false
  | .enum a, sc, tge, e0 => match e0 with
    | .Call (.Name f _) [x] [] _ => decide (f = "enumerate") && isTup tge && glB sc f && chkE a sc x && noStar x
    | _ => false
/-- a range as a value -/
def chkG : It → Scope → Expr → Bool
  | .r1 a, sc, e0 => match e0 with
    | .Call (.Name f _) [x] [] _ => decide (f = "range") && glB sc f && chkE a sc x && noStar x
    | _ => false
  | .r2 a b, sc, e0 => match e0 with
    | .Call (.Name f _) [x, y] [] _ => decide (f = "range") && glB sc f && chkE a sc x && noStar x && chkE b sc y && noStar y
    | _ => false
  | _, _, _ => false
end
end
theorem vis_of {sc : Scope} {x : Str} (h : visB sc x = true) : Vis sc x := by
  unfold visB at h
  split at h
  · exact .inl (by assumption)
  · exact .inr (.inl (by assumption))
  · exact .inr (.inr (by assumption))
  · cases h
theorem gl_of {X : Cx} {x : Str} (h : glB X.env.scope x = true) : Gl X x := by
  unfold glB at h
  split at h
  · rename_i e; exact e
  · cases h
theorem ownN_snd (N : List Str) (own : List Nat) : (ownN N own).map (·.2) = own := by
  unfold ownN
  rw [List.map_map]
  induction own with
  | nil => rfl
  | cons a l ih => rw [List.map_cons, ih]; rfl
theorem Good.blk {T : Tab} {F : Fns} {X : Cx} {W : WX} (G : Good T F X W) (s : Shared) (H : Hp) (scope : Scope) (cenv : PySem.Env) (fp : List Addr) : Good T F (X.blk s H scope cenv fp) WN :=
  ⟨G.calm, G.nd, takes0, G.un, G.fn, G.gl, G.bt⟩
/-- a target in the block of a comprehension, in a def -/
theorem chkN_loc {N : List Str} {sc scope : Scope} {i : Nat} {x : Str} (h : chkN N scope i x = true) : N[i]? = some x ∧ Loc (relS scope sc) x ∧ ((scope.names.lookup x == some .cell) = true ∨ (relS scope sc).names.lookup x = some .local) := by
  unfold chkN at h
  simp only [Bool.and_eq_true, decide_eq_true_eq] at h
  refine ⟨h.1, ?_⟩
  have h2 := h.2
  split at h2
  · rename_i e
    have e2 := lookup_relS_keep (sc := sc) (k := .local) (by decide) e
    exact ⟨.inl e2, .inr e2⟩
  · rename_i e
    have e2 := lookup_relS_keep (sc := sc) (k := .cell) (by decide) e
    exact ⟨.inr e2, .inl (by rw [e]; rfl)⟩
  · cases h2
section
variable {X : Cx} {scope : Scope} {s : Shared} {H : Hp} {C' : Addr} {cl : List (Str × Addr)} {fp : List Addr}
theorem pgs_blk (hN : X.N.Nodup) : ∀ {is : List Nat} {es : List Expr}, chkNs X.N scope is es = true → PGs (X.blk s H scope (compEnvC scope cl C' X.env) fp) es (gs is)
  | [], [], _ => pgs_nil
  | i :: is, e :: es, h => by
    cases e <;> simp only [chkNs, Bool.and_eq_true, reduceCtorEq] at h
    rename_i x p
    obtain ⟨h1, h2, h3⟩ := chkN_loc (sc := X.env.scope) h.1
    exact pgs_cons (pg_name (i := i) hN h1 h2 h3) (pgs_blk hN h.2)
  | [], _ :: _, h => by simp [chkNs] at h
  | _ :: _, [], h => by simp [chkNs] at h
theorem chkNs_len {N : List Str} {sc : Scope} : ∀ {is : List Nat} {es : List Expr}, chkNs N sc is es = true → es.length = is.length
  | [], [], _ => rfl
  | i :: is, e :: es, h => by
    cases e <;> simp only [chkNs, Bool.and_eq_true, reduceCtorEq] at h
    rw [List.length_cons, List.length_cons, chkNs_len h.2]
  | [], _ :: _, h => by simp [chkNs] at h
  | _ :: _, [], h => by simp [chkNs] at h
theorem chkNs_names {N : List Str} {sc : Scope} {env : PySem.Env} : ∀ {is : List Nat} {es : List Expr}, chkNs N sc is es = true → (assignEach es env).length = is.length ∧ (assignEach es env).findIdx? (·.1) = none
  | [], [], _ => ⟨rfl, rfl⟩
  | i :: is, e :: es, h => by
    cases e <;> simp only [chkNs, Bool.and_eq_true, reduceCtorEq] at h
    rename_i x p
    obtain ⟨h1, h2⟩ := chkNs_names (env := env) h.2
    have e : assignEach (.Name x p :: es) env = (false, assign (.Name x p) env) :: assignEach es env := rfl
    rw [e]
    refine ⟨by rw [List.length_cons, List.length_cons, h1], ?_⟩
    rw [List.findIdx?_cons, h2]
    rfl
  | [], _ :: _, h => by simp [chkNs] at h
  | _ :: _, [], h => by simp [chkNs] at h
theorem pg_blk (hN : X.N.Nodup) (hc : X.calm = true) {tg : Tg} {e : Expr} (h : chkTg X.N scope tg e = true) : PG (X.blk s H scope (compEnvC scope cl C' X.env) fp) e (gTg X.K tg) := by
  cases tg with
  | v i =>
    cases e <;> simp only [chkTg, reduceCtorEq] at h
    obtain ⟨h1, h2, h3⟩ := chkN_loc (sc := X.env.scope) h
    exact pg_name (i := i) hN h1 h2 h3
  | tup is =>
    cases e <;> simp only [chkTg, reduceCtorEq] at h
    obtain ⟨h1, h2⟩ := chkNs_names (env := (X.blk s H scope (compEnvC scope cl C' X.env) fp).env) h
    exact pg_tup (X := X.blk s H scope (compEnvC scope cl C' X.env) fp) hc (pgs_blk hN h) h1 h2
end
end Ev

set_option Elab.async false
set_option linter.all false
set_option maxRecDepth 100000
set_option maxHeartbeats 8000000
namespace Ev
open PySem L2
/-- what is shown of an own expression beside the text's -/
structure SndE (T : Tab) (F : Fns) (X : Cx) (W : WX) (A : E) (e : Expr) : Prop where
  pe : PE X e (tE X.K T F W A)
  pt : isIte A = false → PT X e (tT X.K T F W A)
  pw : ∀ op vs pos, e = .BoolOp op vs pos → PW X e (tT X.K T F W A)
section
variable {T : Tab} {F : Fns}
theorem SndE.val {X : Cx} {W : WX} {A : E} {e : Expr} (h : PE X e (tE X.K T F W A)) (he : ∀ whole, isTrue e X.env whole = (do let v ← whole; standAt e.pos; holding [v] (truthy v))) (hb : ∀ op vs pos, e ≠ .BoolOp op vs pos) : SndE T F X W A e :=
  ⟨h, fun _ => t_val h he, fun op vs pos z => (hb op vs pos z).elim⟩
theorem chkEs_star {fn gn N : List Str} : ∀ {As : Es} {sc : Scope} {es : List Expr}, chkEs fn gn N As sc es = true → es.all noStar = true
  | .nil, _, [], _ => rfl
  | .cons A As, sc, e :: es, h => by
    simp only [chkEs, Bool.and_eq_true] at h
    simp only [List.all_cons, Bool.and_eq_true]
    exact ⟨h.1.2, chkEs_star h.2⟩
  | .nil, _, _ :: _, h => by simp only [chkEs, reduceCtorEq] at h
  | .cons _ _, _, [], h => by simp only [chkEs, reduceCtorEq] at h
theorem chkK_ok {X : Cx} {W : WX} {d : D} {k : Const} {j : Nat} {pos : Pos} (h : chkK d k = true) : PE X (.Constant k j pos) (tE X.K T F W (.c d)) := by
  unfold chkK at h
  split at h
  · cases of_decide_eq_true h; exact s_cint
  · cases of_decide_eq_true h; exact s_cbl
  · cases of_decide_eq_true h; exact s_cstr
  · exact s_cnon
  · cases h
theorem notSet_ok {iter : Expr} {env : PySem.Env} (h : notSet iter = true) : ∀ x, foldedSetIterable iter env x = pure x := by
  intro x
  cases iter <;> first | rfl | cases h
theorem isTup_ok {e : Expr} (h : isTup e = true) : ∃ es k pos, e = .Tuple es k pos := by
  cases e <;> first | exact ⟨_, _, _, rfl⟩ | cases h
mutual
theorem sndE : ∀ (A : E) (X : Cx) (W : WX) (e : Expr), Good T F X W → chkE T.fn T.gn X.N A X.env.scope e = true → SndE T F X W A e
  | .v i, X, W, e, G, h => by
    simp only [chkE] at h
    split at h
    · simp only [Bool.and_eq_true, decide_eq_true_eq, Bool.not_eq_true'] at h
      obtain ⟨⟨⟨h1, h2⟩, h3⟩, h4⟩ := h
      exact .val (s_v h1 (vis_of h2) h3 h4) (fun _ => rfl) (fun _ _ _ z => nomatch z)
    · cases h
  | .c d, X, W, e, G, h => by
    simp only [chkE] at h
    split at h
    · exact .val (chkK_ok h) (fun _ => rfl) (fun _ _ _ z => nomatch z)
    · cases h
  | .gl j, X, W, e, G, h => by
    simp only [chkE] at h
    split at h
    · simp only [Bool.and_eq_true, decide_eq_true_eq] at h
      exact .val (s_gl G h.1 (gl_of h.2)) (fun _ => rfl) (fun _ _ _ z => nomatch z)
    · cases h
  | .bin o a b, X, W, e, G, h => by
    simp only [chkE] at h
    split at h
    · simp only [Bool.and_eq_true, decide_eq_true_eq] at h
      exact .val (s_bin h.1.1 (sndE a X W _ G h.1.2).pe (sndE b X W _ G h.2).pe) (fun _ => rfl) (fun _ _ _ z => nomatch z)
    · cases h
  | .neg a, X, W, e, G, h => by
    simp only [chkE] at h
    split at h
    · exact .val (s_neg (sndE a X W _ G h).pe) (fun _ => rfl) (fun _ _ _ z => nomatch z)
    · cases h
  | .not a, X, W, e, G, h => by
    simp only [chkE] at h
    split at h
    · simp only [Bool.and_eq_true, Bool.not_eq_true'] at h
      have ih := sndE a X W _ G h.2
      exact ⟨s_not ih.pe, fun _ => t_not (ih.pt h.1), fun _ _ _ z => nomatch z⟩
    · cases h
  | .cmp o a b, X, W, e, G, h => by
    simp only [chkE] at h
    split at h
    · simp only [Bool.and_eq_true, decide_eq_true_eq, Bool.not_eq_true'] at h
      obtain ⟨⟨⟨h1, h2⟩, h3⟩, h4⟩ := h
      have i1 := sndE a X W _ G h2
      have i2 := sndE b X W _ G h3
      exact ⟨s_cmp G h1 i1.pe i2.pe h4, fun _ => t_cmp G h1 i1.pe i2.pe h4, fun _ _ _ z => nomatch z⟩
    · cases h
  | .chain o p a b d, X, W, e, G, h => by
    simp only [chkE] at h
    split at h
    · simp only [Bool.and_eq_true, decide_eq_true_eq, Bool.not_eq_true'] at h
      obtain ⟨⟨⟨⟨⟨h1, h2⟩, h3⟩, h4⟩, h5⟩, h6⟩ := h
      have i1 := sndE a X W _ G h3
      have i2 := sndE b X W _ G h4
      have i3 := sndE d X W _ G h5
      exact ⟨s_chain G h1 h2 i1.pe i2.pe i3.pe h6, fun _ => t_chain G h1 h2 i1.pe i2.pe i3.pe h6, fun _ _ _ z => nomatch z⟩
    · cases h
  | .and a b, X, W, e, G, h => by
    simp only [chkE] at h
    split at h
    · rename_i x y pos
      simp only [Bool.and_eq_true, Bool.not_eq_true'] at h
      obtain ⟨⟨⟨h1, h2⟩, h3⟩, h4⟩ := h
      have i1 := sndE a X W _ G h2
      have i2 := sndE b X W _ G h4
      have k := t_and (pos := pos) (i1.pt h1) (pw_and1 (i2.pt h3))
      exact ⟨s_and i1.pe (pe_one i2.pe), fun _ => k.pt, fun _ _ _ _ => k⟩
    · simp only [Bool.and_eq_true, Bool.not_eq_true'] at h
      obtain ⟨⟨h1, h2⟩, h3⟩ := h
      have i1 := sndE a X W _ G h2
      have i2 := sndE b X W _ G h3
      have k := t_and (i1.pt h1) (i2.pw _ _ _ rfl)
      exact ⟨s_and i1.pe i2.pe, fun _ => k.pt, fun _ _ _ _ => k⟩
    · cases h
  | .or a b, X, W, e, G, h => by
    simp only [chkE] at h
    split at h
    · rename_i x y pos
      simp only [Bool.and_eq_true, Bool.not_eq_true'] at h
      obtain ⟨⟨⟨h1, h2⟩, h3⟩, h4⟩ := h
      have i1 := sndE a X W _ G h2
      have i2 := sndE b X W _ G h4
      have k := t_or (pos := pos) (i1.pt h1) (pw_or1 (i2.pt h3))
      exact ⟨s_or i1.pe (pe_one i2.pe), fun _ => k.pt, fun _ _ _ _ => k⟩
    · simp only [Bool.and_eq_true, Bool.not_eq_true'] at h
      obtain ⟨⟨h1, h2⟩, h3⟩ := h
      have i1 := sndE a X W _ G h2
      have i2 := sndE b X W _ G h3
      have k := t_or (i1.pt h1) (i2.pw _ _ _ rfl)
      exact ⟨s_or i1.pe i2.pe, fun _ => k.pt, fun _ _ _ _ => k⟩
    · cases h
  | .ite t a b, X, W, e, G, h => by
    simp only [chkE] at h
    split at h
    · simp only [Bool.and_eq_true, Bool.not_eq_true'] at h
      obtain ⟨⟨⟨h1, h2⟩, h3⟩, h4⟩ := h
      exact ⟨s_ite ((sndE t X W _ G h2).pt h1) (sndE a X W _ G h3).pe (sndE b X W _ G h4).pe, (fun z => nomatch z), fun _ _ _ z => nomatch z⟩
    · cases h
  | .tup As, X, W, e, G, h => by
    simp only [chkE] at h
    split at h
    · exact .val (s_tup (sndEs As X W _ G h)) (fun _ => rfl) (fun _ _ _ z => nomatch z)
    · cases h
  | .lst As, X, W, e, G, h => by
    simp only [chkE] at h
    split at h
    · exact .val (s_lst (sndEs As X W _ G h)) (fun _ => rfl) (fun _ _ _ z => nomatch z)
    · cases h
  | .ix a b, X, W, e, G, h => by
    simp only [chkE] at h
    split at h
    · simp only [Bool.and_eq_true] at h
      exact .val (s_ix (sndE a X W _ G h.1.1).pe (sndE b X W _ G h.1.2).pe h.2) (fun _ => rfl) (fun _ _ _ z => nomatch z)
    · cases h
  | .ixc a k, X, W, e, G, h => by
    simp only [chkE] at h
    split at h
    · simp only [Bool.and_eq_true, decide_eq_true_eq] at h
      obtain ⟨h1, rfl⟩ := h
      exact .val (s_ixc (sndE a X W _ G h1).pe) (fun _ => rfl) (fun _ _ _ z => nomatch z)
    · cases h
  | .sl a lo hi, X, W, e, G, h => by
    simp only [chkE] at h
    split at h
    · simp only [Bool.and_eq_true] at h
      exact .val (s_sl (sndE a X W _ G h.1.1).pe (sndO lo X W _ G h.1.2) (sndO hi X W _ G h.2)) (fun _ => rfl) (fun _ _ _ z => nomatch z)
    · cases h
  | .rv a, X, W, e, G, h => by
    simp only [chkE] at h
    split at h
    · exact .val (s_rv (sndE a X W _ G h).pe) (fun _ => rfl) (fun _ _ _ z => nomatch z)
    · cases h
  | .call f As, X, W, e, G, h => by
    simp only [chkE] at h
    split at h
    · rename_i es pos
      simp only [Bool.and_eq_true, decide_eq_true_eq] at h
      obtain ⟨⟨h1, h2⟩, h3⟩ := h
      have i1 := sndEs As X W _ G h3
      have i2 := chkEs_star h3
      cases es with
      | nil =>
        cases As with
        | nil => exact .val (s_call0 G h1 (gl_of h2)) (fun _ => rfl) (fun _ _ _ z => nomatch z)
        | cons => simp only [chkEs, reduceCtorEq] at h3
      | cons e es =>
        simp only [List.all_cons, Bool.and_eq_true] at i2
        exact .val (s_call G h1 (gl_of h2) i1 i2.1 i2.2) (fun _ => rfl) (fun _ _ _ z => nomatch z)
    · cases h
  | .bi b As, X, W, e, G, h => by
    simp only [chkE] at h
    split at h
    · simp only [Bool.and_eq_true, decide_eq_true_eq] at h
      obtain ⟨⟨⟨h1, h2⟩, h3⟩, h4⟩ := h
      have i2 := chkEs_star h4
      simp only [List.all_cons, Bool.and_eq_true] at i2
      exact .val (s_bi G h1 h2 (gl_of h3) (sndEs As X W _ G h4) i2.1 i2.2) (fun _ => rfl) (fun _ _ _ z => nomatch z)
    · cases h
  | .isi a t, X, W, e, G, h => by
    simp only [chkE] at h
    split at h
    · simp only [Bool.and_eq_true, decide_eq_true_eq] at h
      obtain ⟨⟨⟨⟨⟨h1, h2⟩, h3⟩, h4⟩, h5⟩, h6⟩ := h
      subst h1
      exact .val (s_isi G (sndE a X W _ G h5).pe h6 (gl_of h2) h3 (gl_of h4)) (fun _ => rfl) (fun _ _ _ z => nomatch z)
    · cases h
  | .comp own it tg f e, X, W, e0, G, h => by
    simp only [chkE] at h
    split at h
    · rename_i elt tge iter ifs scope pos
      simp only [Bool.and_eq_true] at h
      obtain ⟨⟨⟨⟨⟨⟨h1, h2⟩, h3⟩, h4⟩, h5⟩, h6⟩, h7⟩ := h
      have hs : ∀ i ∈ tg.slots, i ∈ own := fun i hi => by
        have := List.all_eq_true.mp h5 i hi
        simpa using this
      refine .val ?_ (fun _ => rfl) (fun _ _ _ z => nomatch z)
      have k := pe_lc (elt := elt) (pos := pos) (g := gTg X.K tg) (tt := tF X.K T F WN f) (te := tE X.K T F WN e) G.calm G.nd (sndI it X W _ _ G h1) (blkOk_by h3) (fun s H C' cl fp => pg_blk G.nd G.calm h4)
        (fun s H C' cl fp => sndF f _ WN _ (G.blk s H _ _ fp) h6) (fun s H C' cl fp => (sndE e _ WN _ (G.blk s H _ _ fp) h7).pe) (notSet_ok h2)
      rw [ownN_snd] at k
      exact PE.imp k fun σ H Q q => r_comp hs (tN_tE q)
    · cases h
  | .comp2 .., X, W, e, G, h => by simp only [chkE, reduceCtorEq] at h
  | .listR it, X, W, e, G, h => by
    simp only [chkE] at h
    split at h
    · simp only [Bool.and_eq_true, decide_eq_true_eq] at h
      obtain ⟨⟨⟨h1, h2⟩, h3⟩, h4⟩ := h
      subst h1
      exact .val (s_listR G (gl_of h2) (sndG it X W _ G h3) h4) (fun _ => rfl) (fun _ _ _ z => nomatch z)
    · cases h
  | .tupR it, X, W, e, G, h => by
    simp only [chkE] at h
    split at h
    · simp only [Bool.and_eq_true, decide_eq_true_eq] at h
      obtain ⟨⟨⟨h1, h2⟩, h3⟩, h4⟩ := h
      subst h1
      exact .val (s_tupR G (gl_of h2) (sndG it X W _ G h3) h4) (fun _ => rfl) (fun _ _ _ z => nomatch z)
    · cases h
theorem sndEs : ∀ (As : Es) (X : Cx) (W : WX) (es : List Expr), Good T F X W → chkEs T.fn T.gn X.N As X.env.scope es = true → PA X es (tEs X.K T F W As)
  | .nil, X, W, es, G, h => by
    simp only [chkEs] at h
    split at h
    · exact a_nil
    · cases h
  | .cons A As, X, W, es, G, h => by
    simp only [chkEs] at h
    split at h
    · simp only [Bool.and_eq_true] at h
      exact a_cons (sndE A X W _ G h.1.1).pe (sndEs As X W _ G h.2) h.1.2
    · cases h
theorem sndO : ∀ (A : Eo) (X : Cx) (W : WX) (e : Option Expr), Good T F X W → chkO T.fn T.gn X.N A X.env.scope e = true → PO X e (tEo X.K T F W A)
  | .non, X, W, e, G, h => by
    simp only [chkO] at h
    split at h
    · exact o_non
    · cases h
  | .som A, X, W, e, G, h => by
    simp only [chkO] at h
    split at h
    · exact o_som (sndE A X W _ G h).pe
    · cases h
theorem sndF : ∀ (A : Eo) (X : Cx) (W : WX) (e : List Expr), Good T F X W → chkF T.fn T.gn X.N A X.env.scope e = true → PTs X e (tF X.K T F W A)
  | .non, X, W, e, G, h => by
    simp only [chkF] at h
    split at h
    · exact ⟨fun pins s σ H Q I q => pts_nil.run pins s σ H Q I (by obtain ⟨w, c, env, a, r, o⟩ := q; exact o.ok a rfl)⟩
    · cases h
  | .som A, X, W, e, G, h => by
    simp only [chkF] at h
    split at h
    · simp only [Bool.and_eq_true, Bool.not_eq_true'] at h
      have k := pts_one ((sndE A X W _ G h.2).pt h.1)
      refine ⟨fun pins s σ H Q I q => k.run pins s σ H Q I ?_⟩
      obtain ⟨w, c, env, a, r, o⟩ := q
      refine ⟨w, c, env, a, r, ?_⟩
      have e2 : (evE F T.gv A env c).bind asB = evF F T.gv (.som A) env c := by
        unfold evF
        cases evE F T.gv A env c with
        | ok d c1 => cases d <;> rfl
        | ex x c1 => rfl
        | no => rfl
      show Out X.K T.ex _ w H ((evE F T.gv A env c).bind asB) Q _
      rw [e2]; exact o
    · cases h
theorem sndI : ∀ (A : It) (X : Cx) (W : WX) (tge e : Expr), Good T F X W → chkI T.fn T.gn X.N A X.env.scope tge e = true → PI X tge e (tI X.K T F W A)
  | .of A, X, W, tge, e, G, h => by
    simp only [chkI] at h
    exact i_of (sndE A X W _ G h).pe
  | .r1 a, X, W, tge, e, G, h => by
    simp only [chkI] at h
    split at h
    · simp only [Bool.and_eq_true, decide_eq_true_eq] at h
      obtain ⟨⟨⟨h1, h2⟩, h3⟩, h4⟩ := h
      subst h1
      exact i_r1 G (gl_of h2) (sndE a X W _ G h3).pe h4
    · cases h
  | .r2 a b, X, W, tge, e, G, h => by
    simp only [chkI] at h
    split at h
    · simp only [Bool.and_eq_true, decide_eq_true_eq] at h
      obtain ⟨⟨⟨⟨⟨h1, h2⟩, h3⟩, h4⟩, h5⟩, h6⟩ := h
      subst h1
      exact i_r2 G (gl_of h2) (sndE a X W _ G h3).pe (sndE b X W _ G h5).pe h4 h6
    · cases h
  | .r3 a b c, X, W, tge, e, G, h => by
    simp only [chkI] at h
    split at h
    · simp only [Bool.and_eq_true, decide_eq_true_eq] at h
      obtain ⟨⟨⟨⟨⟨⟨⟨h1, h2⟩, h3⟩, h4⟩, h5⟩, h6⟩, h7⟩, h8⟩ := h
      subst h1
      exact i_r3 G (gl_of h2) (sndE a X W _ G h3).pe (sndE b X W _ G h5).pe (sndE c X W _ G h7).pe h4 h6 h8
    · cases h
  | .zip a b, X, W, tge, e, G, h => by
    simp only [chkI] at h
    split at h
    · simp only [Bool.and_eq_true, decide_eq_true_eq] at h
      obtain ⟨⟨⟨⟨⟨⟨h1, h2⟩, h3⟩, h4⟩, h5⟩, h6⟩, h7⟩ := h
      subst h1
      obtain ⟨es, k, pos, rfl⟩ := isTup_ok h2
      exact i_zip G (gl_of h3) (sndE a X W _ G h4).pe (sndE b X W _ G h6).pe h5 h7
    · cases h
  | .enum a, X, W, tge, e, G, h => by
    simp only [chkI] at h
    split at h
    · simp only [Bool.and_eq_true, decide_eq_true_eq] at h
      obtain ⟨⟨⟨⟨h1, h2⟩, h3⟩, h4⟩, h5⟩ := h
      subst h1
      obtain ⟨es, k, pos, rfl⟩ := isTup_ok h2
      exact i_enum G (gl_of h3) (sndE a X W _ G h4).pe h5
    · cases h
theorem sndG : ∀ (A : It) (X : Cx) (W : WX) (e : Expr), Good T F X W → chkG T.fn T.gn X.N A X.env.scope e = true → PRg X e (tRgE X.K T F W A)
  | .r1 a, X, W, e, G, h => by
    simp only [chkG] at h
    split at h
    · simp only [Bool.and_eq_true, decide_eq_true_eq] at h
      obtain ⟨⟨⟨h1, h2⟩, h3⟩, h4⟩ := h
      subst h1
      exact g_r1 G (gl_of h2) (sndE a X W _ G h3).pe h4
    · cases h
  | .r2 a b, X, W, e, G, h => by
    simp only [chkG] at h
    split at h
    · simp only [Bool.and_eq_true, decide_eq_true_eq] at h
      obtain ⟨⟨⟨⟨⟨h1, h2⟩, h3⟩, h4⟩, h5⟩, h6⟩ := h
      subst h1
      exact g_r2 G (gl_of h2) (sndE a X W _ G h3).pe (sndE b X W _ G h5).pe h4 h6
    · cases h
  | .of _, X, W, e, G, h => by simp only [chkG, reduceCtorEq] at h
  | .r3 .., X, W, e, G, h => by simp only [chkG, reduceCtorEq] at h
  | .zip .., X, W, e, G, h => by simp only [chkG, reduceCtorEq] at h
  | .enum .., X, W, e, G, h => by simp only [chkG, reduceCtorEq] at h
end
end
end Ev

set_option Elab.async false
set_option linter.all false
set_option maxRecDepth 100000
set_option maxHeartbeats 4000000
/-! statements -/
namespace Ev
open PySem L2

mutual
inductive S where
  | set (i : Nat) (e : E)
  | setT (is : List Nat) (e : E)
  | par2 (i j : Nat) (a b : E)
  | par3 (i j k : Nat) (a b c : E)
  | app (i : Nat) (e : E)
  | sti (i : Nat) (k e : E)
  | stc (i k : Nat) (e : E)
  | retc (a b : E)
  | expr (e : E)
  | ret (e : E)
  | retN
  | ife (t : E) (a b : Ss)
  | for_ (tg : Tg) (it : It) (b : Ss)
  | whl (t : E) (b : Ss)
  | brk
  | cnt
  | pas
  | rse
inductive Ss where
  | nil
  | cons (s : S) (ss : Ss)
end
inductive RS where
  | nx (env : Env) (own : List Nat) (c : C)
  | rt (d : D) (c : C)
  | bk (env : Env) (own : List Nat) (c : C)
  | ct (env : Env) (own : List Nat) (c : C)
  | ex (x : Ex) (env : Env) (own : List Nat) (c : C)
  | no
/-- what makes new lists -/
def freshE : E → Bool
  | .bin .. => true
  | .lst .. => true
  | .sl .. => true
  | .bi .. => true
  | .comp .. => true
  | .listR .. => true
  | _ => false
def flatL : D → Bool
  | .lst ds => D.noLs ds
  | _ => false
/-- which lists are still the def's own behind an expression that gave d -/
def ownAfter (e : E) (d : D) (own : List Nat) : List Nat :=
  if d.noL || (freshE e && flatL d) then own else own.filter fun j => !uses e j
def ownPut (e : E) (d : D) (i : Nat) (own : List Nat) : List Nat :=
  if freshE e && d.isL then i :: own.filter (· != i) else own.filter (· != i)
def drops (is own : List Nat) : List Nat := own.filter fun j => !is.contains j
def ownIt : It → List Nat → List Nat
  | .r1 _, own => own
  | .r2 _ _, own => own
  | .r3 _ _ _, own => own
  | it, own => own.filter fun j => !usesI it j
/-- an expression, then the rest -/
def RS.ofR {α : Type} (r : R α) (env : Env) (own : List Nat) (f : α → C → RS) : RS :=
  match r with
  | .ok a c => f a c
  | .ex x c => .ex x env own c
  | .no => .no
/-- a block's statement, then the rest -/
def RS.andThen (r : RS) (f : Env → List Nat → C → RS) : RS :=
  match r with
  | .nx env own c => f env own c
  | r => r
def forGo (tg : Tg) (body : Env → List Nat → C → RS) : List D → Env → List Nat → C → RS
  | [], env, own, c => .nx env own c
  | d :: ds, env, own, c => match setTg tg d env with
    | none => .no
    | some env1 => match body env1 (drops tg.slots own) c with
      | .nx env2 own2 c2 => forGo tg body ds env2 own2 c2
      | .ct env2 own2 c2 => forGo tg body ds env2 own2 c2
      | .bk env2 own2 c2 => .nx env2 own2 c2
      | r => r
def whileGo (test : Env → List Nat → C → RS) (body : Env → List Nat → C → RS) : Nat → Env → List Nat → C → RS
  | 0, _, _, _ => .no
  | n + 1, env, own, c => match test env own c with
    | .rt (.bl true) c1 => match body env own c1 with
      | .nx env2 own2 c2 => whileGo test body n env2 own2 c2
      | .ct env2 own2 c2 => whileGo test body n env2 own2 c2
      | .bk env2 own2 c2 => .nx env2 own2 c2
      | r => r
    | .rt (.bl false) c1 => .nx env own c1
    | .ex x env2 own2 c2 => .ex x env2 own2 c2
    | _ => .no
def lstAt (env : Env) (i : Nat) : Option (List D) := match Env.at env i with
  | some (.lst ds) => some ds
  | _ => none
section
variable (F : Fns) (G : List D) (wf : Nat)
mutual
def evS : S → Env → List Nat → C → RS
  | .set i e, env, own, c => RS.ofR (evE F G e env c) env (own.filter fun j => !uses e j) fun d c1 => .nx (env.set i (some d)) (ownPut e d i (ownAfter e d own)) c1
  | .setT is e, env, own, c => RS.ofR (evE F G e env c) env (own.filter fun j => !uses e j) fun d c1 => match items d with
    | some ds => match setTg (.tup is) (.tup ds) env with
      | some env1 => .nx env1 (drops is (ownAfter e d own)) c1
      | none => .no
    | none => .no
  | .par2 i j a b, env, own, c => RS.ofR (evE F G a env c) env (own.filter fun j => !uses a j) fun d c1 =>
      RS.ofR (evE F G b env c1) env ((ownAfter a d own).filter fun j => !uses b j) fun e c2 =>
        .nx ((env.set i (some d)).set j (some e)) (ownPut b e j (ownPut a d i (ownAfter b e (ownAfter a d own)))) c2
  | .par3 i j k a b e, env, own, c => RS.ofR (evE F G a env c) env (own.filter fun j => !uses a j) fun d c1 =>
      RS.ofR (evE F G b env c1) env ((ownAfter a d own).filter fun j => !uses b j) fun d2 c2 =>
        RS.ofR (evE F G e env c2) env ((ownAfter b d2 (ownAfter a d own)).filter fun j => !uses e j) fun d3 c3 =>
          .nx (((env.set i (some d)).set j (some d2)).set k (some d3)) (ownPut e d3 k (ownPut b d2 j (ownPut a d i (ownAfter e d3 (ownAfter b d2 (ownAfter a d own)))))) c3
  | .app i e, env, own, c => if own.contains i then RS.ofR (evE F G e env c) env (own.filter fun j => !uses e j) fun d c1 =>
      if (ownAfter e d own).contains i then match lstAt env i with
        | some ds => if ds.length < lim then .nx (env.set i (some (.lst (ds ++ [d])))) (ownAfter e d own) c1 else .no
        | none => .no
      else .no
    else .no
  | .sti i k e, env, own, c => RS.ofR (evE F G e env c) env (own.filter fun j => !uses e j) fun d c1 =>
      if (ownAfter e d own).contains i then RS.ofR (evE F G k env c1) env ((ownAfter e d own).filter fun j => !uses k j) fun kd c2 => match kd with
        | .int z => match lstAt env i with
          | some ds => match ixN ds.length z with
            | some j => .nx (env.set i (some (.lst (ds.set j d)))) (ownAfter e d own) c2
            | none => .no
          | none => .no
        | _ => .no
      else .no
  | .stc i k e, env, own, c => RS.ofR (evE F G e env c) env (own.filter fun j => !uses e j) fun d c1 => if own.contains i then .no else match d, Env.at env i, c1, k with
    | .int z, some .cup, some (_, q), 0 => .nx env own (some (z, q))
    | .int z, some .cup, some (p, _), 1 => .nx env own (some (p, z))
    | _, _, _, _ => .no
  | .retc a b, env, own, c => RS.ofR (evE F G a env c) env (own.filter fun j => !uses a j) fun x c1 =>
      RS.ofR (evE F G b env c1) env ((ownAfter a x own).filter fun j => !uses b j) fun y c2 => match x, y, c2 with
        | .int p, .int q, none => .rt .cup (some (p, q))
        | _, _, _ => .no
  | .expr e, env, own, c => RS.ofR (evE F G e env c) env (own.filter fun j => !uses e j) fun d c1 => .nx env (ownAfter e d own) c1
  | .ret e, env, own, c => RS.ofR (evE F G e env c) env (own.filter fun j => !uses e j) fun d c1 => .rt d c1
  | .retN, _, _, c => .rt .non c
  | .ife t a b, env, own, c => RS.ofR (evE F G t env c) env (own.filter fun j => !uses t j) fun d c1 => match d with
    | .bl true => evSs a env own c1
    | .bl false => evSs b env own c1
    | _ => .no
  | .for_ tg it b, env, own, c => RS.ofR (evI F G it env c) env (own.filter fun j => !usesI it j) fun ds c1 => forGo tg (evSs b) ds env (ownIt it own) c1
  | .whl t b, env, own, c => whileGo (fun env own c => RS.ofR (evE F G t env c) env (own.filter fun j => !uses t j) fun d c1 => .rt d c1) (evSs b) wf env own c
  | .brk, env, own, c => .bk env own c
  | .cnt, env, own, c => .ct env own c
  | .pas, env, own, c => .nx env own c
  | .rse, _, _, _ => .no
def evSs : Ss → Env → List Nat → C → RS
  | .nil, env, own, c => .nx env own c
  | .cons s ss, env, own, c => (evS s env own c).andThen (evSs ss)
end
/-- a def's body -/
def evBody (b : Ss) (env : Env) (c : C) : R D := match evSs F G wf b env [] c with
  | .nx _ _ c => .ok .non c
  | .rt d c => .ok d c
  | .ex x _ _ c => .ex x c
  | _ => .no
end
structure Fd where
  np : Nat
  ns : Nat
  body : Ss
/-- the program: its defs, its constants -/
structure Pr where
  fds : List Fd
  gv : List D
def Pr.call (P : Pr) (wf : Nat) : Nat → Fns
  | 0, _, _, _ => .no
  | n + 1, j, ds, c => match P.fds[j]? with
    | some fd => if ds.length = fd.np then evBody (Pr.call P wf n) P.gv wf fd.body (ds.map some ++ List.replicate (fd.ns - fd.np) none) c else .no
    | none => .no
end Ev

set_option Elab.async false
set_option linter.all false
set_option maxRecDepth 100000
set_option maxHeartbeats 4000000
namespace Ev
open PySem L2
open Classical in
/-- the lists that an expression asks for are known while it runs -/
noncomputable def lent (w : Wd) (B : Addr → Prop) (H : Hp) : Wd := ⟨fun a => if B a then H a else w.F a, w.ca⟩
open Classical in
/-- behind it only tuples stay known -/
noncomputable def given_ (w w' : Wd) : Wd := ⟨fun a => match w.F a with
  | some o => some o
  | none => match w'.F a with
    | some (.tup xs) => some (.tup xs)
    | some (.frz o u) => some (.frz o u)
    | _ => none, w'.ca⟩
/-- the state of a def's body: w0, H0 at its entry; wm: what was known before -/
structure StOk (K : PySem.W.Frag) (n : Nat) (w0 : Wd) (H0 : Hp) (wm w : Wd) (env : Env) (own : List Nat) (c : C) (σ : St) (H : Hp) : Prop where
  at_ : At w c H
  step : Step w0 H0 w H
  mono : wm.le w
  len : env.length = σ.length
  nl : env.length = n
  sh : ∀ i d, i ∉ own → Env.at env i = some d → ∃ v, σ[i]? = some (some v) ∧ Rep K w v d
  ow : ∀ i, i ∈ own → ∃ p xs ds, Env.at env i = some (.lst ds) ∧ σ[i]? = some (some (.ref p)) ∧ Hid p (.lst xs) w H ∧ H0 p = none ∧ Reps K w xs ds
  ap : ∀ i j, i ∈ own → j ∈ own → i ≠ j → σ[i]? ≠ σ[j]?
section
variable {K : PySem.W.Frag} {n : Nat} {w0 wm w : Wd} {H0 H : Hp} {env : Env} {own : List Nat} {c : C} {σ : St}
def Lent (own : List Nat) (U : Nat → Bool) (σ : St) (a : Addr) : Prop := ∃ i, i ∈ own ∧ U i = true ∧ σ[i]? = some (some (.ref a))
theorem StOk.lentF (s : StOk K n w0 H0 wm w env own c σ H) {U : Nat → Bool} {a : Addr} (h : Lent own U σ a) : w.F a = none ∧ w.ca ≠ some a ∧ ∃ xs, H a = some (.lst xs) := by
  obtain ⟨i, hi, _, e⟩ := h
  obtain ⟨p, xs, ds, _, e2, hd, _, _⟩ := s.ow i hi
  rw [e] at e2; cases e2
  exact ⟨hd.f, hd.c, xs, hd.h⟩
theorem StOk.leLent (s : StOk K n w0 H0 wm w env own c σ H) (U : Nat → Bool) : w.le (lent w (Lent own U σ) H) := by
  refine ⟨fun a o h => ?_, fun _ h => h⟩
  unfold lent
  dsimp only
  split
  · rename_i hb
    rw [(s.lentF hb).1] at h; cases h
  · exact h
theorem StOk.atLent (s : StOk K n w0 H0 wm w env own c σ H) (U : Nat → Bool) : At (lent w (Lent own U σ) H) c H := by
  refine ⟨fun a o h => ?_, ?_⟩
  · unfold lent at h
    dsimp only at h
    split at h
    · exact h
    · exact s.at_.F a o h
  · cases c with
    | none => exact s.at_.cup
    | some ab =>
      obtain ⟨q, e1, e2, e3⟩ := s.at_.cup
      refine ⟨q, e1, e2, ?_⟩
      unfold lent
      dsimp only
      rw [if_neg]
      · exact e3
      · intro hb
        exact (s.lentF hb).2.1 e1
theorem StOk.repLent (s : StOk K n w0 H0 wm w env own c σ H) (U : Nat → Bool) : RepEnv K (lent w (Lent own U σ) H) σ env U := by
  refine ⟨Nat.le_of_eq s.len, fun i d hu e => ?_⟩
  by_cases hi : i ∈ own
  · obtain ⟨p, xs, ds, e1, e2, hd, _, r⟩ := s.ow i hi
    rw [e] at e1; cases e1
    refine ⟨_, e2, .lst ?_ (r.mono (s.leLent U))⟩
    unfold lent
    dsimp only
    rw [if_pos ⟨i, hi, hu, e2⟩]
    exact hd.h
  · obtain ⟨v, e1, r⟩ := s.sh i d hi e
    exact ⟨v, e1, r.mono (s.leLent U)⟩
/-- data without lists stay known -/
theorem given_le {w w' : Wd} (h : w.le w') : w.le (given_ w w') := ⟨fun a o e => by unfold given_; dsimp only; rw [e], h.ca⟩
theorem given_sqT {w w' : Wd} (h : w.le w') {a : Addr} {xs : List V} (s : SqT K w'.F a xs) : SqT K (given_ w w').F a xs := by
  rcases s with (s | ⟨o, s⟩) | s
  · refine .inl (.inl ?_)
    unfold given_
    dsimp only
    cases e : w.F a with
    | some u => rw [h.F a u e] at s; exact s
    | none => dsimp only; rw [s]
  · refine .inl (.inr ⟨o, ?_⟩)
    unfold given_
    dsimp only
    cases e : w.F a with
    | some u => rw [h.F a u e] at s; exact s
    | none => dsimp only; rw [s]
  · exact .inr s
mutual
theorem given_rep {w w' : Wd} (h : w.le w') : ∀ {v : V} {d : D}, Rep K w' v d → d.noL = true → Rep K (given_ w w') v d
  | _, _, .non, _ => .non
  | _, _, .bl b, _ => .bl b
  | _, _, .int i, _ => .int i
  | _, _, .str s, _ => .str s
  | _, _, .tup s r, e => .tup (given_sqT h s) (given_reps h r (by simpa only [D.noL] using e))
  | _, _, .lst s r, e => by simp [D.noL] at e
  | _, _, .cup _, e => by simp [D.noL] at e
  | _, _, .scr _, e => by simp [D.noL] at e
theorem given_reps {w w' : Wd} (h : w.le w') : ∀ {v : List V} {d : List D}, Reps K w' v d → D.noLs d = true → Reps K (given_ w w') v d
  | _, _, .nil, _ => .nil
  | _, _, .cons r s, e => by
    simp only [D.noLs, Bool.and_eq_true] at e
    exact .cons (given_rep h r e.1) (given_reps h s e.2)
end
/-- behind an expression: nothing of it but data without lists is kept -/
theorem StOk.light (s : StOk K n w0 H0 wm w env own c σ H) {U : Nat → Bool} {w' : Wd} {c' : C} {H' : Hp} (st : Step (lent w (Lent own U σ) H) H w' H') (a : At w' c' H') : StOk K n w0 H0 wm (given_ w w') env own c' σ H' ∧ w.le w' ∧
    ∀ p o, Hid p o w' H' → w.F p = none → Hid p o (given_ w w') H' := by
  have le1 := s.leLent U
  have le2 : w.le w' := le1.trans st.le
  have le3 := given_le le2
  -- what is known behind it
  have back : ∀ p o, (given_ w w').F p = some o → w.F p = some o ∨ (w.F p = none ∧ w'.F p = some o ∧ (∀ xs, o ≠ .lst xs)) := fun p o e => by
    unfold given_ at e
    dsimp only at e
    split at e
    · rename_i u eu
      exact .inl (by rw [eu, e])
    · rename_i eu
      split at e
      · rename_i xs ex
        cases e
        exact .inr ⟨eu, ex, fun _ z => nomatch z⟩
      · rename_i o' u ex
        cases e
        exact .inr ⟨eu, ex, fun _ z => nomatch z⟩
      · cases e
  have notLent : ∀ p o, w'.F p = some o → (∀ xs, o ≠ .lst xs) → ¬ Lent own U σ p := fun p o e hn hb => by
    obtain ⟨h1, h2, xs, h3⟩ := s.lentF hb
    have : (lent w (Lent own U σ) H).F p = some (.lst xs) := by
      unfold lent
      dsimp only
      rw [if_pos hb]; exact h3
    rw [st.le.F p _ this] at e
    cases e
    exact hn xs rfl
  have hidOk : ∀ p o, H p = some o → w.F p = none → w.ca ≠ some p → (given_ w w').F p = none ∧ (given_ w w').ca ≠ some p ∧ H' p = some o := fun p o h1 h2 h3 => by
    refine ⟨?_, fun e => ?_, st.keep p o h1 h3⟩
    · cases e : (given_ w w').F p with
      | none => rfl
      | some u =>
        rcases back p u e with q | ⟨_, q, hn⟩
        · rw [h2] at q; cases q
        · have nb := notLent p u q hn
          rcases st.fresh p (by rw [q]; exact fun z => nomatch z) with z | z
          · refine absurd ?_ z
            unfold lent
            dsimp only
            rw [if_neg nb]; exact h2
          · rw [h1] at z; cases z
    · rcases st.freshC p e with z | z
      · exact h3 z
      · rw [h1] at z; cases z
  have at1 : At (given_ w w') c' H' := by
    refine ⟨fun p o e => ?_, ?_⟩
    · rcases back p o e with q | ⟨_, q, _⟩
      · exact a.F p o (le2.F p o q)
      · exact a.F p o q
    · cases c' with
      | none => exact a.cup
      | some ab =>
        obtain ⟨q, e1, e2, e3⟩ := a.cup
        refine ⟨q, e1, e2, ?_⟩
        cases e : (given_ w w').F q with
        | none => rfl
        | some u =>
          rcases back q u e with z | ⟨_, z, _⟩
          · rw [le2.F q u z] at e3; cases e3
          · rw [z] at e3; cases e3
  have st1 : Step w H (given_ w w') H' := by
    refine ⟨le3, st.keep, fun p e => ?_, st.freshC, st.alive⟩
    cases e2 : (given_ w w').F p with
    | none => exact absurd e2 e
    | some u =>
      rcases back p u e2 with z | ⟨z0, z, hn⟩
      · exact .inl (by rw [z]; exact fun q => nomatch q)
      · rcases st.fresh p (by rw [z]; exact fun q => nomatch q) with q | q
        · unfold lent at q
          dsimp only at q
          rw [if_neg (notLent p u z hn)] at q
          exact .inl q
        · exact .inr q
  refine ⟨⟨at1, s.step.trans st1, s.mono.trans le3, s.len, s.nl, fun i d hi e => ?_, fun i hi => ?_, s.ap⟩, le2, fun p o hd hn => ⟨hd.h, ?_, fun e => hd.c e⟩⟩
  · obtain ⟨v, e1, r⟩ := s.sh i d hi e
    exact ⟨v, e1, r.mono le3⟩
  · obtain ⟨p, xs, ds, e1, e2, hd, hn, r⟩ := s.ow i hi
    obtain ⟨k1, k2, k3⟩ := hidOk p _ hd.h hd.f hd.c
    exact ⟨p, xs, ds, e1, e2, ⟨k3, k1, k2⟩, hn, r.mono le3⟩
  · cases e : (given_ w w').F p with
    | none => rfl
    | some u =>
      rcases back p u e with z | ⟨_, z, _⟩
      · rw [z] at hn; cases hn
      · rw [hd.f] at z; cases z
/-- behind an expression: all of it is kept, what was lent is known from now on -/
theorem StOk.heavy (s : StOk K n w0 H0 wm w env own c σ H) {U : Nat → Bool} {w' : Wd} {c' : C} {H' : Hp} (st : Step (lent w (Lent own U σ) H) H w' H') (a : At w' c' H') : StOk K n w0 H0 wm w' env (own.filter fun j => !U j) c' σ H' := by
  have le1 := s.leLent U
  have le2 : w.le w' := le1.trans st.le
  have st0 : Step w0 H0 w' H' := by
    refine ⟨s.step.le.trans le2, fun p o h1 h2 => ?_, fun p e => ?_, fun p e => ?_, fun p e => st.alive p (s.step.alive p e)⟩
    · refine st.keep p o (s.step.keep p o h1 h2) fun e => ?_
      rcases s.step.freshC p e with z | z
      · exact h2 z
      · rw [h1] at z; cases z
    · rcases st.fresh p e with q | q
      · unfold lent at q
        dsimp only at q
        split at q
        · rename_i hb
          obtain ⟨i, hi, _, e1⟩ := hb
          obtain ⟨p', xs, ds, _, e2, hd, hn, _⟩ := s.ow i hi
          rw [e1] at e2; cases e2
          exact .inr hn
        · exact s.step.fresh p q
      · exact .inr (s.step.back q)
    · rcases st.freshC p e with z | z
      · exact s.step.freshC p z
      · exact .inr (s.step.back z)
  refine ⟨a, st0, s.mono.trans le2, s.len, s.nl, fun i d hi e => ?_, fun i hi => ?_, fun i j hi hj => s.ap i j (List.mem_filter.mp hi).1 (List.mem_filter.mp hj).1⟩
  · by_cases ho : i ∈ own
    · have hu : U i = true := by
        cases hu : U i with
        | true => rfl
        | false => exact absurd (List.mem_filter.mpr ⟨ho, by rw [hu]; rfl⟩) hi
      obtain ⟨v, e1, r⟩ := (s.repLent U).get i d hu e
      exact ⟨v, e1, r.mono st.le⟩
    · obtain ⟨v, e1, r⟩ := s.sh i d ho e
      exact ⟨v, e1, r.mono le2⟩
  · obtain ⟨ho, hu⟩ := List.mem_filter.mp hi
    have hu' : U i = false := by simpa using hu
    obtain ⟨p, xs, ds, e1, e2, hd, hn, r⟩ := s.ow i ho
    have nl : ¬ Lent own U σ p := fun ⟨j, hj, huj, ej⟩ => by
      by_cases hij : j = i
      · subst hij; rw [hu'] at huj; cases huj
      · exact s.ap j i hj ho hij (ej.trans e2.symm)
    have hd1 : Hid p (.lst xs) (lent w (Lent own U σ) H) H := ⟨hd.h, by unfold lent; dsimp only; rw [if_neg nl]; exact hd.f, hd.c⟩
    exact ⟨p, xs, ds, e1, e2, hd1.step st, hn, r.mono le2⟩
end
end Ev

set_option Elab.async false
set_option linter.all false
set_option maxRecDepth 100000
set_option maxHeartbeats 4000000
namespace Ev
open PySem L2
section
variable {K : PySem.W.Frag} {n : Nat} {w0 wm w : Wd} {H0 H : Hp} {env : Env} {own : List Nat} {c : C} {σ : St}

/-! ### the state, changed -/
theorem StOk.sub (s : StOk K n w0 H0 wm w env own c σ H) {own' : List Nat} (h : ∀ i, i ∈ own' → i ∈ own) : ∃ w', w.le w' ∧ StOk K n w0 H0 wm w' env own' c σ H := by
  have st : Step (lent w (Lent own (fun j => !own'.contains j) σ) H) H (lent w (Lent own (fun j => !own'.contains j) σ) H) H := .refl _ _
  have k := s.heavy st (s.atLent _)
  refine ⟨_, s.leLent _, ⟨k.at_, k.step, k.mono, k.len, k.nl, fun i d hi e => k.sh i d (fun hm => hi ?_) e, fun i hi => k.ow i (List.mem_filter.mpr ⟨h i hi, by simpa using hi⟩), fun i j hi hj => s.ap i j (h i hi) (h j hj)⟩⟩
  simpa using (List.mem_filter.mp hm).2
/-- a name is stored, with a datum that is known -/
theorem StOk.put (s : StOk K n w0 H0 wm w env own c σ H) {i : Nat} {v : V} {d : D} (r : Rep K w v d) : StOk K n w0 H0 wm w (env.set i (some d)) (own.filter (· != i)) c (σ.set i (some v)) H where
  at_ := s.at_
  step := s.step
  mono := s.mono
  len := by rw [List.length_set, List.length_set]; exact s.len
  nl := by rw [List.length_set]; exact s.nl
  sh := fun j e hj he => by
    by_cases hij : i = j
    · subst hij
      rw [at_set] at he
      by_cases hl : i < env.length
      · rw [if_pos ⟨rfl, hl⟩] at he
        cases he
        exact ⟨v, List.getElem?_set_self (by rw [← s.len]; exact hl), r⟩
      · rw [if_neg (fun z => hl z.2)] at he
        unfold Env.at at he
        rw [List.getElem?_eq_none (by simpa using hl)] at he
        cases he
    · rw [at_set, if_neg (fun z => hij z.1)] at he
      have hjo : j ∉ own := fun m => hj (List.mem_filter.mpr ⟨m, by simpa using fun z => hij z.symm⟩)
      obtain ⟨u, e1, q⟩ := s.sh j e hjo he
      exact ⟨u, by rw [List.getElem?_set_ne hij]; exact e1, q⟩
  ow := fun j hj => by
    obtain ⟨ho, hne⟩ := List.mem_filter.mp hj
    have hne' : ¬ i = j := fun z => by subst z; simp at hne
    obtain ⟨p, xs, ds, e1, e2, q⟩ := s.ow j ho
    exact ⟨p, xs, ds, by rw [at_set, if_neg (fun z => hne' z.1)]; exact e1, by rw [List.getElem?_set_ne hne']; exact e2, q⟩
  ap := fun j k hj hk hjk => by
    obtain ⟨ho, hne⟩ := List.mem_filter.mp hj
    obtain ⟨ho2, hne2⟩ := List.mem_filter.mp hk
    have h1 : ¬ i = j := fun z => by subst z; simp at hne
    have h2 : ¬ i = k := fun z => by subst z; simp at hne2
    rw [List.getElem?_set_ne h1, List.getElem?_set_ne h2]
    exact s.ap j k ho ho2 hjk
/-- .. with a new list -/
theorem StOk.putN (s : StOk K n w0 H0 wm w env own c σ H) {i : Nat} {p : Addr} {xs : List V} {ds : List D} (hi : i < n) (hd : Hid p (.lst xs) w H) (h0 : H0 p = none) (r : Reps K w xs ds) (no : ∀ j, j ∈ own → σ[j]? ≠ some (some (.ref p))) :
    StOk K n w0 H0 wm w (env.set i (some (.lst ds))) (i :: own.filter (· != i)) c (σ.set i (some (.ref p))) H where
  at_ := s.at_
  step := s.step
  mono := s.mono
  len := by rw [List.length_set, List.length_set]; exact s.len
  nl := by rw [List.length_set]; exact s.nl
  sh := fun j e hj he => by
    have hij : ¬ i = j := fun z => hj (by rw [z]; exact List.mem_cons_self)
    rw [at_set, if_neg (fun z => hij z.1)] at he
    have hjo : j ∉ own := fun m => hj (List.mem_cons_of_mem _ (List.mem_filter.mpr ⟨m, by simpa using fun z => hij z.symm⟩))
    obtain ⟨u, e1, q⟩ := s.sh j e hjo he
    exact ⟨u, by rw [List.getElem?_set_ne hij]; exact e1, q⟩
  ow := fun j hj => by
    by_cases hij : i = j
    · subst hij
      have hl : i < env.length := by rw [s.nl]; exact hi
      exact ⟨p, xs, ds, by rw [at_set, if_pos ⟨rfl, hl⟩], List.getElem?_set_self (by rw [← s.len]; exact hl), hd, h0, r⟩
    · have ho := (List.mem_filter.mp ((List.mem_cons.mp hj).resolve_left fun z => hij z.symm)).1
      obtain ⟨q, ys, es, e1, e2, k⟩ := s.ow j ho
      exact ⟨q, ys, es, by rw [at_set, if_neg (fun z => hij z.1)]; exact e1, by rw [List.getElem?_set_ne hij]; exact e2, k⟩
  ap := fun j k hj hk hjk => by
    have hl : i < σ.length := by rw [← s.len, s.nl]; exact hi
    by_cases h1 : i = j
    · by_cases h2 : i = k
      · exact absurd (h1.symm.trans h2) hjk
      · subst h1
        have ho := (List.mem_filter.mp ((List.mem_cons.mp hk).resolve_left fun z => h2 z.symm)).1
        rw [List.getElem?_set_self hl, List.getElem?_set_ne h2]
        exact fun z => no k ho z.symm
    · have ho := (List.mem_filter.mp ((List.mem_cons.mp hj).resolve_left fun z => h1 z.symm)).1
      by_cases h2 : i = k
      · subst h2
        rw [List.getElem?_set_self hl, List.getElem?_set_ne h1]
        exact no j ho
      · have ho2 := (List.mem_filter.mp ((List.mem_cons.mp hk).resolve_left fun z => h2 z.symm)).1
        rw [List.getElem?_set_ne h1, List.getElem?_set_ne h2]
        exact s.ap j k ho ho2 hjk
/-- a new list becomes known -/
theorem StOk.know (s : StOk K n w0 H0 wm w env own c σ H) {p : Addr} {xs : List V} {ds : List D} (hd : Hid p (.lst xs) w H) (h0 : H0 p = none) (r : Reps K w xs ds) (no : ∀ j, j ∈ own → σ[j]? ≠ some (some (.ref p))) :
    StOk K n w0 H0 wm (w.put p (.lst xs)) env own c σ H ∧ Rep K (w.put p (.lst xs)) (.ref p) (.lst ds) := by
  have le1 := Wd.le_put (o := .lst xs) hd.f
  refine ⟨⟨s.at_.show_ hd, s.step.show_ h0 hd, s.mono.trans le1, s.len, s.nl, fun i d hi e => ?_, fun i hi => ?_, s.ap⟩, .lst Wd.put_same (r.mono le1)⟩
  · obtain ⟨v, e1, q⟩ := s.sh i d hi e
    exact ⟨v, e1, q.mono le1⟩
  · obtain ⟨q, ys, es, e1, e2, hq, hn, rq⟩ := s.ow i hi
    have hne : q ≠ p := fun z => no i hi (by rw [← z]; exact e2)
    exact ⟨q, ys, es, e1, e2, ⟨hq.h, by show upd w.F p _ q = none; rw [upd_ne hne]; exact hq.f, hq.c⟩, hn, rq.mono le1⟩
/-- an own list is changed -/
theorem StOk.change (s : StOk K n w0 H0 wm w env own c σ H) {i : Nat} {p : Addr} {ys : List V} {es : List D} (hi : i ∈ own) (e : σ[i]? = some (some (.ref p))) (r : Reps K w ys es) :
    StOk K n w0 H0 wm w (env.set i (some (.lst es))) own c σ (upd H p (.lst ys)) := by
  obtain ⟨p', xs, ds, e1, e2, hd, hn, _⟩ := s.ow i hi
  rw [e] at e2; cases e2
  refine ⟨s.at_.hid hd.f hd.c, s.step.updNew hn, s.mono, by rw [List.length_set]; exact s.len, by rw [List.length_set]; exact s.nl, fun j d hj he => ?_, fun j hj => ?_, s.ap⟩
  · have hij : ¬ i = j := fun z => hj (by rw [← z]; exact hi)
    rw [at_set, if_neg (fun z => hij z.1)] at he
    exact s.sh j d hj he
  · by_cases hij : i = j
    · subst hij
      have hl : i < env.length := by
        rw [s.len]
        exact (List.getElem?_eq_some_iff.mp e).1
      exact ⟨p, ys, es, by rw [at_set, if_pos ⟨rfl, hl⟩], e, hd.upd, hn, r⟩
    · obtain ⟨q, zs, fs, k1, k2, hq, hqn, rq⟩ := s.ow j hj
      have hne : q ≠ p := fun z => s.ap i j hi hj hij (by rw [e, k2, z])
      exact ⟨q, zs, fs, by rw [at_set, if_neg (fun z => hij z.1)]; exact k1, k2, ⟨by rw [upd_ne hne]; exact hq.h, hq.f, hq.c⟩, hqn, rq⟩
/-- behind stores of data that are known -/
theorem StOk.stored (s : StOk K n w0 H0 wm w env own c σ H) {is : List Nat} {σ' : St} {env' : Env} (t : Stored K w is σ σ' env env') : StOk K n w0 H0 wm w env' (drops is own) c σ' H := by
  have hd : ∀ j, j ∈ drops is own ↔ j ∈ own ∧ j ∉ is := fun j => by unfold drops; rw [List.mem_filter]; simp
  refine ⟨s.at_, s.step, s.mono, by rw [t.lenE, t.len]; exact s.len, by rw [t.lenE]; exact s.nl, fun j d hj he => ?_, fun j hj => ?_, fun j k hj hk hjk => ?_⟩
  · by_cases hm : j ∈ is
    · exact t.new j d hm he
    · obtain ⟨o1, o2⟩ := t.old j hm
      rw [o2] at he
      obtain ⟨v, e1, q⟩ := s.sh j d (fun ho => hj ((hd j).mpr ⟨ho, hm⟩)) he
      exact ⟨v, by rw [o1]; exact e1, q⟩
  · obtain ⟨ho, hm⟩ := (hd j).mp hj
    obtain ⟨o1, o2⟩ := t.old j hm
    obtain ⟨p, xs, ds, e1, e2, q⟩ := s.ow j ho
    exact ⟨p, xs, ds, by rw [o2]; exact e1, by rw [o1]; exact e2, q⟩
  · obtain ⟨ho, hm⟩ := (hd j).mp hj
    obtain ⟨ho2, hm2⟩ := (hd k).mp hk
    rw [(t.old j hm).1, (t.old k hm2).1]
    exact s.ap j k ho ho2 hjk

/-! ### an expression's run -/
section
variable (K : PySem.W.Frag) (T : Tab) (F : Fns) (W : WX)
def tV (e : E) : TE := if freshE e = true then tN K T F W e else tE K T F W e
end
variable {T : Tab} {F : Fns} {W : WX} {D' : Ends}
/-- what comes out of a statement is wanted -/
def OutS (K : PySem.W.Frag) (n : Nat) (ex : Str → Option (Addr × Str)) (w0 : Wd) (H0 : Hp) (wm : Wd) (W : WX) (r : RS) (D' : Ends) : Prop :=
  match r with
  | .nx env own c => ∀ w σ H, StOk K n w0 H0 wm w env own c σ H → D'.nx σ H
  | .rt d c => ∀ v w H, Step w0 H0 w H → At w c H → Rep K w v d → D'.rt v H
  | .bk env own c => ∀ w σ H, StOk K n w0 H0 wm w env own c σ H → D'.bk σ H
  | .ct env own c => ∀ w σ H, StOk K n w0 H0 wm w env own c σ H → D'.ct σ H
  | .ex x env own c => ∀ cls dd w σ H, StOk K n w0 H0 wm w env own c σ H → RepX K ex w cls dd x → W cls dd σ H
  | .no => False
/-- an expression's value behind its run -/
def ValS (K : PySem.W.Frag) (H0 Hb : Hp) (w : Wd) (H : Hp) (own : List Nat) (σ : St) (f : Bool) (v : V) (d : D) : Prop :=
  if f = true ∧ D.isL d = true then ∃ p xs ds, d = .lst ds ∧ v = .ref p ∧ Hid p (.lst xs) w H ∧ (H0 p = none ∧ Hb p = none) ∧ Reps K w xs ds ∧ ∀ j, j ∈ own → σ[j]? ≠ some (some (.ref p)) else Rep K w v d
theorem own_ne (s : StOk K n w0 H0 wm w env own c σ H) {p : Addr} (h : H p = none) : ∀ j, j ∈ own → σ[j]? ≠ some (some (.ref p)) := fun j hj e => by
  obtain ⟨q, xs, ds, e1, e2, hd, _⟩ := s.ow j hj
  rw [e] at e2; cases e2
  rw [hd.h] at h; cases h
theorem ownAfter_flat {e : E} {ds : List D} {own : List Nat} (hf : freshE e = true) (hn : D.noLs ds = true) : ownAfter e (.lst ds) own = own := by
  simp [ownAfter, flatL, hf, hn]
theorem ownAfter_deep {e : E} {ds : List D} {own : List Nat} (hn : D.noLs ds = false) : ownAfter e (.lst ds) own = own.filter fun j => !uses e j := by
  simp [ownAfter, flatL, hn, D.noL]
theorem e_run (s : StOk K n w0 H0 wm w env own c σ H) {e : E} {f : D → C → RS} (h : OutS K n T.ex w0 H0 wm W (RS.ofR (evE F T.gv e env c) env (own.filter fun j => !uses e j) f) D') :
    tV K T F W e σ H (fun v H1 => ∃ w1 d c1, StOk K n w0 H0 wm w1 env (ownAfter e d own) c1 σ H1 ∧ w.le w1 ∧ (∀ p o, Hid p o w H → (∀ j, j ∈ own → σ[j]? ≠ some (some (.ref p))) → Hid p o w1 H1) ∧ ValS K H0 H w1 H1 (ownAfter e d own) σ (freshE e) v d ∧ OutS K n T.ex w0 H0 wm W (f d c1) D') := by
  have hidStep : ∀ {w' : Wd} {H' : Hp} {p : Addr} {o : HO}, Step (lent w (Lent own (uses e) σ) H) H w' H' → Hid p o w H → (∀ j, j ∈ own → σ[j]? ≠ some (some (.ref p))) → Hid p o w' H' := by
    intro w' H' p o st hd hn
    have nl : ¬ Lent own (uses e) σ p := fun ⟨j, hj, _, ej⟩ => hn j hj ej
    have hd1 : Hid p o (lent w (Lent own (uses e) σ) H) H := ⟨hd.h, by unfold lent; dsimp only; rw [if_neg nl]; exact hd.f, hd.c⟩
    exact hd1.step st
  -- a datum of any kind
  have heavyR : ∀ (d : D) (c1 : C) (v : V) (w' : Wd) (H' : Hp), Step (lent w (Lent own (uses e) σ) H) H w' H' → At w' c1 H' → Rep K w' v d → (freshE e && flatL d) = false → (freshE e = true → d.isL = false) → OutS K n T.ex w0 H0 wm W (f d c1) D' →
      ∃ w1 d c1, StOk K n w0 H0 wm w1 env (ownAfter e d own) c1 σ H' ∧ w.le w1 ∧ (∀ p o, Hid p o w H → (∀ j, j ∈ own → σ[j]? ≠ some (some (.ref p))) → Hid p o w1 H') ∧ ValS K H0 H w1 H' (ownAfter e d own) σ (freshE e) v d ∧ OutS K n T.ex w0 H0 wm W (f d c1) D' := by
    intro d c1 v w' H' st a r hf hl o
    have hv : ¬ (freshE e = true ∧ d.isL = true) := fun z => by rw [hl z.1] at z; exact absurd z.2 (by decide)
    by_cases hn : d.noL = true
    · obtain ⟨k1, k2, k3⟩ := s.light st a
      refine ⟨_, d, c1, ?_, given_le k2, fun p o hd hn => k3 p o (hidStep st hd hn) hd.f, ?_, o⟩
      · unfold ownAfter; rw [hn]; exact k1
      · unfold ValS; rw [if_neg hv]; exact given_rep k2 r hn
    · have hn' : d.noL = false := by cases q : d.noL <;> simp_all
      refine ⟨w', d, c1, ?_, (s.leLent _).trans st.le, fun p o hd hn => hidStep st hd hn, ?_, o⟩
      · unfold ownAfter; rw [hn', hf]; exact s.heavy st a
      · unfold ValS; rw [if_neg hv]; exact r
  unfold tV
  cases e1 : evE F T.gv e env c with
  | no => rw [e1] at h; exact h.elim
  | ex x c1 =>
    rw [e1] at h
    have hx : Out K T.ex (Rep K) (lent w (Lent own (uses e) σ) H) H (.ex x c1 : R D) (fun v H1 => ∃ w1 d c1, StOk K n w0 H0 wm w1 env (ownAfter e d own) c1 σ H1 ∧ w.le w1 ∧ (∀ p o, Hid p o w H → (∀ j, j ∈ own → σ[j]? ≠ some (some (.ref p))) → Hid p o w1 H1) ∧ ValS K H0 H w1 H1 (ownAfter e d own) σ (freshE e) v d ∧ OutS K n T.ex w0 H0 wm W (f d c1) D') (fun cls d H' => W cls d σ H') :=
      fun cls dd w' H' st a rx => h cls dd w' σ H' (s.heavy st a) rx
    split
    · refine ⟨_, c, env, s.atLent _, s.repLent _, ?_⟩
      rw [e1]; exact hx
    · refine ⟨_, c, env, s.atLent _, s.repLent _, ?_⟩
      rw [e1]; exact hx
  | ok d c1 =>
    rw [e1] at h
    have o : OutS K n T.ex w0 H0 wm W (f d c1) D' := h
    by_cases hf : freshE e = true
    · rw [if_pos hf]
      refine ⟨_, c, env, s.atLent _, s.repLent _, ?_⟩
      rw [e1]
      by_cases hl : d.isL = true
      · cases d <;> simp only [D.isL, reduceCtorEq] at hl
        rename_i ds
        intro p xs w' H' st a hp hd r
        have hH0 : H0 p = none := s.step.back hp
        have hne := own_ne s hp
        by_cases hn : D.noLs ds = true
        · obtain ⟨k1, k2, k3⟩ := s.light st a
          refine ⟨_, .lst ds, c1, ?_, given_le k2, fun p o hd hn => k3 p o (hidStep st hd hn) hd.f, ?_, o⟩
          · rw [ownAfter_flat hf hn]; exact k1
          · unfold ValS
            rw [if_pos ⟨hf, rfl⟩]
            refine ⟨p, xs, ds, rfl, rfl, k3 p _ hd (s.at_.nof hp), ⟨hH0, hp⟩, given_reps k2 r hn, ?_⟩
            rw [ownAfter_flat hf hn]; exact hne
        · have hn' : D.noLs ds = false := by cases q : D.noLs ds <;> simp_all
          refine ⟨w', .lst ds, c1, ?_, (s.leLent _).trans st.le, fun p o hd hn => hidStep st hd hn, ?_, o⟩
          · rw [ownAfter_deep hn']; exact s.heavy st a
          · unfold ValS
            rw [if_pos ⟨hf, rfl⟩]
            refine ⟨p, xs, ds, rfl, rfl, hd, ⟨hH0, hp⟩, r, fun j hj => hne j ?_⟩
            rw [ownAfter_deep hn'] at hj
            exact (List.mem_filter.mp hj).1
      · have hl' : d.isL = false := by cases q : d.isL <;> simp_all
        have hfl : flatL d = false := by cases d <;> first | rfl | (simp [D.isL] at hl')
        have key : Out K T.ex (Rep K) (lent w (Lent own (uses e) σ) H) H (.ok d c1) (fun v H1 => ∃ w1 d c1, StOk K n w0 H0 wm w1 env (ownAfter e d own) c1 σ H1 ∧ w.le w1 ∧ (∀ p o, Hid p o w H → (∀ j, j ∈ own → σ[j]? ≠ some (some (.ref p))) → Hid p o w1 H1) ∧ ValS K H0 H w1 H1 (ownAfter e d own) σ (freshE e) v d ∧ OutS K n T.ex w0 H0 wm W (f d c1) D') (fun cls d H' => W cls d σ H') :=
          fun v w' H' st a r => heavyR d c1 v w' H' st a r (by rw [hfl]; simp) (fun _ => hl') o
        exact key.toN
    · rw [if_neg hf]
      have hf' : freshE e = false := by cases q : freshE e <;> simp_all
      refine ⟨_, c, env, s.atLent _, s.repLent _, ?_⟩
      rw [e1]
      exact fun v w' H' st a r => heavyR d c1 v w' H' st a r (by rw [hf']; rfl) (fun z => absurd z hf) o
/-- .. its value known -/
theorem e_runR (s : StOk K n w0 H0 wm w env own c σ H) {e : E} {f : D → C → RS} (h : OutS K n T.ex w0 H0 wm W (RS.ofR (evE F T.gv e env c) env (own.filter fun j => !uses e j) f) D') :
    tV K T F W e σ H (fun v H1 => ∃ w1 d c1, StOk K n w0 H0 wm w1 env (ownAfter e d own) c1 σ H1 ∧ w.le w1 ∧ Rep K w1 v d ∧ OutS K n T.ex w0 H0 wm W (f d c1) D') := by
  have k := e_run s h
  have mono : ∀ {P Q : VK}, tV K T F W e σ H P → (∀ v H1, P v H1 → Q v H1) → tV K T F W e σ H Q := by
    intro P Q hp hq
    unfold tV at hp ⊢
    split at hp <;> rename_i hf
    · rw [if_pos hf]
      obtain ⟨w, c, env, a, r, o⟩ := hp
      refine ⟨w, c, env, a, r, ?_⟩
      unfold OutN at o ⊢
      split at o
      · exact fun p xs w' H' st a n x r => hq _ _ (o p xs w' H' st a n x r)
      · exact Out.mono o hq
    · rw [if_neg hf]
      obtain ⟨w, c, env, a, r, o⟩ := hp
      exact ⟨w, c, env, a, r, o.mono hq⟩
  refine mono k fun v H1 ⟨w1, d, c1, s1, l1, _, vs, o⟩ => ?_
  unfold ValS at vs
  split at vs
  · obtain ⟨p, xs, ds, rfl, rfl, hd, ⟨h0, _⟩, r, no⟩ := vs
    obtain ⟨k1, k2⟩ := s1.know hd h0 r no
    exact ⟨_, _, c1, k1, l1.trans (Wd.le_put hd.f), k2, o⟩
  · exact ⟨w1, d, c1, s1, l1, vs, o⟩
end
end Ev

set_option Elab.async false
set_option linter.all false
set_option maxRecDepth 100000
set_option maxHeartbeats 4000000
namespace Ev
open PySem L2
/-- a def's body's context -/
structure GoodS (T : Tab) (F : Fns) (X : Cx) (W : WX) : Prop extends Good T F X W where
  kind : X.env.scope.kind = .function
  fnT : X.fn = fun _ => true
  po : PassesOwn (model X.prog X.w) X.A X.env X.xe

/-! ### the look at statements -/
/-- a name on the left of a comprehension that is walked into it -/
def swB (sc : Scope) (x : Str) (xp vp : Pos) (cs : Scope) : Bool :=
  (sc.names.lookup x == some .local) && xp.line == vp.line && !(cs.names.any fun (n, k) => n == x && (k == .local || k == .cell))
/-- none: the model does not say; else the names whose stores are swapped -/
def swPure (sc : Scope) (ts vs : List Expr) : Option (Option (List Str)) :=
  if !(ts.length == 2 || ts.length == 3) || vs.length != ts.length then some none
  else if vs.any fun | .Starred .. => true | _ => false then some none
  else
    let line := (ts.head?.map (·.pos.line)).getD 0
    let names := ts.filterMap fun
      | .Name id pos => if sc.names.lookup id == some .local && pos.line == line then some id else none
      | _ => none
    if names.length != ts.length || names.eraseDups.length != names.length then some none
    else if vs.all (foldedForSure 8) then some none
    else if vs.all (constantsAlone 8) then none
    else some (some names)
theorem swPure_ok {env : PySem.Env} (hk : env.scope.kind = .function) {ts vs : List Expr} {k1 k2 : Nat} {p1 p2 : Pos} {r : Option (List Str)} (h : swPure env.scope ts vs = some r) : swappedStores [.Tuple ts k1 p1] (.Tuple vs k2 p2) env = pure r := by
  have hb : (env.blockKind != .function) = false := by
    unfold PySem.Env.blockKind
    rw [hk]; rfl
  unfold swappedStores
  unfold swPure at h
  dsimp only at h ⊢
  split at h
  · rename_i h1
    cases h
    rw [if_pos (by rw [h1]; rfl)]
  · rename_i h1
    rw [if_neg (by rw [hb, Bool.or_false]; exact h1)]
    split at h
    · rename_i h2
      cases h
      exact if_pos h2
    · rename_i h2
      refine (if_neg h2).trans ?_
      split at h
      · rename_i h3
        cases h
        exact if_pos h3
      · rename_i h3
        refine (if_neg h3).trans ?_
        split at h
        · rename_i h4
          cases h
          exact if_pos h4
        · rename_i h4
          refine (if_neg h4).trans ?_
          split at h
          · cases h
          · rename_i h5
            cases h
            exact if_neg h5
def allLoc (sc : Scope) (x : Str) : Bool := sc.names.lookup x == some .local
/-- the value of a plain store: a comprehension has a scope of its own -/
def notComp : Expr → Bool
  | .ListComp .. => false
  | .SetComp .. => false
  | .DictComp .. => false
  | _ => true
def isLc : Expr → Bool
  | .ListComp _ [⟨_, _, _, 0⟩] _ _ => true
  | _ => false
def valOk : Expr → Bool
  | .SetComp .. => false
  | .DictComp .. => false
  | _ => true
section
variable (fn gn : List Str) (N : List Str) (sc : Scope)
mutual
def chkS : S → Stmt → Bool
  | .set i e, s0 => match s0 with
    | .Assign [.Name x _] v _ => chkN N sc i x && chkE fn gn N e sc v && valOk v
    | _ => false
  | .setT is e, s0 => match s0 with
    | .Assign [.Tuple ts _ _] v _ => chkNs N sc is ts && chkE fn gn N e sc v && (match v with
      | .Tuple vs _ _ => decide (swPure sc ts vs = some none)
      | _ => true)
    | _ => false
  | .par2 i j a b, s0 => match s0 with
    | .Assign [.Tuple [.Name x px, .Name y py] _ _] (.Tuple [u, v] _ _) _ => chkN N sc i x && chkN N sc j y && decide (i ≠ j) && allLoc sc x && allLoc sc y && (chkE fn gn N a sc u && noStar u) && (chkE fn gn N b sc v && noStar v) &&
        decide (swPure sc [.Name x px, .Name y py] [u, v] = some (some [x, y]))
    | _ => false
  | .par3 i j k a b e, s0 => match s0 with
    | .Assign [.Tuple [.Name x px, .Name y py, .Name z pz] _ _] (.Tuple [u, v, t] _ _) _ => chkN N sc i x && chkN N sc j y && chkN N sc k z && decide (i ≠ j ∧ i ≠ k ∧ j ≠ k) && allLoc sc x && allLoc sc y && allLoc sc z &&
        (chkE fn gn N a sc u && noStar u) && (chkE fn gn N b sc v && noStar v) && (chkE fn gn N e sc t && noStar t) &&
        decide (swPure sc [.Name x px, .Name y py, .Name z pz] [u, v, t] = some (some [x, y, z]))
    | _ => false
  | .app i e, s0 => match s0 with
    | .Expr (.Call (.Attribute (.Name x _) m ap) [v] [] cp) _ => decide (N[i]? = some x) && visB sc x && !(x == "__debug__") && !(x == "__classdict__") && decide (m = "append") && (ap.endLine == cp.line) && (chkE fn gn N e sc v && noStar v)
    | _ => false
  | .sti i k e, s0 => match s0 with
    | .Assign [.Subscript (.Name x _) y _] v _ => decide (N[i]? = some x) && visB sc x && !(x == "__debug__") && !(x == "__classdict__") && (chkE fn gn N k sc y && noSlice y) && chkE fn gn N e sc v
    | _ => false
  | .stc i k e, s0 => match s0 with
    | .Assign [.Subscript (.Name x _) (.Constant (.int j) _ _) _] v _ => decide (N[i]? = some x) && visB sc x && !(x == "__debug__") && !(x == "__classdict__") && decide (j = (k : Int)) && chkE fn gn N e sc v
    | _ => false
  | .retc a b, s0 => match s0 with
    | .Return (some (.List [u, v] _)) _ => (chkE fn gn N a sc u && noStar u) && (chkE fn gn N b sc v && noStar v)
    | _ => false
  | .expr e, s0 => match s0 with
    | .Expr v _ => chkE fn gn N e sc v && notComp v
    | _ => false
  | .ret e, s0 => match s0 with
    | .Return (some v) _ => chkE fn gn N e sc v
    | _ => false
  | .retN, s0 => match s0 with
    | .Return none _ => true
    | _ => false
  | .ife t a b, s0 => match s0 with
    | .If u x y _ => !isIte t && chkE fn gn N t sc u && chkSs a x && chkSs b y
    | _ => false
  | .for_ tg it b, s0 => match s0 with
    | .For x y z [] _ => chkTg N sc tg x && chkI fn gn N it sc x y && notSet y && chkSs b z
    | _ => false
  | .whl t b, s0 => match s0 with
    | .While u x [] _ => !isIte t && chkE fn gn N t sc u && chkSs b x
    | _ => false
  | .brk, s0 => match s0 with
    | .Break _ => true
    | _ => false
  | .cnt, s0 => match s0 with
    | .Continue _ => true
    | _ => false
  | .pas, s0 => match s0 with
    | .Pass _ => true
    | _ => false
  | .rse, _ => true
def chkSs : Ss → List Stmt → Bool
  | .nil, l => match l with
    | [] => true
    | _ => false
  | .cons s ss, l => match l with
    | x :: xs => chkS s x && chkSs ss xs
    | _ => false
end
end
/-! ### values as they are stored -/
section
variable {T : Tab} {F : Fns} {X : Cx} {W : WX}
theorem sndV (G : Good T F X W) {A : E} {e : Expr} (h : chkE T.fn T.gn X.N A X.env.scope e = true) : PE X e (tV X.K T F W A) := by
  by_cases hf : freshE A = true
  · have e1 : tV X.K T F W A = tN X.K T F W A := by unfold tV; rw [if_pos hf]
    rw [e1]
    cases A <;> simp only [freshE, reduceCtorEq] at hf
    · rename_i o a b
      simp only [chkE] at h
      split at h
      · simp only [Bool.and_eq_true, decide_eq_true_eq] at h
        exact s_binN h.1.1 (sndE a X W _ G h.1.2).pe (sndE b X W _ G h.2).pe
      · cases h
    · rename_i es
      simp only [chkE] at h
      split at h
      · exact s_lstN (sndEs es X W _ G h)
      · cases h
    · rename_i a lo hi
      simp only [chkE] at h
      split at h
      · simp only [Bool.and_eq_true] at h
        exact s_slN (sndE a X W _ G h.1.1).pe (sndO lo X W _ G h.1.2) (sndO hi X W _ G h.2)
      · cases h
    · rename_i b As
      simp only [chkE] at h
      split at h
      · simp only [Bool.and_eq_true, decide_eq_true_eq] at h
        obtain ⟨⟨⟨h1, h2⟩, h3⟩, h4⟩ := h
        have i2 := chkEs_star h4
        simp only [List.all_cons, Bool.and_eq_true] at i2
        exact s_biN G h1 h2 (gl_of h3) (sndEs As X W _ G h4) i2.1 i2.2
      · cases h
    · rename_i own it tg f e'
      simp only [chkE] at h
      split at h
      · rename_i elt tge iter ifs scope pos
        simp only [Bool.and_eq_true] at h
        obtain ⟨⟨⟨⟨⟨⟨h1, h2⟩, h3⟩, h4⟩, h5⟩, h6⟩, h7⟩ := h
        have hs : ∀ i ∈ tg.slots, i ∈ own := fun i hi => by
          have := List.all_eq_true.mp h5 i hi
          simpa using this
        have k := pe_lc (elt := elt) (pos := pos) (g := gTg X.K tg) (tt := tF X.K T F WN f) (te := tE X.K T F WN e') G.calm G.nd (sndI it X W _ _ G h1) (blkOk_by h3) (fun s H C' cl fp => pg_blk G.nd G.calm h4)
          (fun s H C' cl fp => sndF f _ WN _ (G.blk s H _ _ fp) h6) (fun s H C' cl fp => (sndE e' _ WN _ (G.blk s H _ _ fp) h7).pe) (notSet_ok h2)
        rw [ownN_snd] at k
        exact PE.imp k fun σ H Q q => r_comp hs q
      · cases h
    · rename_i it
      simp only [chkE] at h
      split at h
      · simp only [Bool.and_eq_true, decide_eq_true_eq] at h
        obtain ⟨⟨⟨h1, h2⟩, h3⟩, h4⟩ := h
        subst h1
        exact s_listRN G (gl_of h2) (sndG it X W _ G h3) h4
      · cases h
  · have e1 : tV X.K T F W A = tE X.K T F W A := by unfold tV; rw [if_neg hf]
    rw [e1]
    exact (sndE A X W e G h).pe
/-- a name is given a value -/
theorem a_set (G : GoodS T F X W) {A : E} {v : Expr} {i : Nat} {x : Str} {xp pos : Pos} (hn : chkN X.N X.env.scope i x = true) (h : chkE T.fn T.gn X.N A X.env.scope v = true) (hv : valOk v = true) : PS X (.Assign [.Name x xp] v pos) (tAsg (tV X.K T F W A) (gName i)) := by
  have hb : X.env.blockKind = .function := by
    unfold PySem.Env.blockKind
    rw [G.kind]; rfl
  have hN : X.N[i]? = some x ∧ Loc X.env.scope x := by
    unfold chkN at hn
    simp only [Bool.and_eq_true, decide_eq_true_eq] at hn
    refine ⟨hn.1, ?_⟩
    have h2 := hn.2
    split at h2
    · exact .inl (by assumption)
    · exact .inr (by assumption)
    · cases h2
  have hfn : X.fn x = true ∨ X.env.scope.names.lookup x = some .local := .inl (by rw [G.fnT])
  by_cases hc : notComp v = true
  · have hs : swapsWith v (some (.Name x xp)) pos.line X.env = pure false := by
      cases v <;> first | rfl | cases hc
    exact ps_set G.nd hN.1 hN.2 (sndV G.toGood h) hs hfn
  · -- a comprehension
    cases v <;> simp only [notComp, not_true_eq_false, valOk, reduceCtorEq] at hc hv
    rename_i elt gens scope vp
    have hA := sndV G.toGood h
    cases A <;> simp only [chkE, reduceCtorEq] at h
    rename_i own it tg f e'
    split at h
    · rename_i elt' tge iter ifs scope' pos' heq
      cases heq
      by_cases hsw : swB X.env.scope x xp vp scope = true
      · have hsw' := hsw
        unfold swB at hsw
        simp only [Bool.and_eq_true] at hsw
        have hl : X.env.scope.names.lookup x = some .local := eq_of_beq hsw.1.1
        have hs : swapsWith (.ListComp elt [⟨tge, iter, ifs, 0⟩] scope vp) (some (.Name x xp)) pos.line X.env = pure true := by
          show (pure (X.env.blockKind == .function && X.env.kindOf x == some .local && xp.line == vp.line && !(scope.names.any fun (n, k) => n == x && (k == .local || k == .cell))) : Sem Bool) = pure true
          have hk : (X.env.kindOf x == some .local) = true := by show (X.env.scope.names.lookup x == some .local) = true; rw [hl]; rfl
          rw [hb, hk, hsw.1.2, hsw.2]; rfl
        simp only [Bool.and_eq_true] at h
        obtain ⟨⟨⟨⟨⟨⟨h1, h2⟩, h3⟩, h4⟩, h5⟩, h6⟩, h7⟩ := h
        have hs' : ∀ i ∈ tg.slots, i ∈ own := fun i hi => by
          have := List.all_eq_true.mp h5 i hi
          simpa using this
        have G' := G.toGood
        have k := ps_setLc (i := i) (py := xp) (elt := elt) (pos := vp) (spos := pos) (g := gTg X.K tg) (tt := tF X.K T F WN f) (te := tE X.K T F WN e') G.calm G.nd hN.1 hl hs (sndI it X W _ _ G' h1) (blkOk_by h3) (fun s H C' cl fp => pg_blk G.nd G.calm h4)
          (fun s H C' cl fp => sndF f _ WN _ (G'.blk s H _ _ fp) h6) (fun s H C' cl fp => (sndE e' _ WN _ (G'.blk s H _ _ fp) h7).pe) (notSet_ok h2)
        rw [ownN_snd] at k
        refine ⟨fun pins s σ H D I q => k.run pins s σ H D I ?_⟩
        have q' : tV X.K T F W (.comp own it tg f e') σ H (fun x H1 => gName i x σ H1 D.nx) := q
        unfold tV at q'
        rw [if_pos (show freshE (.comp own it tg f e') = true from rfl)] at q'
        exact r_comp hs' q'
      · have hs : swapsWith (.ListComp elt [⟨tge, iter, ifs, 0⟩] scope vp) (some (.Name x xp)) pos.line X.env = pure false := by
          show (pure (X.env.blockKind == .function && X.env.kindOf x == some .local && xp.line == vp.line && !(scope.names.any fun (n, k) => n == x && (k == .local || k == .cell))) : Sem Bool) = pure false
          congr 1
          rw [hb]
          have hsw' : swB X.env.scope x xp vp scope = false := by cases q : swB X.env.scope x xp vp scope <;> simp_all
          unfold swB at hsw'
          rw [← hsw']
          show ((ScopeKind.function == .function) && X.env.scope.names.lookup x == some .local && xp.line == vp.line && _) = _
          rw [show (ScopeKind.function == ScopeKind.function) = true from rfl, Bool.true_and]
        exact ps_set G.nd hN.1 hN.2 hA hs hfn
    · cases h
end
end Ev

set_option Elab.async false
set_option linter.all false
set_option maxRecDepth 100000
set_option maxHeartbeats 4000000
namespace Ev
open PySem L2
section
variable (K : PySem.W.Frag) (n : Nat) (T : Tab) (F : Fns) (wf : Nat) (w0 : Wd) (H0 : Hp) (W : WX)
/-- a statement's reading by the interpreter -/
def tSr (run : Env → List Nat → C → RS) : TS := fun D' σ H => ∃ wm w env own c, StOk K n w0 H0 wm w env own c σ H ∧ OutS K n T.ex w0 H0 wm W (run env own c) D'
abbrev tS (s : S) : TS := tSr K n T w0 H0 W (evS F T.gv wf s)
abbrev tSs (s : Ss) : TS := tSr K n T w0 H0 W (evSs F T.gv wf s)
end
theorem PS.imp {X : Cx} {s : Stmt} {t t' : TS} (h : PS X s t) (i : ∀ D σ H, t' D σ H → t D σ H) : PS X s t' := ⟨fun pins s σ H D I q => h.run pins s σ H D I (i D σ H q)⟩
theorem PSs.imp {X : Cx} {s : List Stmt} {t t' : TS} (h : PSs X s t) (i : ∀ D σ H, t' D σ H → t D σ H) : PSs X s t' := ⟨fun pins s σ H D I q => h.run pins s σ H D I (i D σ H q)⟩
section
variable {T : Tab} {F : Fns} {X : Cx} {W : WX} {wf : Nat} {w0 : Wd} {H0 : Hp} {K : PySem.W.Frag} {n : Nat}
theorem StOk.reMono {wm wm' w : Wd} {H : Hp} {env : Env} {own : List Nat} {c : C} {σ : St} (s : StOk K n w0 H0 wm w env own c σ H) (h : wm'.le w) : StOk K n w0 H0 wm' w env own c σ H := ⟨s.at_, s.step, h, s.len, s.nl, s.sh, s.ow, s.ap⟩
/-- what is wanted behind, from a later point -/
theorem OutS.later {wm wm' : Wd} {r : RS} {D' : Ends} (h : OutS K n T.ex w0 H0 wm W r D') (l : wm.le wm') : OutS K n T.ex w0 H0 wm' W r D' := by
  cases r with
  | nx env own c => exact fun w σ H s => h w σ H (s.reMono (l.trans s.mono))
  | rt d c => exact h
  | bk env own c => exact fun w σ H s => h w σ H (s.reMono (l.trans s.mono))
  | ct env own c => exact fun w σ H s => h w σ H (s.reMono (l.trans s.mono))
  | ex x env own c => exact fun cls dd w σ H s => h cls dd w σ H (s.reMono (l.trans s.mono))
  | no => exact h
theorem tV_mono {A : E} {σ : St} {H : Hp} {P Q : VK} (hp : tV K T F W A σ H P) (hq : ∀ v H1, P v H1 → Q v H1) : tV K T F W A σ H Q := by
  unfold tV at hp ⊢
  split at hp <;> rename_i hf
  · rw [if_pos hf]
    obtain ⟨w, c, env, a, r, o⟩ := hp
    refine ⟨w, c, env, a, r, ?_⟩
    unfold OutN at o ⊢
    split at o
    · exact fun p xs w' H' st a n x r => hq _ _ (o p xs w' H' st a n x r)
    · exact Out.mono o hq
  · rw [if_neg hf]
    obtain ⟨w, c, env, a, r, o⟩ := hp
    exact ⟨w, c, env, a, r, o.mono hq⟩
theorem p_set (G : GoodS T F X W) {A : E} {v : Expr} {i : Nat} {x : Str} {xp pos : Pos} (hn : chkN X.N X.env.scope i x = true) (h : chkE T.fn T.gn X.N A X.env.scope v = true) (hv : valOk v = true) : PS X (.Assign [.Name x xp] v pos) (tS X.K X.N.length T F wf w0 H0 W (.set i A)) := by
  refine PS.imp (a_set G hn h hv) fun D' σ H ⟨wm, w, env, own, c, s, o⟩ => ?_
  have hi : i < X.N.length := by
    unfold chkN at hn
    simp only [Bool.and_eq_true, decide_eq_true_eq] at hn
    exact (List.getElem?_eq_some_iff.mp hn.1).1
  refine tV_mono (e_run s (f := fun d c1 => .nx (env.set i (some d)) (ownPut A d i (ownAfter A d own)) c1) o) fun v H1 ⟨w1, d, c1, s1, l1, _, vs, o⟩ => ?_
  unfold ValS at vs
  split at vs
  · rename_i hf
    obtain ⟨p, xs, ds, rfl, rfl, hd, ⟨h0, _⟩, r, no⟩ := vs
    refine o w1 _ _ ?_
    have e : ownPut A (.lst ds) i (ownAfter A (.lst ds) own) = i :: (ownAfter A (.lst ds) own).filter (· != i) := by unfold ownPut; rw [hf.1]; rfl
    rw [e]
    exact s1.putN hi hd h0 r no
  · rename_i hf
    refine o w1 _ _ ?_
    have e : ownPut A d i (ownAfter A d own) = (ownAfter A d own).filter (· != i) := by
      unfold ownPut
      rw [if_neg]
      intro z
      simp only [Bool.and_eq_true] at z
      exact hf z
    rw [e]
    exact s1.put vs
theorem p_ret (G : GoodS T F X W) {A : E} {v : Expr} {pos : Pos} (h : chkE T.fn T.gn X.N A X.env.scope v = true) : PS X (.Return (some v) pos) (tS X.K X.N.length T F wf w0 H0 W (.ret A)) := by
  refine PS.imp (ps_ret (sndV G.toGood h)) fun D' σ H ⟨wm, w, env, own, c, s, o⟩ => ?_
  refine tV_mono (e_runR s (f := fun d c1 => .rt d c1) o) fun v H1 ⟨w1, d, c1, s1, l1, r, o⟩ => ?_
  exact o v w1 H1 s1.step s1.at_ r
theorem p_retN : PS X (.Return none pos) (tS X.K X.N.length T F wf w0 H0 W .retN) :=
  PS.imp ps_retN fun D' σ H ⟨wm, w, env, own, c, s, o⟩ => o .non w H s.step s.at_ .non
theorem p_expr (G : GoodS T F X W) {A : E} {v : Expr} {pos : Pos} (h : chkE T.fn T.gn X.N A X.env.scope v = true) (hc : notComp v = true) : PS X (.Expr v pos) (tS X.K X.N.length T F wf w0 H0 W (.expr A)) := by
  have hs : swapsWith v none pos.line X.env = pure false := by
    cases v <;> first | rfl | cases hc
  refine PS.imp (ps_expr (sndV G.toGood h) hs) fun D' σ H ⟨wm, w, env, own, c, s, o⟩ => ?_
  refine tV_mono (e_runR s (f := fun d c1 => .nx env (ownAfter A d own) c1) o) fun v H1 ⟨w1, d, c1, s1, l1, r, o⟩ => ?_
  exact o w1 σ H1 s1
/-- the names of a display on the left -/
theorem pgs_def (G : GoodS T F X W) : ∀ {is : List Nat} {es : List Expr}, chkNs X.N X.env.scope is es = true → PGs X es (gs is)
  | [], [], _ => pgs_nil
  | i :: is, e :: es, h => by
    cases e <;> simp only [chkNs, Bool.and_eq_true, reduceCtorEq] at h
    rename_i x p
    have h1 := h.1
    unfold chkN at h1
    simp only [Bool.and_eq_true, decide_eq_true_eq] at h1
    have hl : Loc X.env.scope x := by
      have h2 := h1.2
      split at h2
      · exact .inl (by assumption)
      · exact .inr (by assumption)
      · cases h2
    exact pgs_cons (pg_name (i := i) G.nd h1.1 hl (.inl (by rw [G.fnT]))) (pgs_def G h.2)
  | [], _ :: _, h => by simp [chkNs] at h
  | _ :: _, [], h => by simp [chkNs] at h
theorem pg_def (G : GoodS T F X W) {tg : Tg} {e : Expr} (h : chkTg X.N X.env.scope tg e = true) : PG X e (gTg X.K tg) := by
  cases tg with
  | v i =>
    cases e <;> simp only [chkTg, reduceCtorEq] at h
    rename_i x p
    unfold chkN at h
    simp only [Bool.and_eq_true, decide_eq_true_eq] at h
    have hl : Loc X.env.scope x := by
      have h2 := h.2
      split at h2
      · exact .inl (by assumption)
      · exact .inr (by assumption)
      · cases h2
    exact pg_name (i := i) G.nd h.1 hl (.inl (by rw [G.fnT]))
  | tup is =>
    cases e <;> simp only [chkTg, reduceCtorEq] at h
    obtain ⟨h1, h2⟩ := chkNs_names (env := X.env) h
    exact pg_tup G.calm (pgs_def G h) h1 h2
theorem PG.or {e : Expr} {t t' : TG} (h : PG X e t) (h' : PG X e t') : PG X e (fun v σ H Q => t v σ H Q ∨ t' v σ H Q) :=
  ⟨fun pins s σ H v u Q I r q => q.elim (h.run pins s σ H v u Q I r) (h'.run pins s σ H v u Q I r)⟩
theorem p_setT (G : GoodS T F X W) {A : E} {v : Expr} {is : List Nat} {ts : List Expr} {k : Nat} {tp pos : Pos} (hn : chkNs X.N X.env.scope is ts = true) (h : chkE T.fn T.gn X.N A X.env.scope v = true)
    (hw : swappedStores [.Tuple ts k tp] v X.env = pure none) : PS X (.Assign [.Tuple ts k tp] v pos) (tS X.K X.N.length T F wf w0 H0 W (.setT is A)) := by
  obtain ⟨h1, h2⟩ := chkNs_names (env := X.env) hn
  have hg : PG X (.Tuple ts k tp) (fun v σ H Q => gTup X.K is.length (gs is) v σ H Q ∨ gLst X.K is.length (gs is) v σ H Q) := PG.or (pg_tup G.calm (pgs_def G hn) h1 h2) (pg_lst G.calm (pgs_def G hn) h1 h2)
  have hs : swapsWithSole [.Tuple ts k tp] v pos.line X.env = pure false := by cases v <;> rfl
  refine PS.imp (ps_asg (sndV G.toGood h) hg hs hw) fun D' σ H ⟨wm, w, env, own, c, s, o⟩ => ?_
  refine tV_mono (e_runR s (f := fun d c1 => match items d with
    | some ds => match setTg (.tup is) (.tup ds) env with
      | some env1 => .nx env1 (drops is (ownAfter A d own)) c1
      | none => .no
    | none => .no) o) fun v H1 ⟨w1, d, c1, s1, l1, r, o⟩ => ?_
  cases d <;> simp only [items] at o <;> try exact o.elim
  · rename_i ds
    split at o
    · rename_i env1 e1
      refine .inl (tg_ok (tg := .tup is) s1.at_ r (Nat.le_of_eq s1.len) e1 fun σ' st => ?_)
      exact o w1 σ' H1 (s1.stored st)
    · exact o.elim
  · rename_i ds
    split at o
    · rename_i env1 e1
      obtain ⟨p, xs, rfl, k1, k2⟩ := r.lstV
      simp only [setTg] at e1
      split at e1
      · rename_i hl
        cases e1
        exact .inr ⟨p, xs, rfl, s1.at_.lst k1, by rw [k2.length, hl], gs_ok k2 hl (Nat.le_of_eq s1.len) fun σ' st => o w1 σ' H1 (s1.stored st)⟩
      · cases e1
    · exact o.elim
/-- a value is stored -/
theorem ownAfter_sub {A : E} {d : D} {own : List Nat} {j : Nat} (h : j ∈ ownAfter A d own) : j ∈ own := by
  unfold ownAfter at h
  split at h
  · exact h
  · exact (List.mem_filter.mp h).1
theorem ownPut_mem {A : E} {d : D} {i j : Nat} {own : List Nat} (h : j ∈ ownPut A d i own) : (j = i ∧ (freshE A = true ∧ d.isL = true)) ∨ (j ≠ i ∧ j ∈ own) := by
  unfold ownPut at h
  split at h
  · rename_i hf
    simp only [Bool.and_eq_true] at hf
    rcases List.mem_cons.mp h with z | z
    · exact .inl ⟨z, hf⟩
    · obtain ⟨z1, z2⟩ := List.mem_filter.mp z
      exact .inr ⟨by simpa using z2, z1⟩
  · obtain ⟨z1, z2⟩ := List.mem_filter.mp h
    exact .inr ⟨by simpa using z2, z1⟩
theorem put_val {wm w : Wd} {H Hb : Hp} {env : Env} {own own0 : List Nat} {c : C} {σ τ : St} {A : E} {d : D} {v : V} {i : Nat} (hi : i < n) (s : StOk K n w0 H0 wm w env own c σ H)
    (no : ∀ p, Hb p = none → (∀ j, j ∈ own0 → τ[j]? ≠ some (some (.ref p))) → ∀ j, j ∈ own → σ[j]? ≠ some (some (.ref p)))
    (vs : ValS K H0 Hb w H own0 τ (freshE A) v d) : StOk K n w0 H0 wm w (env.set i (some d)) (ownPut A d i own) c (σ.set i (some v)) H := by
  unfold ValS at vs
  split at vs
  · rename_i hf
    obtain ⟨p, xs, ds, rfl, rfl, hd, ⟨h0, hb⟩, r, no2⟩ := vs
    have e : ownPut A (.lst ds) i own = i :: own.filter (· != i) := by unfold ownPut; rw [hf.1]; rfl
    rw [e]
    exact s.putN hi hd h0 r (no p hb no2)
  · rename_i hf
    have e : ownPut A d i own = own.filter (· != i) := by
      unfold ownPut
      rw [if_neg]
      intro z
      simp only [Bool.and_eq_true] at z
      exact hf z
    rw [e]
    exact s.put vs
/-- a value waits while another expression runs -/
theorem ValS.wait {w w1 : Wd} {H H1 Hb : Hp} {own : List Nat} {σ : St} {f : Bool} {v : V} {d : D} (vs : ValS K H0 Hb w H own σ f v d) (l : w.le w1) (k : ∀ p o, Hid p o w H → (∀ j, j ∈ own → σ[j]? ≠ some (some (.ref p))) → Hid p o w1 H1) : ValS K H0 Hb w1 H1 own σ f v d := by
  unfold ValS at vs ⊢
  split at vs
  · rename_i hf
    rw [if_pos hf]
    obtain ⟨p, xs, ds, rfl, rfl, hd, h0, r, no⟩ := vs
    exact ⟨p, xs, ds, rfl, rfl, k p _ hd no, h0, r.mono l, no⟩
  · rename_i hf
    rw [if_neg hf]
    exact vs.mono l
theorem ValS.there {w : Wd} {H Hb : Hp} {own : List Nat} {σ : St} {f : Bool} {v : V} {d : D} (vs : ValS K H0 Hb w H own σ f v d) (hf : f = true ∧ d.isL = true) : ∃ p xs, v = .ref p ∧ H p = some (.lst xs) := by
  unfold ValS at vs
  rw [if_pos hf] at vs
  obtain ⟨p, xs, ds, _, rfl, hd, _⟩ := vs
  exact ⟨p, xs, rfl, hd.h⟩
theorem p_par2 (G : GoodS T F X W) {A B : E} {u v : Expr} {i j : Nat} {x y : Str} {px py pt pt2 pos : Pos} {kt k2 : Nat} (hi : chkN X.N X.env.scope i x = true) (hj : chkN X.N X.env.scope j y = true) (hij : i ≠ j)
    (hx : X.env.scope.names.lookup x = some .local) (hy : X.env.scope.names.lookup y = some .local) (ha : chkE T.fn T.gn X.N A X.env.scope u = true) (hna : noStar u = true) (hb : chkE T.fn T.gn X.N B X.env.scope v = true) (hnb : noStar v = true)
    (hw : swappedStores [.Tuple [.Name x px, .Name y py] kt pt] (.Tuple [u, v] k2 pt2) X.env = pure (some [x, y])) : PS X (.Assign [.Tuple [.Name x px, .Name y py] kt pt] (.Tuple [u, v] k2 pt2) pos) (tS X.K X.N.length T F wf w0 H0 W (.par2 i j A B)) := by
  have ni : X.N[i]? = some x := by unfold chkN at hi; simp only [Bool.and_eq_true, decide_eq_true_eq] at hi; exact hi.1
  have nj : X.N[j]? = some y := by unfold chkN at hj; simp only [Bool.and_eq_true, decide_eq_true_eq] at hj; exact hj.1
  have li : i < X.N.length := (List.getElem?_eq_some_iff.mp ni).1
  have lj : j < X.N.length := (List.getElem?_eq_some_iff.mp nj).1
  refine PS.imp (ps_par G.calm G.nd ni nj hij hx hy (pa_cons (sndV G.toGood ha) (pa_cons (sndV G.toGood hb) pa_nil (starEach_cons hnb)) (starEach_cons hna)) hw) fun D' σ H ⟨wm, w, env, own, c, s, o⟩ => ?_
  refine tV_mono (e_run s (f := fun d c1 => RS.ofR (evE F T.gv B env c1) env ((ownAfter A d own).filter fun j => !uses B j) fun e c2 =>
        .nx ((env.set i (some d)).set j (some e)) (ownPut B e j (ownPut A d i (ownAfter B e (ownAfter A d own)))) c2) o) fun v1 H1 ⟨w1, d, c1, s1, l1, k1, vs1, o1⟩ => ?_
  refine tV_mono (e_run s1 (f := fun e c2 => .nx ((env.set i (some d)).set j (some e)) (ownPut B e j (ownPut A d i (ownAfter B e (ownAfter A d own)))) c2) o1) fun v2 H2 ⟨w2, e, c2, s2, l2, k2, vs2, o2⟩ => ?_
  refine ⟨v1, v2, rfl, ?_⟩
  have vs1' := vs1.wait l2 k2
  have t1 := put_val (i := i) li s2 (fun p _ q m hm => q m (ownAfter_sub hm)) vs1'
  refine o2 w2 _ _ (put_val (i := j) lj t1 (fun p hp q m hm em => ?_) vs2)
  rcases ownPut_mem hm with ⟨rfl, hf⟩ | ⟨hne, hm⟩
  · obtain ⟨p1, xs, rfl, h1⟩ := vs1.there hf
    have hl : m < σ.length := by rw [← s.len, s.nl]; exact li
    rw [List.getElem?_set_self hl] at em
    cases em
    rw [h1] at hp; cases hp
  · rw [List.getElem?_set_ne (Ne.symm hne)] at em
    exact q m hm em
end
end Ev

set_option Elab.async false
set_option linter.all false
set_option maxRecDepth 100000
set_option maxHeartbeats 4000000
namespace Ev
open PySem L2
section
variable {T : Tab} {F : Fns} {X : Cx} {W : WX} {wf : Nat} {w0 : Wd} {H0 : Hp} {K : PySem.W.Frag} {n : Nat}
theorem chkN_ix {N : List Str} {sc : Scope} {i : Nat} {x : Str} (h : chkN N sc i x = true) : N[i]? = some x := by
  unfold chkN at h; simp only [Bool.and_eq_true, decide_eq_true_eq] at h; exact h.1
theorem p_par3 (G : GoodS T F X W) {A B D3 : E} {u v t : Expr} {i j k : Nat} {x y z : Str} {px py pz pt pt2 pos : Pos} {kt k2 : Nat} (hi : chkN X.N X.env.scope i x = true) (hj : chkN X.N X.env.scope j y = true) (hk : chkN X.N X.env.scope k z = true) (hij : i ≠ j) (hik : i ≠ k) (hjk : j ≠ k)
    (hx : X.env.scope.names.lookup x = some .local) (hy : X.env.scope.names.lookup y = some .local) (hz : X.env.scope.names.lookup z = some .local) (ha : chkE T.fn T.gn X.N A X.env.scope u = true) (hna : noStar u = true) (hb : chkE T.fn T.gn X.N B X.env.scope v = true) (hnb : noStar v = true) (hd : chkE T.fn T.gn X.N D3 X.env.scope t = true) (hnd : noStar t = true)
    (hw : swappedStores [.Tuple [.Name x px, .Name y py, .Name z pz] kt pt] (.Tuple [u, v, t] k2 pt2) X.env = pure (some [x, y, z])) : PS X (.Assign [.Tuple [.Name x px, .Name y py, .Name z pz] kt pt] (.Tuple [u, v, t] k2 pt2) pos) (tS X.K X.N.length T F wf w0 H0 W (.par3 i j k A B D3)) := by
  have li : i < X.N.length := (List.getElem?_eq_some_iff.mp (chkN_ix hi)).1
  have lj : j < X.N.length := (List.getElem?_eq_some_iff.mp (chkN_ix hj)).1
  have lk : k < X.N.length := (List.getElem?_eq_some_iff.mp (chkN_ix hk)).1
  refine PS.imp (ps_par3 G.calm G.nd (chkN_ix hi) (chkN_ix hj) (chkN_ix hk) hij hik hjk hx hy hz (pa_cons (sndV G.toGood ha) (pa_cons (sndV G.toGood hb) (pa_cons (sndV G.toGood hd) pa_nil (starEach_cons hnd)) (starEach_cons hnb)) (starEach_cons hna)) hw) fun D' σ H ⟨wm, w, env, own, c, s, o⟩ => ?_
  refine tV_mono (e_run s o) fun v1 H1 ⟨w1, d, c1, s1, l1, k1, vs1, o1⟩ => ?_
  refine tV_mono (e_run s1 o1) fun v2 H2 ⟨w2, e, c2, s2, l2, k2, vs2, o2⟩ => ?_
  refine tV_mono (e_run s2 o2) fun v3 H3 ⟨w3, f, c3, s3, l3, k3, vs3, o3⟩ => ?_
  refine ⟨v1, v2, v3, rfl, ?_⟩
  have k3' : ∀ p o, Hid p o w2 H2 → (∀ j, j ∈ ownAfter A d own → σ[j]? ≠ some (some (.ref p))) → Hid p o w3 H3 := fun p o hd hn => k3 p o hd fun m hm => hn m (ownAfter_sub hm)
  have vs1' := (vs1.wait l2 k2).wait l3 k3'
  have vs2' := vs2.wait l3 k3
  have t1 := put_val (i := i) li s3 (fun p _ q m hm => q m (ownAfter_sub (ownAfter_sub hm))) vs1'
  have hl : i < σ.length := by rw [← s.len, s.nl]; exact li
  have hlj : j < σ.length := by rw [← s.len, s.nl]; exact lj
  have t2 := put_val (i := j) lj t1 (fun p hp q m hm em => by
    rcases ownPut_mem hm with ⟨rfl, hf⟩ | ⟨hne, hm⟩
    · obtain ⟨p1, xs, rfl, h1⟩ := vs1.there hf
      rw [List.getElem?_set_self hl] at em
      cases em
      rw [h1] at hp; cases hp
    · rw [List.getElem?_set_ne (Ne.symm hne)] at em
      exact q m (ownAfter_sub hm) em) vs2'
  refine o3 w3 _ _ (put_val (i := k) lk t2 (fun p hp q m hm em => ?_) vs3)
  rcases ownPut_mem hm with ⟨rfl, hf⟩ | ⟨hne, hm⟩
  · obtain ⟨p1, xs, rfl, h1⟩ := vs2.there hf
    rw [List.getElem?_set_self (by rw [List.length_set]; exact hlj)] at em
    cases em
    rw [h1] at hp; cases hp
  · rw [List.getElem?_set_ne (Ne.symm hne)] at em
    rcases ownPut_mem hm with ⟨rfl, hf⟩ | ⟨hne2, hm⟩
    · -- the first one's list stood already
      have vs1w := vs1.wait l2 k2
      obtain ⟨p1, xs, rfl, h1⟩ := vs1w.there hf
      rw [List.getElem?_set_self hl] at em
      cases em
      rw [h1] at hp; cases hp
    · rw [List.getElem?_set_ne (Ne.symm hne2)] at em
      exact q m hm em
/-- a slot's value -/
theorem own_at {wm w : Wd} {H : Hp} {env : Env} {own : List Nat} {c : C} {σ : St} (s : StOk K n w0 H0 wm w env own c σ H) {i : Nat} (h : own.contains i = true) : ∃ p xs ds, Env.at env i = some (.lst ds) ∧ σ[i]? = some (some (.ref p)) ∧ H p = some (.lst xs) ∧ Reps K w xs ds ∧ i ∈ own := by
  have hi : i ∈ own := by simpa using h
  obtain ⟨p, xs, ds, e1, e2, hd, _, r⟩ := s.ow i hi
  exact ⟨p, xs, ds, e1, e2, hd.h, r, hi⟩
theorem p_app (G : GoodS T F X W) {A : E} {v : Expr} {i : Nat} {x : Str} {xp ap cp pos : Pos} (hN : X.N[i]? = some x) (hv : Vis X.env.scope x) (hd : (x == ("__debug__" : Str)) = false) (hcd : (x == ("__classdict__" : Str)) = false) (hl : (ap.endLine == cp.line) = true)
    (h : chkE T.fn T.gn X.N A X.env.scope v = true) (hn : noStar v = true) : PS X (.Expr (.Call (.Attribute (.Name x xp) "append" ap) [v] [] cp) pos) (tS X.K X.N.length T F wf w0 H0 W (.app i A)) := by
  have pm := pe_bm PySem.F.plainAttrs_list PySem.F.slot_list_append PySem.F.type_list_append (mt_append (X := X)) (pe_var (i := i) (pos := xp) hN hv hd hcd) (pa_cons (sndV G.toGood h) pa_nil (starEach_cons hn)) rfl
    (hfew := by rw [starEach_cons hn]; rfl) (apos := ap) (cpos := cp) hl (starEach_cons hn) rfl
  refine PS.imp (ps_expr pm rfl) fun D' σ H ⟨wm, w, env, own, c, s, o⟩ => ?_
  have o' : OutS X.K X.N.length T.ex w0 H0 wm W (if own.contains i then RS.ofR (evE F T.gv A env c) env (own.filter fun j => !uses A j) fun d c1 =>
      if (ownAfter A d own).contains i then match lstAt env i with
        | some ds => if ds.length < lim then .nx (env.set i (some (.lst (ds ++ [d])))) (ownAfter A d own) c1 else .no
        | none => .no
      else .no
    else .no) D' := by
    have := o
    unfold evS at this
    exact this
  split at o'
  · rename_i hc
    obtain ⟨p, xs, ds, e1, e2, hp, r, hi⟩ := own_at s hc
    refine ⟨_, e2, .inl ⟨rfl, xs, .inl (.inl hp)⟩, ?_⟩
    refine tV_mono (e_runR s o') fun y H1 ⟨w1, d, c1, s1, l1, ry, o1⟩ => ?_
    split at o1
    · rename_i hc1
      obtain ⟨p', xs', ds', k1, k2, k3, k4, k5⟩ := own_at s1 hc1
      rw [e2] at k2; cases k2
      have el : lstAt env i = some ds' := by unfold lstAt; rw [k1]
      rw [el] at o1
      dsimp only at o1
      split at o1
      · rename_i hlim
        refine ⟨p, xs', y, rfl, rfl, k3, ?_, ?_⟩
        · rw [k4.length]; exact Nat.lt_of_lt_of_le hlim lim_le
        · exact o1 w1 σ _ (s1.change k5 e2 (k4.append (.cons ry .nil)))
      · exact o1.elim
    · exact o1.elim
  · exact o'.elim
theorem p_sti (G : GoodS T F X W) {A B : E} {v y : Expr} {i : Nat} {x : Str} {xp sp pos : Pos} (hN : X.N[i]? = some x) (hv : Vis X.env.scope x) (hd : (x == ("__debug__" : Str)) = false) (hcd : (x == ("__classdict__" : Str)) = false)
    (hk : chkE T.fn T.gn X.N B X.env.scope y = true) (hy : noSlice y = true) (h : chkE T.fn T.gn X.N A X.env.scope v = true) : PS X (.Assign [.Subscript (.Name x xp) y sp] v pos) (tS X.K X.N.length T F wf w0 H0 W (.sti i B A)) := by
  have hs : swapsWithSole [.Subscript (.Name x xp) y sp] v pos.line X.env = pure false := by cases v <;> rfl
  have hw : swappedStores [.Subscript (.Name x xp) y sp] v X.env = pure none := by cases v <;> rfl
  have hg := pg_sub (pos := sp) (pe_var (i := i) (pos := xp) hN hv hd hcd) (sndV (W := W) G.toGood hk) (set_list (X := X)) (by intro _; cases y <;> first | rfl | cases hy)
  refine PS.imp (ps_asg (sndV G.toGood h) hg hs hw rfl) fun D' σ H ⟨wm, w, env, own, c, s, o⟩ => ?_
  refine tV_mono (e_runR s o) fun u H1 ⟨w1, d, c1, s1, l1, ru, o1⟩ => ?_
  split at o1
  · rename_i hc
    obtain ⟨p, xs, ds, e1, e2, hp, r, hi⟩ := own_at s1 hc
    refine ⟨_, e2, ?_⟩
    refine tV_mono (e_runR s1 o1) fun z H2 ⟨w2, kd, c2, s2, l2, rz, o2⟩ => ?_
    cases kd <;> try exact o2.elim
    rename_i kz
    cases rz
    have s2' : StOk X.K X.N.length w0 H0 wm w2 env (ownAfter A d own) c2 σ H2 := by
      have e : ownAfter B (.int kz) (ownAfter A d own) = ownAfter A d own := by unfold ownAfter; rfl
      rw [e] at s2; exact s2
    obtain ⟨p', xs', ds', k1, k2, k3, k4, k5⟩ := own_at s2' hc
    rw [e2] at k2; cases k2
    have el : lstAt env i = some ds' := by unfold lstAt; rw [k1]
    dsimp only at o2
    rw [el] at o2
    dsimp only at o2
    split at o2
    · rename_i j ej
      refine ⟨p, xs', kz, j, rfl, rfl, k3, by rw [k4.length]; exact ej, ?_⟩
      exact o2 w2 σ _ (s2'.change k5 e2 (Reps.set (ru.mono l2) j k4))
    · exact o2.elim
  · exact o1.elim
/-- a place of the draws' state is stored -/
theorem StOk.draw {wm w : Wd} {H : Hp} {env : Env} {own : List Nat} {c c' : C} {σ : St} (s : StOk K n w0 H0 wm w env own c σ H) {p : Addr} {i j : Int} (e : w.ca = some p) (hf : w.F p = none) (hc : c' = some (i, j)) : StOk K n w0 H0 wm w env own c' σ (upd H p (.lst [.int i, .int j])) := by
  refine ⟨⟨fun a u h => ?_, ?_⟩, ⟨s.step.le, fun a u h1 h2 => ?_, s.step.fresh, s.step.freshC, fun a h => ?_⟩, s.mono, s.len, s.nl, s.sh, fun m hm => ?_, s.ap⟩
  · have hn : a ≠ p := fun z => by subst z; rw [hf] at h; cases h
    rw [upd_ne hn]; exact s.at_.F a u h
  · subst hc
    exact ⟨p, e, upd_same, hf⟩
  · have hn : a ≠ p := fun z => by
      subst z
      rcases s.step.freshC a e with q | q
      · exact h2 q
      · rw [h1] at q; cases q
    rw [upd_ne hn]; exact s.step.keep a u h1 h2
  · by_cases z : a = p
    · subst z; rw [upd_same]; exact fun q => nomatch q
    · rw [upd_ne z]; exact s.step.alive a h
  · obtain ⟨q, xs, ds, e1, e2, hd, hn, r⟩ := s.ow m hm
    have hne : q ≠ p := fun z => hd.c (by rw [e, z])
    exact ⟨q, xs, ds, e1, e2, ⟨by rw [upd_ne hne]; exact hd.h, hd.f, hd.c⟩, hn, r⟩
theorem ownAfter_int {A : E} {z : Int} {own : List Nat} : ownAfter A (.int z) own = own := rfl
theorem p_stc (G : GoodS T F X W) {A : E} {v : Expr} {i k : Nat} {x : Str} {j : Nat} {xp sp kp pos : Pos} (hN : X.N[i]? = some x) (hv : Vis X.env.scope x) (hd : (x == ("__debug__" : Str)) = false) (hcd : (x == ("__classdict__" : Str)) = false)
    (h : chkE T.fn T.gn X.N A X.env.scope v = true) : PS X (.Assign [.Subscript (.Name x xp) (.Constant (.int (k : Nat)) j kp) sp] v pos) (tS X.K X.N.length T F wf w0 H0 W (.stc i k A)) := by
  have hs : swapsWithSole [.Subscript (.Name x xp) (.Constant (.int (k : Nat)) j kp) sp] v pos.line X.env = pure false := by cases v <;> rfl
  have hw : swappedStores [.Subscript (.Name x xp) (.Constant (.int (k : Nat)) j kp) sp] v X.env = pure none := by cases v <;> rfl
  have hg := pg_sub (pos := sp) (pe_var (i := i) (pos := xp) hN hv hd hcd) (pe_int (i := (k : Int)) (j := j) (pos := kp)) (set_list (X := X))
  refine PS.imp (ps_asg (sndV G.toGood h) hg hs hw rfl) fun D' σ H ⟨wm, w, env, own, c, s, o⟩ => ?_
  refine tV_mono (e_runR s o) fun u H1 ⟨w1, d, c1, s1, l1, ru, o1⟩ => ?_
  split at o1
  · exact o1.elim
  · rename_i hno
    have hno' : i ∉ own := by simpa using hno
    generalize hE : Env.at env i = ee at o1
    split at o1
    · 
      cases ru
      rw [ownAfter_int] at s1
      obtain ⟨v', e2, r2⟩ := s1.sh i _ hno' hE
      cases r2 with
      | cup ec =>
        obtain ⟨p, e3, e4, e5⟩ := s1.at_.cup
        rw [ec] at e3; cases e3
        refine ⟨_, e2, _, _, ((0 : Nat) : Int), 0, rfl, rfl, e4, rfl, ?_⟩
        exact o1 w1 σ _ (s1.draw ec e5 rfl)
    · 
      cases ru
      rw [ownAfter_int] at s1
      obtain ⟨v', e2, r2⟩ := s1.sh i _ hno' hE
      cases r2 with
      | cup ec =>
        obtain ⟨p, e3, e4, e5⟩ := s1.at_.cup
        rw [ec] at e3; cases e3
        refine ⟨_, e2, _, _, ((1 : Nat) : Int), 1, rfl, rfl, e4, rfl, ?_⟩
        exact o1 w1 σ _ (s1.draw ec e5 rfl)
    · exact o1.elim
theorem p_retc (G : GoodS T F X W) {A B : E} {u v : Expr} {lp pos : Pos} (ha : chkE T.fn T.gn X.N A X.env.scope u = true) (hna : noStar u = true) (hb : chkE T.fn T.gn X.N B X.env.scope v = true) (hnb : noStar v = true) :
    PS X (.Return (some (.List [u, v] lp)) pos) (tS X.K X.N.length T F wf w0 H0 W (.retc A B)) := by
  refine PS.imp (ps_ret (pe_lst (pa_cons (sndV G.toGood ha) (pa_cons (sndV G.toGood hb) pa_nil (starEach_cons hnb)) (starEach_cons hna)))) fun D' σ H ⟨wm, w, env, own, c, s, o⟩ => ?_
  refine tV_mono (e_runR s o) fun v1 H1 ⟨w1, d, c1, s1, l1, r1, o1⟩ => ?_
  refine tV_mono (e_runR s1 o1) fun v2 H2 ⟨w2, e, c2, s2, l2, r2, o2⟩ => ?_
  split at o2
  · cases r1; cases r2
    refine ⟨by show 2 ≤ sizeLine; decide, fun p hp => ?_⟩
    have a2 := s2.at_
    have hca : w2.ca = none := a2.cup
    have hp0 := s2.step.back hp
    refine o2 (.ref p) ⟨w2.F, some p⟩ _ ⟨⟨s2.step.le.F, fun q e => ?_⟩, fun a u h1 h2 => ?_, s2.step.fresh, fun q e => ?_, fun a h => ?_⟩ ⟨fun a u h => ?_, ⟨p, rfl, upd_same, a2.nof hp⟩⟩ (.cup rfl)
    · have := s2.step.le.ca q e
      rw [hca] at this; cases this
    · have hn : a ≠ p := ne_of_none h1 hp0
      rw [upd_ne hn]; exact s2.step.keep a u h1 h2
    · cases e; exact .inr hp0
    · by_cases z : a = p
      · subst z; rw [upd_same]; exact fun q => nomatch q
      · rw [upd_ne z]; exact s2.step.alive a h
    · have hn : a ≠ p := fun z => by subst z; rw [a2.nof hp] at h; cases h
      rw [upd_ne hn]; exact a2.F a u h
  · exact o2.elim
/-- a test's run -/
theorem t_run {wm w : Wd} {H : Hp} {env : Env} {own : List Nat} {c : C} {σ : St} (s : StOk K n w0 H0 wm w env own c σ H) {t : E} {D' : Ends} {f : D → C → RS} {Q : Bool → Hp → Prop} (h : OutS K n T.ex w0 H0 wm W (RS.ofR (evE F T.gv t env c) env (own.filter fun j => !uses t j) f) D')
    (hb : ∀ d c1, (∀ b, d ≠ .bl b) → f d c1 = .no) (k : ∀ b c1 w1 H1, StOk K n w0 H0 wm w1 env own c1 σ H1 → w.le w1 → OutS K n T.ex w0 H0 wm W (f (.bl b) c1) D' → Q b H1) : tT K T F W t σ H Q := by
  refine ⟨_, c, env, s.atLent _, s.repLent _, ?_⟩
  show Out K T.ex _ _ H ((evE F T.gv t env c).bind asB) Q _
  cases e1 : evE F T.gv t env c with
  | no => rw [e1] at h; exact h.elim
  | ex x c1 =>
    rw [e1] at h
    exact fun cls dd w' H' st a rx => h cls dd w' σ H' (s.heavy st a) rx
  | ok d c1 =>
    rw [e1] at h
    have o : OutS K n T.ex w0 H0 wm W (f d c1) D' := h
    by_cases hd : ∃ b, d = .bl b
    · obtain ⟨b, rfl⟩ := hd
      intro v w' H' st a e
      have e' : v = b := e
      subst e'
      obtain ⟨k1, k2, _⟩ := s.light st a
      exact k v c1 _ H' k1 (given_le k2) o
    · rw [hb d c1 (fun b z => hd ⟨b, z⟩)] at o
      exact o.elim
theorem p_ife {t : E} {a b : Ss} {u : Expr} {x y : List Stmt} {pos : Pos} (ht : PT X u (tT X.K T F W t)) (ha : PSs X x (tSs X.K X.N.length T F wf w0 H0 W a)) (hb : PSs X y (tSs X.K X.N.length T F wf w0 H0 W b)) : PS X (.If u x y pos) (tS X.K X.N.length T F wf w0 H0 W (.ife t a b)) := by
  refine PS.imp (ps_if ht ha hb) fun D' σ H ⟨wm, w, env, own, c, s, o⟩ => ?_
  refine t_run s (f := fun d c1 => match d with
    | .bl true => evSs F T.gv wf a env own c1
    | .bl false => evSs F T.gv wf b env own c1
    | _ => .no) o (fun d c1 hd => ?_) fun k c1 w1 H1 s1 l1 o1 => ?_
  · cases d <;> first | rfl | exact absurd rfl (hd _)
  · cases k with
    | true => rw [if_pos rfl]; exact ⟨wm, w1, env, own, c1, s1, o1⟩
    | false => rw [if_neg (by decide)]; exact ⟨wm, w1, env, own, c1, s1, o1⟩
theorem whileGo_succ {test body : Env → List Nat → C → RS} {m : Nat} {env : Env} {own : List Nat} {c : C} : whileGo test body (m + 1) env own c = match test env own c with
    | .rt (.bl true) c1 => match body env own c1 with
      | .nx env2 own2 c2 => whileGo test body m env2 own2 c2
      | .ct env2 own2 c2 => whileGo test body m env2 own2 c2
      | .bk env2 own2 c2 => .nx env2 own2 c2
      | r => r
    | .rt (.bl false) c1 => .nx env own c1
    | .ex x env2 own2 c2 => .ex x env2 own2 c2
    | _ => .no := rfl
theorem p_whl (G : GoodS T F X W) {t : E} {b : Ss} {u : Expr} {x : List Stmt} {pos : Pos} (ht : PT X u (tT X.K T F W t)) (hb : PSs X x (tSs X.K X.N.length T F wf w0 H0 W b)) : PS X (.While u x [] pos) (tS X.K X.N.length T F wf w0 H0 W (.whl t b)) := by
  refine PS.imp (ps_while G.po ht hb) fun D' σ H ⟨wm, w, env, own, c, s, o⟩ => ?_
  let test : Env → List Nat → C → RS := fun env own c => RS.ofR (evE F T.gv t env c) env (own.filter fun j => !uses t j) fun d c1 => .rt d c1
  let Wh : Nat → St → Hp → Prop := fun m σ H => ∃ w env own c, StOk X.K X.N.length w0 H0 wm w env own c σ H ∧ OutS X.K X.N.length T.ex w0 H0 wm W (whileGo test (evSs F T.gv wf b) m env own c) D'
  refine ⟨Wh, ⟨wf, w, env, own, c, s, o⟩, ?_⟩
  rintro m σ1 H1 ⟨w1, env1, own1, c1, s1, o1⟩
  cases m with
  | zero => exact o1.elim
  | succ m =>
    have o2 : OutS X.K X.N.length T.ex w0 H0 wm W (RS.ofR (evE F T.gv t env1 c1) env1 (own1.filter fun j => !uses t j) fun d c2 => match d with
        | .bl true => (match evSs F T.gv wf b env1 own1 c2 with
          | .nx env2 own2 c3 => whileGo test (evSs F T.gv wf b) m env2 own2 c3
          | .ct env2 own2 c3 => whileGo test (evSs F T.gv wf b) m env2 own2 c3
          | .bk env2 own2 c3 => .nx env2 own2 c3
          | r => r)
        | .bl false => .nx env1 own1 c2
        | _ => .no) D' := by
      refine cast ?_ o1
      congr 1
      rw [whileGo_succ]
      show (match RS.ofR (evE F T.gv t env1 c1) env1 (own1.filter fun j => !uses t j) (fun d c1 => RS.rt d c1) with
        | .rt (.bl true) c1 => _
        | .rt (.bl false) c1 => _
        | .ex x env2 own2 c2 => _
        | _ => _) = _
      cases evE F T.gv t env1 c1 with
      | no => rfl
      | ex x c2 => rfl
      | ok d c2 =>
        cases d <;> try rfl
        rename_i k
        cases k <;> rfl
    refine t_run s1 o2 (fun d c1 hd => ?_) fun k c2 w2 H2 s2 l2 o3 => ?_
    · cases d <;> first | rfl | exact absurd rfl (hd _)
    · cases k with
      | false =>
        rw [if_neg (by decide)]
        exact o3 w2 σ1 H2 s2
      | true =>
        rw [if_pos rfl]
        refine ⟨Wh m, fun σ' H' q => ⟨m, Nat.lt_succ_self m, q⟩, wm, w2, env1, own1, c2, s2, ?_⟩
        dsimp only at o3
        cases er : evSs F T.gv wf b env1 own1 c2 with
        | nx env2 own2 c3 => rw [er] at o3; exact fun w3 σ3 H3 s3 => ⟨w3, env2, own2, c3, s3, o3⟩
        | ct env2 own2 c3 => rw [er] at o3; exact fun w3 σ3 H3 s3 => ⟨w3, env2, own2, c3, s3, o3⟩
        | bk env2 own2 c3 => rw [er] at o3; exact o3
        | rt d c3 => rw [er] at o3; exact o3
        | ex x env2 own2 c3 => rw [er] at o3; exact o3
        | no => rw [er] at o3; exact o3.elim
/-- what is known grows, without a store -/
theorem StOk.move {wm w w1 : Wd} {H H1 : Hp} {env : Env} {own : List Nat} {c : C} {σ : St} (s : StOk K n w0 H0 wm w env own c σ H) (st : Step w H w1 H1) (a : At w1 c H1) : StOk K n w0 H0 wm w1 env own c σ H1 :=
  ⟨a, s.step.trans st, s.mono.trans st.le, s.len, s.nl, fun i d hi e => by
    obtain ⟨v, e1, r⟩ := s.sh i d hi e
    exact ⟨v, e1, r.mono st.le⟩, fun i hi => by
    obtain ⟨p, xs, ds, e1, e2, hd, hn, r⟩ := s.ow i hi
    exact ⟨p, xs, ds, e1, e2, hd.step st, hn, r.mono st.le⟩, s.ap⟩
/-- the turns of a for -/
theorem for_go {tg : Tg} {b : Ss} {D' : Ends} {ds : List D} {J : L2.It} {wm wl : Wd} {env : Env} {own : List Nat} {c : C} {σ : St} {H : Hp} (s : StOk K n w0 H0 wm wl env own c σ H) (wk : Wk K J wl ds) (o : OutS K n T.ex w0 H0 wm W (forGo tg (evSs F T.gv wf b) ds env own c) D') :
    ∃ Wh : Nat → Nat → St → Hp → Prop, (∃ m, Wh 0 m σ H) ∧ ∀ i m σ H, Wh i m σ H → (J.stop i H ∧ D'.nx σ H) ∨ (J.go i H ∧ ∃ N : St → Hp → Prop, (∀ σ' H', N σ' H' → ∃ m', m' < m ∧ Wh (i + 1) m' σ' H') ∧
      ∀ x H', J.yld i H x H' → gTg K tg x σ H' fun σ2 H2 => tSs K n T F wf w0 H0 W b { D' with nx := N, ct := N, bk := D'.nx } σ2 H2) := by
  let Wi : Nat → St → Hp → Prop := fun i σ H => i ≤ ds.length ∧ ∃ w env own c, StOk K n w0 H0 wl w env own c σ H ∧ OutS K n T.ex w0 H0 wl W (forGo tg (evSs F T.gv wf b) (ds.drop i) env own c) D'
  refine ⟨fun i m σ H => m = ds.length - i ∧ Wi i σ H, ⟨_, rfl, Nat.zero_le _, wl, env, own, c, s.reMono (.refl _), o.later s.mono⟩, ?_⟩
  rintro i m σ1 H1 ⟨rfl, hi, w1, env1, own1, c1, s1, o1⟩
  by_cases hlt : i < ds.length
  · refine .inr ⟨wk.go i H1 w1 c1 s1.mono s1.at_ hlt, Wi (i + 1), fun σ' H' q => ⟨ds.length - (i + 1), by omega, rfl, q⟩, fun x H2 y => ?_⟩
    obtain ⟨w2, d, e2, st2, a2, rx⟩ := wk.yld i H1 x H2 w1 c1 s1.mono s1.at_ hlt y
    have s2 := s1.move st2 a2
    have edrop : ds.drop i = d :: ds.drop (i + 1) := by
      rw [List.drop_eq_getElem_cons hlt]
      congr 1
      exact Option.some.inj ((List.getElem?_eq_getElem hlt).symm.trans e2)
    rw [edrop] at o1
    unfold forGo at o1
    cases et : setTg tg d env1 with
    | none => rw [et] at o1; exact o1.elim
    | some env2 =>
      rw [et] at o1
      dsimp only at o1
      refine tg_ok a2 rx (Nat.le_of_eq s2.len) et fun σ3 sto => ?_
      have s3 := s2.stored sto
      refine ⟨wl, w2, env2, _, c1, s3, ?_⟩
      cases er : evSs F T.gv wf b env2 (drops tg.slots own1) c1 with
      | nx env3 own3 c3 => rw [er] at o1; exact fun w4 σ4 H4 s4 => ⟨hlt, w4, env3, own3, c3, s4, o1⟩
      | ct env3 own3 c3 => rw [er] at o1; exact fun w4 σ4 H4 s4 => ⟨hlt, w4, env3, own3, c3, s4, o1⟩
      | bk env3 own3 c3 => rw [er] at o1; exact o1
      | rt d' c3 => rw [er] at o1; exact o1
      | ex x env3 own3 c3 => rw [er] at o1; exact o1
      | no => rw [er] at o1; exact o1.elim
  · have ei : i = ds.length := by omega
    subst ei
    refine .inl ⟨wk.stop _ H1 w1 c1 s1.mono s1.at_ (Nat.le_refl _), ?_⟩
    rw [List.drop_length] at o1
    exact o1 w1 σ1 H1 s1
end
end Ev

set_option Elab.async false
set_option linter.all false
set_option maxRecDepth 100000
set_option maxHeartbeats 4000000
namespace Ev
open PySem L2
section
variable {T : Tab} {F : Fns} {X : Cx} {W : WX} {wf : Nat} {w0 : Wd} {H0 : Hp}
def isRg : It → Bool
  | .r1 _ => true
  | .r2 _ _ => true
  | .r3 _ _ _ => true
  | _ => false
theorem ownIt_other {it : It} (h : isRg it = false) (own : List Nat) : ownIt it own = own.filter fun j => !usesI it j := by
  cases it <;> first | rfl | cases h
theorem ownIt_rg {it : It} (h : isRg it = true) (own : List Nat) : ownIt it own = own := by
  cases it <;> first | rfl | cases h
theorem sndIr (G : Good T F X W) {it : It} {tge e : Expr} (hr : isRg it = true) (h : chkI T.fn T.gn X.N it X.env.scope tge e = true) : PI X tge e (tIr X.K T F W it) := by
  cases it <;> simp only [isRg, reduceCtorEq] at hr
  · rename_i a
    simp only [chkI] at h
    split at h
    · simp only [Bool.and_eq_true, decide_eq_true_eq] at h
      obtain ⟨⟨⟨h1, h2⟩, h3⟩, h4⟩ := h
      subst h1
      exact i_r1r G (gl_of h2) (sndE a X W _ G h3).pe h4
    · cases h
  · rename_i a b
    simp only [chkI] at h
    split at h
    · simp only [Bool.and_eq_true, decide_eq_true_eq] at h
      obtain ⟨⟨⟨⟨⟨h1, h2⟩, h3⟩, h4⟩, h5⟩, h6⟩ := h
      subst h1
      exact i_r2r G (gl_of h2) (sndE a X W _ G h3).pe (sndE b X W _ G h5).pe h4 h6
    · cases h
  · rename_i a b c
    simp only [chkI] at h
    split at h
    · simp only [Bool.and_eq_true, decide_eq_true_eq] at h
      obtain ⟨⟨⟨⟨⟨⟨⟨h1, h2⟩, h3⟩, h4⟩, h5⟩, h6⟩, h7⟩, h8⟩ := h
      subst h1
      exact i_r3r G (gl_of h2) (sndE a X W _ G h3).pe (sndE b X W _ G h5).pe (sndE c X W _ G h7).pe h4 h6 h8
    · cases h
theorem p_for (G : GoodS T F X W) {tg : Tg} {it : It} {b : Ss} {x y : Expr} {z : List Stmt} {pos : Pos} (h1 : chkTg X.N X.env.scope tg x = true) (h2 : chkI T.fn T.gn X.N it X.env.scope x y = true) (h3 : notSet y = true)
    (hb : PSs X z (tSs X.K X.N.length T F wf w0 H0 W b)) : PS X (.For x y z [] pos) (tS X.K X.N.length T F wf w0 H0 W (.for_ tg it b)) := by
  cases hr : isRg it with
  | true =>
    refine PS.imp (ps_for G.po G.calm (sndIr G.toGood hr h2) (pg_def G h1) hb (notSet_ok h3)) fun D' σ H ⟨wm, w, env, own, c, s, o⟩ => ?_
    refine ⟨_, c, env, s.atLent _, s.repLent _, ?_⟩
    have o' : OutS X.K X.N.length T.ex w0 H0 wm W (RS.ofR (evI F T.gv it env c) env (own.filter fun j => !usesI it j) fun ds c1 => forGo tg (evSs F T.gv wf b) ds env (ownIt it own) c1) D' := o
    cases e1 : evI F T.gv it env c with
    | no => rw [e1] at o'; exact o'.elim
    | ex x c1 => rw [e1] at o'; exact fun cls dd w' H' st a rx => o' cls dd w' σ H' (s.heavy st a) rx
    | ok ds c1 =>
      rw [e1] at o'
      have o2 : OutS X.K X.N.length T.ex w0 H0 wm W (forGo tg (evSs F T.gv wf b) ds env (ownIt it own) c1) D' := o'
      rw [ownIt_rg hr] at o2
      exact fun J w' H' st a wk => for_go (s.light st a).1 (wk _) o2
  | false =>
    refine PS.imp (ps_for G.po G.calm (sndI it X W x y G.toGood h2) (pg_def G h1) hb (notSet_ok h3)) fun D' σ H ⟨wm, w, env, own, c, s, o⟩ => ?_
    refine ⟨_, c, env, s.atLent _, s.repLent _, ?_⟩
    have o' : OutS X.K X.N.length T.ex w0 H0 wm W (RS.ofR (evI F T.gv it env c) env (own.filter fun j => !usesI it j) fun ds c1 => forGo tg (evSs F T.gv wf b) ds env (ownIt it own) c1) D' := o
    cases e1 : evI F T.gv it env c with
    | no => rw [e1] at o'; exact o'.elim
    | ex x c1 => rw [e1] at o'; exact fun cls dd w' H' st a rx => o' cls dd w' σ H' (s.heavy st a) rx
    | ok ds c1 =>
      rw [e1] at o'
      have o2 : OutS X.K X.N.length T.ex w0 H0 wm W (forGo tg (evSs F T.gv wf b) ds env (ownIt it own) c1) D' := o'
      rw [ownIt_other hr] at o2
      exact fun J w' H' st a wk => for_go (s.heavy st a) wk o2
theorem loc_of {sc : Scope} {x : Str} (h : allLoc sc x = true) : sc.names.lookup x = some .local := eq_of_beq h
mutual
theorem sndS (G : GoodS T F X W) : ∀ (s : S) (st : Stmt), chkS T.fn T.gn X.N X.env.scope s st = true → PS X st (tS X.K X.N.length T F wf w0 H0 W s)
  | .set i e, st, h => by
    simp only [chkS] at h
    split at h
    · simp only [Bool.and_eq_true] at h
      exact p_set G h.1.1 h.1.2 h.2
    · cases h
  | .setT is e, st, h => by
    simp only [chkS] at h
    split at h
    · rename_i ts k tp v pos
      simp only [Bool.and_eq_true] at h
      refine p_setT G h.1.1 h.1.2 ?_
      have h3 := h.2
      split at h3
      · exact swPure_ok G.kind (of_decide_eq_true h3)
      · rename_i hv
        cases v <;> first | rfl | exact (hv _ _ _ rfl).elim
    · cases h
  | .par2 i j a b, st, h => by
    simp only [chkS] at h
    split at h
    · simp only [Bool.and_eq_true, decide_eq_true_eq] at h
      obtain ⟨⟨⟨⟨⟨⟨⟨h1, h2⟩, h3⟩, h4⟩, h5⟩, h6, h7⟩, h8, h9⟩, h10⟩ := h
      exact p_par2 G h1 h2 h3 (loc_of h4) (loc_of h5) h6 h7 h8 h9 (swPure_ok G.kind h10)
    · cases h
  | .par3 i j k a b e, st, h => by
    simp only [chkS] at h
    split at h
    · simp only [Bool.and_eq_true, decide_eq_true_eq] at h
      obtain ⟨⟨⟨⟨⟨⟨⟨⟨⟨⟨h1, h2⟩, h3⟩, h4⟩, h5⟩, h6⟩, h7⟩, h8, h9⟩, h10, h11⟩, h12, h13⟩, h14⟩ := h
      exact p_par3 G h1 h2 h3 h4.1 h4.2.1 h4.2.2 (loc_of h5) (loc_of h6) (loc_of h7) h8 h9 h10 h11 h12 h13 (swPure_ok G.kind h14)
    · cases h
  | .app i e, st, h => by
    simp only [chkS] at h
    split at h
    · simp only [Bool.and_eq_true, decide_eq_true_eq, Bool.not_eq_true'] at h
      obtain ⟨⟨⟨⟨⟨⟨h1, h2⟩, h3⟩, h4⟩, h5⟩, h6⟩, h7, h8⟩ := h
      subst h5
      exact p_app G h1 (vis_of h2) h3 h4 h6 h7 h8
    · cases h
  | .sti i k e, st, h => by
    simp only [chkS] at h
    split at h
    · simp only [Bool.and_eq_true, decide_eq_true_eq, Bool.not_eq_true'] at h
      obtain ⟨⟨⟨⟨⟨h1, h2⟩, h3⟩, h4⟩, h5, h6⟩, h7⟩ := h
      exact p_sti G h1 (vis_of h2) h3 h4 h5 h6 h7
    · cases h
  | .stc i k e, st, h => by
    simp only [chkS] at h
    split at h
    · simp only [Bool.and_eq_true, decide_eq_true_eq, Bool.not_eq_true'] at h
      obtain ⟨⟨⟨⟨⟨h1, h2⟩, h3⟩, h4⟩, rfl⟩, h6⟩ := h
      exact p_stc G h1 (vis_of h2) h3 h4 h6
    · cases h
  | .retc a b, st, h => by
    simp only [chkS] at h
    split at h
    · simp only [Bool.and_eq_true] at h
      exact p_retc G h.1.1 h.1.2 h.2.1 h.2.2
    · cases h
  | .expr e, st, h => by
    simp only [chkS] at h
    split at h
    · simp only [Bool.and_eq_true] at h
      exact p_expr G h.1 h.2
    · cases h
  | .ret e, st, h => by
    simp only [chkS] at h
    split at h
    · exact p_ret G h
    · cases h
  | .retN, st, h => by
    simp only [chkS] at h
    split at h
    · exact p_retN
    · cases h
  | .ife t a b, st, h => by
    simp only [chkS] at h
    split at h
    · simp only [Bool.and_eq_true, Bool.not_eq_true'] at h
      obtain ⟨⟨⟨h1, h2⟩, h3⟩, h4⟩ := h
      exact p_ife ((sndE t X W _ G.toGood h2).pt h1) (sndSs G a _ h3) (sndSs G b _ h4)
    · cases h
  | .for_ tg it b, st, h => by
    simp only [chkS] at h
    split at h
    · simp only [Bool.and_eq_true] at h
      obtain ⟨⟨⟨h1, h2⟩, h3⟩, h4⟩ := h
      exact p_for G h1 h2 h3 (sndSs G b _ h4)
    · cases h
  | .whl t b, st, h => by
    simp only [chkS] at h
    split at h
    · simp only [Bool.and_eq_true, Bool.not_eq_true'] at h
      obtain ⟨⟨h1, h2⟩, h3⟩ := h
      exact p_whl G ((sndE t X W _ G.toGood h2).pt h1) (sndSs G b _ h3)
    · cases h
  | .brk, st, h => by
    simp only [chkS] at h
    split at h
    · exact PS.imp ps_break fun D' σ H ⟨wm, w, env, own, c, s, o⟩ => o w σ H s
    · cases h
  | .cnt, st, h => by
    simp only [chkS] at h
    split at h
    · exact PS.imp ps_continue fun D' σ H ⟨wm, w, env, own, c, s, o⟩ => o w σ H s
    · cases h
  | .pas, st, h => by
    simp only [chkS] at h
    split at h
    · exact PS.imp ps_pass fun D' σ H ⟨wm, w, env, own, c, s, o⟩ => o w σ H s
    · cases h
  | .rse, st, h => PS.imp ps_never fun D' σ H ⟨wm, w, env, own, c, s, o⟩ => o.elim
theorem sndSs (G : GoodS T F X W) : ∀ (s : Ss) (st : List Stmt), chkSs T.fn T.gn X.N X.env.scope s st = true → PSs X st (tSs X.K X.N.length T F wf w0 H0 W s)
  | .nil, st, h => by
    simp only [chkSs] at h
    split at h
    · exact PSs.imp pss_nil fun D' σ H ⟨wm, w, env, own, c, s, o⟩ => o w σ H s
    · cases h
  | .cons s ss, st, h => by
    simp only [chkSs] at h
    split at h
    · simp only [Bool.and_eq_true] at h
      refine PSs.imp (pss_cons (sndS G s _ h.1) (sndSs G ss _ h.2)) fun D' σ H ⟨wm, w, env, own, c, s', o⟩ => ?_
      refine ⟨wm, w, env, own, c, s', ?_⟩
      have o' : OutS X.K X.N.length T.ex w0 H0 wm W ((evS F T.gv wf s env own c).andThen (evSs F T.gv wf ss)) D' := o
      cases er : evS F T.gv wf s env own c with
      | nx env2 own2 c2 => rw [er] at o'; exact fun w2 σ2 H2 s2 => ⟨wm, w2, env2, own2, c2, s2, o'⟩
      | ct env2 own2 c2 => rw [er] at o'; exact o'
      | bk env2 own2 c2 => rw [er] at o'; exact o'
      | rt d c2 => rw [er] at o'; exact o'
      | ex x env2 own2 c2 => rw [er] at o'; exact o'
      | no => rw [er] at o'; exact o'.elim
    · cases h
end
end

/-! ### defs -/
/-- a def of the text beside the program's -/
structure DefOk (T : Tab) (st : Stmt) (N ps : List Str) (fd : Fd) : Prop where
  sc : FnScope N ps (defScope st)
  np : fd.np = ps.length
  ns : fd.ns = N.length
  chk : chkSs T.fn T.gn N (defScope st) fd.body (defBody st) = true
section
variable {P : Program} {w : World} {K : PySem.W.Frag} {mg : Str → Option Value} {base : Heap} {T : Tab}
/-- where the program's names stand -/
structure Top (T : Tab) (K : PySem.W.Frag) (mg : Str → Option Value) : Prop where
  gl : ∀ (j : Nat) (x : Str), T.gn[j]? = some x → ∃ (v : V) (u : Value) (d : D), mg x = some u ∧ RelV v u ∧ T.gv[j]? = some d ∧ (∀ w, Rep K w v d) ∧ (x == ("__debug__" : Str)) = false
  bt : ∀ x ∈ blts, mg x = none
/-- the defs keep what the interpreter says, n calls deep -/
def FnsOk (P : Program) (w : World) (K : PySem.W.Frag) (mg : Str → Option Value) (base : Heap) (T : Tab) (F : Fns) (k : Nat) : Prop :=
  ∀ (j : Nat) (x : Str), T.fn[j]? = some x → ∃ (f : Addr) (fd : FuncData) (ps : List Str), FnOk P w K mg base (L2.CX P w) k f fd ps (spF K T.ex ps.length (F j)) ∧
    mg x = some (.ref f) ∧ PySem.W.keepIn K (.ref f) = true ∧ Binds K fd ps [] ∧ (∀ ds c, F j ds c ≠ .no → ds.length = ps.length) ∧ (x == ("__debug__" : Str)) = false
theorem start_len {N : List Str} {vs : List V} (h : vs.length ≤ N.length) : (L2.start N vs).length = N.length := by
  unfold L2.start
  rw [List.length_append, List.length_map, List.length_replicate]; omega
theorem def_ok {x qual : Str} {st : Stmt} {f : Addr} {fdd : FuncData} {N ps : List Str} {fd : Fd} {F : Fns} {n wf : Nat} (tp : Top T K mg) (F1 : Fun K x qual st f fdd) (ok : DefOk T st N ps fd) (fs : FnsOk P w K mg base T F n) :
    FnOk P w K mg base (L2.CX P w) (n + 1) f fdd ps (spF K T.ex ps.length fun ds c => if ds.length = fd.np then evBody F T.gv wf fd.body (ds.map some ++ List.replicate (fd.ns - fd.np) none) c else .no) := by
  refine F1.okX ok.sc (fun vs H Q E h => h.1) (fun cdv A outer s H vs Q E hr h => ?_)
  obtain ⟨hl, w1, c, ds, a, r, o⟩ := h
  have hpl : ps.length ≤ N.length := by have := congrArg List.length ok.sc.pre; rw [List.length_take] at this; omega
  have hdl : ds.length = fd.np := by rw [ok.np, ← hl, r.length]
  dsimp only at o
  rw [if_pos hdl] at o
  have G : GoodS T F (cxOf (L2.CX P w) P w K mg base N qual (defScope st) f cdv A outer s H E) (fun cls d _ H' => E cls d H') := {
    calm := rfl
    nd := ok.sc.nd
    tk := takes_of rfl rfl rfl rfl
    un := by have := hr.un; show (A.deeper (PyProof.Rows.envOfC qual (defScope st) s.heap.objs.size f cdv)).units + 65 < cLine; omega
    fn := fun j x hj => by
      obtain ⟨f, fd, ps, h1, h2, h3, h4, h5, h6⟩ := fs j x hj
      exact ⟨f, fd, ps, n, h1, hr, h2, h3, h4, h5, h6⟩
    gl := tp.gl
    bt := tp.bt
    kind := ok.sc.kind
    fnT := rfl
    po := passes_of rfl }
  refine ⟨_, sndSs (wf := wf) (w0 := w1) (H0 := H) G fd.body _ ok.chk, ?_⟩
  have hns : fd.ns - fd.np = N.length - vs.length := by rw [ok.np, ok.ns, hl]
  refine ⟨w1, w1, ds.map some ++ List.replicate (fd.ns - fd.np) none, [], c, ⟨a, .refl _ _, .refl _, ?_, ?_, fun i d _ e => ?_, fun i hi => (nomatch hi), fun i j hi => (nomatch hi)⟩, ?_⟩
  · rw [start_len (by omega), List.length_append, List.length_map, List.length_replicate, hns, ← r.length]; omega
  · show _ = N.length
    rw [List.length_append, List.length_map, List.length_replicate, hns, ← r.length]; omega
  · -- the parameters
    unfold Env.at at e
    by_cases hi : i < ds.length
    · rw [List.getElem?_append_left (by simpa using hi), List.getElem?_map, List.getElem?_eq_getElem hi] at e
      have e' : ds[i] = d := by simpa using e
      obtain ⟨v, e1, q⟩ := r.get (List.getElem?_eq_getElem hi)
      refine ⟨v, ?_, by rw [← e']; exact q⟩
      unfold L2.start
      rw [List.getElem?_append_left (by rw [List.length_map, r.length]; exact hi), List.getElem?_map, e1]; rfl
    · rw [List.getElem?_append_right (by simpa using hi)] at e
      rw [List.getElem?_replicate] at e
      split at e <;> cases e
  · -- what comes out
    unfold evBody at o
    cases er : evSs F T.gv wf fd.body (ds.map some ++ List.replicate (fd.ns - fd.np) none) [] c with
    | nx env own c2 => rw [er] at o; exact fun w2 σ2 H2 s2 => o .non w2 H2 s2.step s2.at_ .non
    | rt d c2 => rw [er] at o; exact fun v w2 H2 st2 a2 r2 => o v w2 H2 st2 a2 r2
    | ex x env own c2 => rw [er] at o; exact fun cls dd w2 σ2 H2 s2 rx => o cls dd w2 H2 s2.step s2.at_ rx
    | bk env own c2 => rw [er] at o; exact o.elim
    | ct env own c2 => rw [er] at o; exact o.elim
    | no => rw [er] at o; exact o.elim
end
end Ev

set_option Elab.async false
set_option linter.all false
set_option maxRecDepth 100000
set_option maxHeartbeats 4000000
/-! the whole program; a law's end -/
namespace Ev
open PySem L2
section
variable {K : PySem.W.Frag} {mg : Str → Option Value} {T : Tab} {pr : Pr}
/-- a def stands at its name -/
def DefAt (K : PySem.W.Frag) (mg : Str → Option Value) (T : Tab) (pr : Pr) (j : Nat) (x : Str) : Prop :=
  ∃ (y : Str) (f : Addr) (fdd : FuncData) (st : Stmt) (N ps : List Str) (fd : Fd), Fun K y y st f fdd ∧ mg x = some (.ref f) ∧ Binds K fdd ps [] ∧ DefOk T st N ps fd ∧ pr.fds[j]? = some fd ∧ (x == ("__debug__" : Str)) = false
theorem fn0 {P : Program} {w : World} {base : Heap} {CX : CXT} {f : Addr} {fd : FuncData} {ps : List Str} : FnOk P w K mg base CX 0 f fd ps (spF K T.ex ps.length fun _ _ => .no) :=
  ⟨fun vs H Q E h => h.1, fun A outer s H args us vs Q E _ _ _ _ h => by
    obtain ⟨_, _, _, _, _, _, o⟩ := h
    exact o.elim⟩
theorem call0 {wf j : Nat} {ds : List D} {c : C} : pr.call wf 0 j ds c = .no := by unfold Pr.call; rfl
theorem callS {wf n j : Nat} {fd : Fd} (h : pr.fds[j]? = some fd) (ds : List D) (c : C) : pr.call wf (n + 1) j ds c = if ds.length = fd.np then evBody (pr.call wf n) pr.gv wf fd.body (ds.map some ++ List.replicate (fd.ns - fd.np) none) c else .no := by
  rw [Pr.call, h]
theorem fns_ok {P : Program} {w : World} {base : Heap} (tp : Top T K mg) (gv : T.gv = pr.gv) (at_ : ∀ j x, T.fn[j]? = some x → DefAt K mg T pr j x) (wf : Nat) : ∀ n : Nat, FnsOk P w K mg base T (pr.call wf n) n
  | 0, j, x, h => by
    obtain ⟨y, f, fdd, st, N, ps, fd, F1, m, b, ok, e, nd⟩ := at_ j x h
    refine ⟨f, fdd, ps, ?_, m, F1.kp, b, fun ds c z => absurd call0 z, nd⟩
    have e0 : pr.call wf 0 j = fun _ _ => R.no := by funext ds c; exact call0
    rw [e0]
    exact fn0
  | n + 1, j, x, h => by
    obtain ⟨y, f, fdd, st, N, ps, fd, F1, m, b, ok, e, nd⟩ := at_ j x h
    have e1 : pr.call wf (n + 1) j = fun ds c => if ds.length = fd.np then evBody (pr.call wf n) T.gv wf fd.body (ds.map some ++ List.replicate (fd.ns - fd.np) none) c else .no := by
      funext ds c; rw [callS e, gv]
    refine ⟨f, fdd, ps, ?_, m, F1.kp, b, fun ds c z => ?_, nd⟩
    · rw [e1]
      exact def_ok tp F1 ok (fns_ok tp gv at_ wf n)
    · rw [e1] at z
      by_cases hl : ds.length = fd.np
      · rw [hl, ok.np]
      · exact absurd (if_neg hl) z
/-- what a law promises -/
def spLaw (K : PySem.W.Frag) : Sp := fun vs H Q _ => ∃ (a : Addr) (ns : List Int), vs = [.ref a] ∧ SqL K H a (ns.map V.int) ∧ ns.length ≤ 63 ∧ ∀ H', Q (.bl true) H'
theorem law_ok {P : Program} {w : World} {base : Heap} {n j : Nat} {x : Str} {f : Addr} {fdd : FuncData} {st : Stmt} {N : List Str} {fd : Fd}
    (tp : Top T K mg) (gv : T.gv = pr.gv) (at_ : ∀ j x, T.fn[j]? = some x → DefAt K mg T pr j x)
    (F1 : Fun K x x st f fdd) (ok : DefOk T st N ["script"] fd) (e : pr.fds[j]? = some fd)
    (law : ∀ ns : List Int, ns.length ≤ 63 → ∃ wf c, pr.call wf n j [.scr ns] none = .ok (.bl true) c) :
    FnOk P w K mg base (L2.CX P w) n f fdd ["script"] (spLaw K) := by
  cases n with
  | zero =>
    obtain ⟨_, _, z⟩ := law [] (Nat.zero_le _)
    rw [call0] at z; cases z
  | succ n =>
    refine ⟨fun vs H Q E h => ?_, fun A outer s H args us vs Q E hr he hb hv h => ?_⟩
    · obtain ⟨_, _, rfl, _⟩ := h; rfl
    · obtain ⟨a, ns, rfl, hS, hl, q⟩ := h
      obtain ⟨wf, c, ec⟩ := law ns hl
      have F2 := def_ok (wf := wf) tp F1 ok (fns_ok (P := P) (w := w) (base := base) tp gv at_ wf n)
      refine F2.run A outer s H args us _ Q E hr he hb hv ⟨rfl, ⟨H, none⟩, none, [.scr ns], ⟨fun _ _ h => h, rfl⟩, .cons (.scr hS) .nil, ?_⟩
      have e1 : pr.call wf (n + 1) j [.scr ns] none = _ := callS e [.scr ns] none
      rw [← gv] at e1
      rw [e1] at ec
      dsimp only
      rw [ec]
      intro v w' H' _ _ r
      cases r
      exact q H'
/-- a list's members, one by one -/
def AllAt (p : Nat → Str → Prop) : Nat → List Str → Prop
  | _, [] => True
  | k, x :: l => p k x ∧ AllAt p (k + 1) l
theorem AllAt.at_ {p : Nat → Str → Prop} : ∀ {l : List Str} {k : Nat}, AllAt p k l → ∀ (j : Nat) (x : Str), l[j]? = some x → p (k + j) x
  | [], _, _, j, x, h => by simp at h
  | y :: l, k, a, 0, x, h => by
    have e : y = x := by simpa using h
    rw [← e]; exact a.1
  | y :: l, k, a, j + 1, x, h => by
    have q := AllAt.at_ a.2 j x (by simpa using h)
    rw [show k + 1 + j = k + (j + 1) by omega] at q
    exact q
/-- a constant stands at its name -/
def GlAt (K : PySem.W.Frag) (mg : Str → Option Value) (T : Tab) (j : Nat) (x : Str) : Prop :=
  ∃ (v : V) (u : Value) (d : D), mg x = some u ∧ RelV v u ∧ T.gv[j]? = some d ∧ (∀ w, Rep K w v d) ∧ (x == ("__debug__" : Str)) = false
theorem gl_int {j : Nat} {x : Str} {i : Int} {t : PySem.Tok} (m : mg x = some (.int i t)) (e : T.gv[j]? = some (.int i)) (nd : (x == ("__debug__" : Str)) = false) : GlAt K mg T j x :=
  ⟨.int i, _, .int i, m, ⟨t, rfl⟩, e, fun _ => .int i, nd⟩
theorem top_of (gl : AllAt (GlAt K mg T) 0 T.gn) (bt : AllAt (fun _ x => mg x = none) 0 blts) : Top T K mg where
  gl := fun j x h => by have q := gl.at_ j x h; rw [Nat.zero_add] at q; exact q
  bt := fun x hx => by
    obtain ⟨j, e⟩ := List.getElem?_of_mem hx
    exact bt.at_ j x e
theorem ats_of (a : AllAt (DefAt K mg T pr) 0 T.fn) : ∀ j x, T.fn[j]? = some x → DefAt K mg T pr j x := fun j x h => by
  have q := a.at_ j x h; rw [Nat.zero_add] at q; exact q
theorem cx_never {P : Program} {w : World} {H : Hp} {s : Shared} {u : Value} {s' : Shared} (h : L2.CX P w [] H s (fun _ _ _ => False) u s') : False := by
  obtain ⟨_, _, _, _, _, _, _, _, _, _, _, _, z⟩ := h
  exact z
end
end Ev

set_option Elab.async false
set_option linter.all false
set_option maxRecDepth 100000
set_option maxHeartbeats 4000000
/-! reckoning with the interpreter: what simp is to know; loops -/
namespace Ev
open PySem
theorem R.bind_congr {α β : Type} {r r' : R α} {f : α → C → R β} (h : r = r') : R.bind r f = R.bind r' f := by rw [h]
theorem RS.ofR_congr {α : Type} {r r' : R α} {env : Env} {own : List Nat} {f : α → C → RS} (h : r = r') : RS.ofR r env own f = RS.ofR r' env own f := by rw [h]
theorem RS.andThen_congr {r r' : RS} {f : Env → List Nat → C → RS} (h : r = r') : RS.andThen r f = RS.andThen r' f := by rw [h]
theorem compGo_congr {step : D → C → R (List D)} {ds ds' : List D} {c : C} (h : ds = ds') : compGo step ds c = compGo step ds' c := by rw [h]
theorem forGo_congr {tg : Tg} {body : Env → List Nat → C → RS} {ds ds' : List D} {env env' : Env} {own own' : List Nat} {c c' : C} (h : ds = ds') (h2 : env = env') (h3 : own = own') (h4 : c = c') : forGo tg body ds env own c = forGo tg body ds' env' own' c' := by rw [h, h2, h3, h4]
theorem whileGo_congr {test body : Env → List Nat → C → RS} {n : Nat} {env env' : Env} {own own' : List Nat} {c c' : C} (h2 : env = env') (h3 : own = own') (h4 : c = c') : whileGo test body n env own c = whileGo test body n env' own' c' := by rw [h2, h3, h4]
section
variable {α β : Type} {F : Fns} {G : List D} {wf : Nat} {env : Env} {own : List Nat} {c : C}
@[simp] theorem bind_ok {a : α} {f : α → C → R β} : R.bind (.ok a c) f = f a c := rfl
@[simp] theorem of_some {a : α} : R.of (some a) c = .ok a c := rfl
@[simp] theorem ofR_ok {a : α} {f : α → C → RS} : RS.ofR (.ok a c) env own f = f a c := rfl
@[simp] theorem then_nx {f : Env → List Nat → C → RS} : RS.andThen (.nx env own c) f = f env own c := rfl
@[simp] theorem then_rt {d : D} {f : Env → List Nat → C → RS} : RS.andThen (.rt d c) f = .rt d c := rfl
@[simp] theorem then_bk {f : Env → List Nat → C → RS} : RS.andThen (.bk env own c) f = .bk env own c := rfl
@[simp] theorem then_ct {f : Env → List Nat → C → RS} : RS.andThen (.ct env own c) f = .ct env own c := rfl
@[simp] theorem at_zero {x : Option D} {l : Env} : Env.at (x :: l) 0 = x := by simp [Env.at]
@[simp] theorem at_succ {x : Option D} {l : Env} {i : Nat} : Env.at (x :: l) (i + 1) = Env.at l i := by simp [Env.at]
@[simp] theorem okEq_int {i : Int} : (D.int i).okEq = true := rfl
@[simp] theorem okEq_bl {i : Bool} : (D.bl i).okEq = true := rfl
@[simp] theorem okEq_non : D.non.okEq = true := rfl
@[simp] theorem eq_int {i j : Int} : D.eq (.int i) (.int j) = decide (i = j) := by simp [D.eq]; rfl
@[simp] theorem eq_blbl {i j : Bool} : D.eq (.bl i) (.bl j) = (i == j) := by simp [D.eq]
@[simp] theorem eq_nonnon : D.eq .non .non = true := by simp [D.eq]
@[simp] theorem eq_intbl {i : Int} {j : Bool} : D.eq (.int i) (.bl j) = (i == if j then 1 else 0) := by simp [D.eq]
@[simp] theorem eq_intnon {i : Int} : D.eq (.int i) .non = false := by simp [D.eq]
@[simp] theorem abs_nat {i : Int} : (if i < 0 then -i else i) = (i.natAbs : Int) := by split <;> omega
/-- a turn's end -/
def RS.Sat (r : RS) (N B : Env → List Nat → C → Prop) (T : D → C → Prop) : Prop := match r with
  | .nx e o c => N e o c
  | .ct e o c => N e o c
  | .bk e o c => B e o c
  | .rt d c => T d c
  | _ => False
@[simp] theorem sat_nx {N B : Env → List Nat → C → Prop} {T : D → C → Prop} : (RS.nx env own c).Sat N B T = N env own c := rfl
@[simp] theorem sat_ct {N B : Env → List Nat → C → Prop} {T : D → C → Prop} : (RS.ct env own c).Sat N B T = N env own c := rfl
@[simp] theorem sat_bk {N B : Env → List Nat → C → Prop} {T : D → C → Prop} : (RS.bk env own c).Sat N B T = B env own c := rfl
@[simp] theorem sat_rt {N B : Env → List Nat → C → Prop} {T : D → C → Prop} {d : D} : (RS.rt d c).Sat N B T = T d c := rfl
theorem to_nx {r : RS} {N B : Env → List Nat → C → Prop} {T : D → C → Prop} {e : Env} {o : List Nat} {c' : C} (h : r = .nx e o c') (p : N e o c') : r.Sat N B T := by rw [h]; exact p
theorem to_rt {r : RS} {N B : Env → List Nat → C → Prop} {T : D → C → Prop} {d : D} {c' : C} (h : r = .rt d c') (p : T d c') : r.Sat N B T := by rw [h]; exact p
theorem to_bk {r : RS} {N B : Env → List Nat → C → Prop} {T : D → C → Prop} {e : Env} {o : List Nat} {c' : C} (h : r = .bk e o c') (p : B e o c') : r.Sat N B T := by rw [h]; exact p
theorem to_ct {r : RS} {N B : Env → List Nat → C → Prop} {T : D → C → Prop} {e : Env} {o : List Nat} {c' : C} (h : r = .ct e o c') (p : N e o c') : r.Sat N B T := by rw [h]; exact p
/-- a loop's end -/
def RS.End (r : RS) (B : Env → List Nat → C → Prop) (T : D → C → Prop) : Prop := (∃ e o c', r = .nx e o c' ∧ B e o c') ∨ (∃ d c', r = .rt d c' ∧ T d c')
theorem for_end {tg : Tg} {body : Env → List Nat → C → RS} {B : Env → List Nat → C → Prop} {T : D → C → Prop} (P : Nat → Env → List Nat → C → Prop) : ∀ (ds : List D) (k : Nat) (env : Env) (own : List Nat) (c : C), P k env own c →
    (∀ i d env own c, ds[i]? = some d → P (k + i) env own c → ∃ env1, setTg tg d env = some env1 ∧ (body env1 (drops tg.slots own) c).Sat (P (k + i + 1)) B T) →
    (∀ env own c, P (k + ds.length) env own c → B env own c) → (forGo tg body ds env own c).End B T
  | [], k, env, own, c, p, hs, he => .inl ⟨env, own, c, by simp [forGo], he env own c (by simpa using p)⟩
  | d :: ds, k, env, own, c, p, hs, he => by
    obtain ⟨env1, e1, s⟩ := hs 0 d env own c (by simp) (by simpa using p)
    have nxt : ∀ e o c', P (k + 0 + 1) e o c' → (forGo tg body ds e o c').End B T := fun e o c' p' => for_end P ds (k + 1) e o c' (by simpa using p') (fun i d env own c hi q => by
      have := hs (i + 1) d env own c (by simpa using hi) (by rw [show k + (i + 1) = k + 1 + i by omega]; exact q)
      rw [show k + (i + 1) = k + 1 + i by omega] at this; exact this) (fun env own c q => he env own c (by rw [List.length_cons, show k + (ds.length + 1) = k + 1 + ds.length by omega]; exact q))
    simp only [forGo, e1]
    revert s
    cases body env1 (drops tg.slots own) c with
    | nx e o c' => exact fun s => nxt e o c' s
    | ct e o c' => exact fun s => nxt e o c' s
    | bk e o c' => exact fun s => .inl ⟨e, o, c', rfl, s⟩
    | rt d c' => exact fun s => .inr ⟨d, c', rfl, s⟩
    | ex _ _ _ _ => exact fun s => s.elim
    | no => exact fun s => s.elim
/-- a loop without return and break -/
theorem for_nx {tg : Tg} {body : Env → List Nat → C → RS} (P : Nat → Env → List Nat → C → Prop) (ds : List D) {env : Env} {own : List Nat} {c : C} (p : P 0 env own c)
    (hs : ∀ i d env own c, ds[i]? = some d → P i env own c → ∃ env1, setTg tg d env = some env1 ∧ (body env1 (drops tg.slots own) c).Sat (P (i + 1)) (fun _ _ _ => False) (fun _ _ => False)) :
    ∃ e o c', forGo tg body ds env own c = .nx e o c' ∧ P ds.length e o c' := by
  have := for_end (B := P ds.length) (T := fun _ _ => False) (tg := tg) (body := body) P ds 0 env own c p (fun i d env own c hi q => by
    rw [Nat.zero_add] at q ⊢
    obtain ⟨e1, h1, s⟩ := hs i d env own c hi q
    refine ⟨e1, h1, ?_⟩
    revert s
    cases body e1 (drops tg.slots own) c <;> intro s <;> first | exact s | exact s.elim) (fun env own c q => by rw [Nat.zero_add] at q; exact q)
  rcases this with h | ⟨_, _, _, h⟩
  · exact h
  · exact h.elim
theorem while_end {test body : Env → List Nat → C → RS} {B : Env → List Nat → C → Prop} {T : D → C → Prop} (P : Nat → Env → List Nat → C → Prop)
    (hs : ∀ m env own c, P m env own c → (∃ c1, test env own c = .rt (.bl false) c1 ∧ B env own c1) ∨ (∃ c1, test env own c = .rt (.bl true) c1 ∧ (body env own c1).Sat (fun e o c' => ∃ m', m' < m ∧ P m' e o c') B T)) :
    ∀ (wf m : Nat) (env : Env) (own : List Nat) (c : C), m < wf → P m env own c → (whileGo test body wf env own c).End B T
  | 0, m, _, _, _, h, _ => by omega
  | wf + 1, m, env, own, c, h, p => by
    rcases hs m env own c p with ⟨c1, e, b⟩ | ⟨c1, e, s⟩
    · exact .inl ⟨env, own, c1, by simp [whileGo, e], b⟩
    · simp only [whileGo, e]
      revert s
      cases body env own c1 with
      | nx e o c' => exact fun ⟨m', hm, q⟩ => while_end P hs wf m' e o c' (by omega) q
      | ct e o c' => exact fun ⟨m', hm, q⟩ => while_end P hs wf m' e o c' (by omega) q
      | bk e o c' => exact fun s => .inl ⟨e, o, c', rfl, s⟩
      | rt d c' => exact fun s => .inr ⟨d, c', rfl, s⟩
      | ex _ _ _ _ => exact fun s => s.elim
      | no => exact fun s => s.elim
theorem End.nx {r : RS} {B : Env → List Nat → C → Prop} (h : r.End B fun _ _ => False) : ∃ e o c', r = .nx e o c' ∧ B e o c' := by
  rcases h with h | ⟨_, _, _, h⟩
  · exact h
  · exact h.elim
theorem whl_nx {t : E} {b : Ss} {B : Env → List Nat → C → Prop} (P : Nat → Env → List Nat → C → Prop) (m : Nat) (hm : m < wf) (hp : P m env own c)
    (hs : ∀ m env own c, P m env own c → (∃ c1, evE F G t env c = .ok (.bl false) c1 ∧ B env own c1) ∨ (∃ c1, evE F G t env c = .ok (.bl true) c1 ∧ (evSs F G wf b env own c1).Sat (fun e o c' => ∃ m', m' < m ∧ P m' e o c') B fun _ _ => False)) :
    ∃ e o c', whileGo (fun env own c => RS.ofR (evE F G t env c) env (own.filter fun j => !uses t j) fun d c1 => .rt d c1) (evSs F G wf b) wf env own c = .nx e o c' ∧ B e o c' :=
  End.nx (while_end P (fun m env own c p => by
    rcases hs m env own c p with ⟨c1, e, b⟩ | ⟨c1, e, b⟩
    · exact .inl ⟨c1, by rw [e]; rfl, b⟩
    · exact .inr ⟨c1, by rw [e]; rfl, b⟩) wf m env own c hm hp)
/-- a comprehension without draws -/
theorem comp_flat {step : D → C → R (List D)} {c : C} (f : D → List D) : ∀ {ds : List D}, (∀ d ∈ ds, step d c = .ok (f d) c) → compGo step ds c = .ok (ds.flatMap f) c
  | [], _ => by simp [compGo]
  | d :: ds, h => by
    simp only [compGo, h d List.mem_cons_self, bind_ok, comp_flat f (ds := ds) fun d hd => h d (List.mem_cons_of_mem _ hd), List.flatMap_cons]
theorem comp_map {step : D → C → R (List D)} {c : C} (f : D → D) {ds : List D} (h : ∀ d ∈ ds, step d c = .ok [f d] c) : compGo step ds c = .ok (ds.map f) c := by
  rw [comp_flat (fun d => [f d]) h]
  congr 1
  induction ds with
  | nil => rfl
  | cons x l ih => simp only [List.flatMap_cons, List.map_cons, List.cons_append, List.nil_append, ih fun d hd => h d (List.mem_cons_of_mem _ hd)]
theorem comp_nil {step : D → C → R (List D)} {c : C} {ds : List D} (h : ∀ d ∈ ds, step d c = .ok [] c) : compGo step ds c = .ok [] c := by
  rw [comp_flat (fun d => []) h]
  congr 1
  induction ds with
  | nil => rfl
  | cons x l ih => simp only [List.flatMap_cons, List.nil_append, ih fun d hd => h d (List.mem_cons_of_mem _ hd)]
/-- over numbers -/
theorem comp_ints {step : D → C → R (List D)} {c : C} (f : Int → D) {ns : List Int} (h : ∀ i ∈ ns, step (.int i) c = .ok [f i] c) : compGo step (ns.map D.int) c = .ok (ns.map f) c := by
  induction ns with
  | nil => simp [compGo]
  | cons x l ih => simp only [List.map_cons, compGo, h x List.mem_cons_self, bind_ok, ih fun i hi => h i (List.mem_cons_of_mem _ hi), List.cons_append, List.nil_append]
/-- closed runs, by the kernel -/
def R.tt : R D → Bool
  | .ok (.bl true) none => true
  | _ => false
theorem R.of_tt {r : R D} (h : r.tt = true) : r = .ok (.bl true) none := by
  unfold R.tt at h
  split at h
  · rfl
  · cases h
@[simp] theorem fmod_nat {a : Int} {b : Nat} : a.fmod b = a % b := Int.fmod_eq_emod_of_nonneg _ (by omega)
end
end Ev

set_option Elab.async false
set_option linter.all false
set_option maxRecDepth 100000
set_option maxHeartbeats 4000000
/-! plain facts: lists of numbers, trimmed rows, values, common parts -/
namespace Ev
open PySem L2
/-! ### subscripts and slices -/
theorem ixN_nat {n j : Nat} : ixN n (j : Int) = if j < n then some j else none := by
  unfold ixN; simp
@[simp] theorem atI_coe {α : Type} {xs : List α} {j : Nat} : atI xs (j : Int) = xs[j]? := by
  unfold atI
  rw [ixN_nat]
  split
  · rfl
  · simp; omega
@[simp] theorem atI_lit {α : Type} {xs : List α} {j : Nat} : atI xs (no_index (OfNat.ofNat j)) = xs[j]? := atI_coe (j := j)
@[simp] theorem atI_zero {α : Type} {xs : List α} : atI xs 0 = xs[0]? := atI_coe (j := 0)
@[simp] theorem atI_one {α : Type} {xs : List α} : atI xs 1 = xs[1]? := atI_coe (j := 1)
@[simp] theorem atI_end {α : Type} {xs : List α} : atI xs (-1) = xs.getLast? := by
  rcases List.eq_nil_or_concat xs with rfl | ⟨l, a, rfl⟩
  · rfl
  · rw [List.concat_eq_append, atI_last, List.getLast?_append]; simp
@[simp] theorem atI_ints {ns : List Int} {i : Int} : atI (ns.map D.int) i = (atI ns i).map D.int := by
  unfold atI
  rw [List.length_map]
  cases ixN ns.length i with
  | none => rfl
  | some j => simp
theorem cut_to {ds : List D} {k : Nat} : cut ds none (some (k : Int)) = ds.take k := by
  unfold cut
  rw [HT.sIx_nat, HT.sIx_none]
  simp [List.take_eq_take_iff]
theorem cut_from {ds : List D} {k : Nat} : cut ds (some (k : Int)) none = ds.drop k := by
  unfold cut
  rw [HT.sIx_nat, HT.sIx_none]
  by_cases h : k ≤ ds.length
  · rw [Nat.min_eq_left h, List.take_of_length_le (by simp)]
  · rw [Nat.min_eq_right (by omega), List.drop_of_length_le (Nat.le_refl _), List.drop_of_length_le (by omega)]; simp
@[simp] theorem blsOf_map {α : Type} {g : α → Bool} : ∀ {l : List α}, blsOf (l.map fun i => D.bl (g i)) = some (l.map g)
  | [] => rfl
  | x :: l => by simp [blsOf, blsOf_map (l := l)]
@[simp] theorem intsOf_map : ∀ {l : List Int}, intsOf (l.map D.int) = some l
  | [] => rfl
  | x :: l => by simp [intsOf, intsOf_map (l := l)]
@[simp] theorem noLs_ints : ∀ {l : List Int}, D.noLs (l.map D.int) = true
  | [] => rfl
  | x :: l => by simp [D.noLs, D.noL, noLs_ints (l := l)]
theorem deps_ints : ∀ {l : List Int}, D.deps (l.map D.int) = some 0
  | [] => rfl
  | x :: l => by simp [D.deps, D.dep, deps_ints (l := l)]
@[simp] theorem okEq_ints {l : List Int} : (D.tup (l.map D.int)).okEq = true := by simp [D.okEq, D.dep, deps_ints]
@[simp] theorem okEq_lints {l : List Int} : (D.lst (l.map D.int)).okEq = true := by simp [D.okEq, D.dep, deps_ints]
@[simp] theorem okEq_tnil : (D.tup []).okEq = true := rfl
@[simp] theorem okEq_lnil : (D.lst []).okEq = true := rfl
@[simp] theorem eq_tnil {ds : List D} : D.eq (.tup ds) (.tup []) = ds.isEmpty := by cases ds <;> simp [D.eq, D.eqs]
@[simp] theorem eq_lnil {ds : List D} : D.eq (.lst ds) (.lst []) = ds.isEmpty := by cases ds <;> simp [D.eq, D.eqs]
theorem divOk_nat {j : Nat} (h : 0 < j) (h2 : j < 2 ^ 9000) : divOk (j : Int) = true := by
  unfold divOk
  have : j.log2 < 9000 := (Nat.log2_lt (by omega)).2 h2
  simp; omega
theorem mulOk_of {i j : Int} {a b : Nat} (hi : i.natAbs < 2 ^ a) (hj : j.natAbs < 2 ^ b) (h : a + b ≤ 1000000) (ha : 0 < a) (hb : 0 < b) : mulOk i j = true := by
  unfold mulOk
  have l1 : i.natAbs.log2 < a := by
    by_cases z : i.natAbs = 0
    · rw [z]; simpa using ha
    · exact (Nat.log2_lt z).2 hi
  have l2 : j.natAbs.log2 < b := by
    by_cases z : j.natAbs = 0
    · rw [z]; simpa using hb
    · exact (Nat.log2_lt z).2 hj
  simp; right; omega
theorem mulOk_right {i j : Int} (hj : j.natAbs < 2 ^ 64) : mulOk i j = true := by unfold mulOk; simp; omega
theorem mulOk_left {i j : Int} (hj : i.natAbs < 2 ^ 64) : mulOk i j = true := by unfold mulOk; simp; omega
@[simp] theorem lim_0 : 0 ≤ lim := by decide
@[simp] theorem lim_1 : 1 ≤ lim := by decide
@[simp] theorem lim_2 : 2 ≤ lim := by decide
@[simp] theorem lim_3 : 3 ≤ lim := by decide
@[simp] theorem lim_4 : 4 ≤ lim := by decide
@[simp] theorem lim_5 : 5 ≤ lim := by decide
@[simp] theorem lim_6 : 6 ≤ lim := by decide
@[simp] theorem lim_7 : 7 ≤ lim := by decide
@[simp] theorem lim_8 : 8 ≤ lim := by decide
@[simp] theorem lim_9 : 9 ≤ lim := by decide
@[simp] theorem lim_10 : 10 ≤ lim := by decide
@[simp] theorem lim_11 : 11 ≤ lim := by decide
theorem rg_len2 {a b : Int} : (rg a b).length = (b - a).toNat := by simp [rg]
theorem rg_at {a b : Int} {i : Nat} {d : D} (h : (rg a b)[i]? = some d) : d = .int (a + i) ∧ a + i < b := by
  have l := (List.getElem?_eq_some_iff.1 h).1
  rw [rg_len2] at l
  refine ⟨?_, by omega⟩
  unfold rg at h
  rw [List.getElem?_map, List.getElem?_range l] at h
  exact (Option.some.inj h).symm
theorem rgOk_of {a b : Int} (h1 : -1000000000 ≤ a) (h2 : a ≤ 1000000000) (h3 : -1000000000 ≤ b) (h4 : b ≤ 1000000000) : rgOk a b = true := by
  unfold rgOk
  rw [Bool.and_eq_true]
  exact ⟨Nat.ble_eq_true_of_le (by omega), Nat.ble_eq_true_of_le (by omega)⟩
theorem lim_s {n : Nat} : n < lim ↔ n < 16777216 := Iff.rfl
/-! ### trimmed rows -/
def tidy (l : List Int) : List Int := (l.reverse.dropWhile (· == 0)).reverse
@[simp] theorem tidy_nil : tidy [] = [] := rfl
theorem tidy_zero {l : List Int} : tidy (l ++ [0]) = tidy l := by simp [tidy]
theorem tidy_ne {l : List Int} {x : Int} (h : x ≠ 0) : tidy (l ++ [x]) = l ++ [x] := by simp [tidy, List.dropWhile, h]
theorem tidy_take {l : List Int} {m : Nat} (h : l[m]? = some 0) : tidy (l.take (m + 1)) = tidy (l.take m) := by
  rw [List.take_add_one, h]; exact tidy_zero
theorem tidy_stop {l : List Int} {m : Nat} {x : Int} (h : l[m]? = some x) (n : x ≠ 0) : tidy (l.take (m + 1)) = l.take (m + 1) := by
  rw [List.take_add_one, h]; exact tidy_ne n
theorem tidy_last {l : List Int} : (tidy l).getLast? ≠ some 0 := by
  unfold tidy
  rw [List.getLast?_reverse]
  intro h
  have := List.head?_dropWhile_not (· == 0) l.reverse
  rw [h] at this
  simp at this
theorem tidy_id {l : List Int} (h : l.getLast? ≠ some 0) : tidy l = l := by
  rcases List.eq_nil_or_concat l with rfl | ⟨k, a, rfl⟩
  · rfl
  · rw [List.concat_eq_append] at h ⊢
    exact tidy_ne (by simpa using h)
theorem mem_tidy {l : List Int} {x : Int} (h : x ∈ tidy l) : x ∈ l := by
  unfold tidy at h
  exact List.mem_reverse.1 ((List.dropWhile_sublist _).subset (List.mem_reverse.1 h))
theorem tidy_length {l : List Int} : (tidy l).length ≤ l.length := by
  unfold tidy
  have := (List.dropWhile_sublist (· == 0) (l := l.reverse)).length_le
  simpa using this
/-! ### values -/
def hor (x : Int) : List Int → Int
  | [] => 0
  | p :: l => hor x l * x + p
theorem hor_le {B : Nat} (hB : 0 < B) {x : Int} (hx : x.natAbs ≤ B) : ∀ {l : List Int}, (∀ p ∈ l, p.natAbs ≤ B) → (hor x l).natAbs ≤ (2 * B) ^ l.length
  | [], _ => by simp [hor]
  | p :: l, h => by
    have ih := hor_le hB hx (l := l) fun q hq => h q (List.mem_cons_of_mem _ hq)
    have hp := h p List.mem_cons_self
    have one : 1 ≤ (2 * B) ^ l.length := Nat.pos_of_ne_zero (by simp; omega)
    have e1 : (hor x l * x + p).natAbs ≤ (hor x l).natAbs * x.natAbs + p.natAbs := by
      rw [← Int.natAbs_mul]; exact Int.natAbs_add_le _ _
    have e2 : (hor x l).natAbs * x.natAbs ≤ (2 * B) ^ l.length * B := Nat.mul_le_mul ih hx
    have e3 : B ≤ (2 * B) ^ l.length * B := Nat.le_mul_of_pos_left _ one
    show (hor x l * x + p).natAbs ≤ (2 * B) ^ (l.length + 1)
    rw [Nat.pow_succ, Nat.mul_comm 2 B, ← Nat.mul_assoc, Nat.mul_comm B 2]
    omega
theorem hor_bd {x : Int} {ns : List Int} (h1 : ns.length ≤ 40) (h2 : ∀ p ∈ ns, p.natAbs ≤ 10 ^ 60) (hx : x.natAbs ≤ 10 ^ 60) (i : Nat) : (hor x (ns.drop i)).natAbs < 2 ^ 8041 := by
  refine Nat.lt_of_le_of_lt (hor_le (B := 10 ^ 60) (by decide) hx fun p hp => h2 p (List.mem_of_mem_drop hp)) ?_
  refine Nat.lt_of_le_of_lt (Nat.pow_le_pow_left (show 2 * 10 ^ 60 ≤ 2 ^ 201 by decide) _) ?_
  rw [← Nat.pow_mul]
  refine Nat.pow_lt_pow_right (by decide) ?_
  rw [List.length_drop]; omega
/-! ### common parts -/
def gcds : Nat → List Int → Nat
  | g, [] => g
  | g, p :: l => gcds (Nat.gcd g p.natAbs) l
theorem gcds_gcd : ∀ {g h : Nat} {l : List Int}, gcds (Nat.gcd g h) l = Nat.gcd g (gcds h l)
  | _, _, [] => rfl
  | g, h, p :: l => by
    show gcds (Nat.gcd (Nat.gcd g h) p.natAbs) l = Nat.gcd g (gcds (Nat.gcd h p.natAbs) l)
    rw [Nat.gcd_assoc, gcds_gcd]
theorem gcds_zero {g : Nat} {l : List Int} : gcds g l = Nat.gcd g (gcds 0 l) := by
  rw [← gcds_gcd, Nat.gcd_zero_right]
theorem gcds_le : ∀ {g : Nat} {l : List Int}, 0 < g → 0 < gcds g l ∧ gcds g l ≤ g
  | _, [], h => ⟨h, Nat.le_refl _⟩
  | g, p :: l, h => by
    have a := gcds_le (g := Nat.gcd g p.natAbs) (l := l) (Nat.gcd_pos_of_pos_left _ h)
    exact ⟨a.1, Nat.le_trans a.2 (Nat.gcd_le_left _ h)⟩
theorem gcds0_le {B : Nat} : ∀ {l : List Int}, (∀ x ∈ l, x.natAbs ≤ B) → gcds 0 l ≤ B
  | [], _ => Nat.zero_le _
  | p :: l, h => by
    show gcds (Nat.gcd 0 p.natAbs) l ≤ B
    rw [Nat.gcd_zero_left]
    by_cases z : p.natAbs = 0
    · rw [z]; exact gcds0_le fun x hx => h x (List.mem_cons_of_mem _ hx)
    · exact Nat.le_trans (gcds_le (by omega)).2 (h p List.mem_cons_self)
theorem comp_ii {step : D → C → R (List D)} {c : C} (f : Int → Int) {ns : List Int} (h : ∀ i ∈ ns, step (.int i) c = .ok [.int (f i)] c) : compGo step (ns.map D.int) c = .ok ((ns.map f).map D.int) c := by
  rw [comp_ints (fun i => .int (f i)) h, List.map_map]; rfl
theorem gcds_snoc : ∀ {g : Nat} {l : List Int} {p : Option Int}, gcds g (l ++ p.toList) = match p with | some p => Nat.gcd (gcds g l) p.natAbs | none => gcds g l
  | _, [], none => rfl
  | _, [], some _ => rfl
  | _, q :: l, p => by
    show gcds _ (l ++ p.toList) = _
    rw [gcds_snoc]; rfl
/-! ### what may be compared by _law_like -/
def D.lk : Nat → D → Bool
  | _, .non => true
  | _, .bl _ => true
  | _, .int _ => true
  | k + 1, .tup ds => decide (ds.length < lim) && ds.all (D.lk k)
  | k + 1, .lst ds => decide (ds.length < lim) && ds.all (D.lk k)
  | _, _ => false
theorem zip_same : ∀ {ds : List D}, zipD ds ds = ds.map fun d => .tup [d, d]
  | [] => rfl
  | d :: ds => by
    have := zip_same (ds := ds)
    unfold zipD at this ⊢
    rw [List.zip_cons_cons, List.map_cons, this]; rfl
@[simp] theorem zipD_length {xs ys : List D} : (zipD xs ys).length = min xs.length ys.length := by simp [zipD]
/-- Euclid with a bound on the turns -/
def euc : Nat → Nat → Nat → Nat
  | 0, a, _ => a
  | k + 1, a, b => if b = 0 then a else euc k b (a % b)
theorem euc_gcd : ∀ (k m a b : Nat), b < 2 ^ m → 2 * m + 1 ≤ k → euc k a b = Nat.gcd a b
  | 0, m, a, b, _, h => by omega
  | k + 1, m, a, b, hb, hk => by
    unfold euc
    by_cases z : b = 0
    · rw [if_pos z, z, Nat.gcd_zero_right]
    rw [if_neg z]
    have e1 : Nat.gcd a b = Nat.gcd b (a % b) := by rw [Nat.gcd_comm b, ← Nat.gcd_rec, Nat.gcd_comm]
    rw [e1]
    cases k with
    | zero =>
      obtain rfl : m = 0 := by omega
      simp at hb; omega
    | succ k =>
      unfold euc
      by_cases z2 : a % b = 0
      · rw [if_pos z2, z2, Nat.gcd_zero_right]
      rw [if_neg z2]
      have e2 : Nat.gcd b (a % b) = Nat.gcd (a % b) (b % (a % b)) := by rw [Nat.gcd_comm (a % b), ← Nat.gcd_rec, Nat.gcd_comm]
      rw [e2]
      cases m with
      | zero => simp at hb; omega
      | succ m =>
        refine euc_gcd k m _ _ ?_ (by omega)
        have l1 : a % b < b := Nat.mod_lt _ (by omega)
        have l2 : b % (a % b) < a % b := Nat.mod_lt _ (by omega)
        have l3 : a % b + b % (a % b) ≤ b := by
          have := Nat.div_add_mod b (a % b)
          have q : 1 ≤ b / (a % b) := Nat.div_pos (by omega) (by omega)
          have : a % b ≤ (a % b) * (b / (a % b)) := Nat.le_mul_of_pos_right _ q
          omega
        rw [Nat.pow_succ] at hb
        omega
end Ev

set_option Elab.async false
set_option linter.all false
set_option maxRecDepth 100000
set_option maxHeartbeats 4000000
/-! polynomials at whole numbers: differences, divisibility, the least multiplier -/
namespace Ev
open PySem
/-- the m-th differences vanish -/
def Pd : Nat → (Int → Int) → Prop
  | 0, f => ∀ x, f x = 0
  | m + 1, f => Pd m fun x => f (x + 1) - f x
theorem Pd.congr : ∀ {m : Nat} {f g : Int → Int}, (∀ x, f x = g x) → Pd m f → Pd m g := by
  intro m f g h p
  have : f = g := funext h
  rw [← this]; exact p
theorem Pd.zero : ∀ {m : Nat}, Pd m fun _ => 0
  | 0 => fun _ => rfl
  | m + 1 => by show Pd m fun x => (0 : Int) - 0; exact Pd.congr (fun _ => by simp) (Pd.zero (m := m))
theorem Pd.succ : ∀ {m : Nat} {f : Int → Int}, Pd m f → Pd (m + 1) f
  | 0, f, h => fun x => by show f (x + 1) - f x = 0; rw [h, h]; rfl
  | m + 1, f, h => Pd.succ (m := m) h
theorem Pd.le {m n : Nat} {f : Int → Int} (h : Pd m f) (l : m ≤ n) : Pd n f := by
  obtain ⟨k, rfl⟩ := Nat.exists_eq_add_of_le l
  induction k with
  | zero => exact h
  | succ k ih => exact Pd.succ (ih (by omega))
theorem Pd.add : ∀ {m : Nat} {f g : Int → Int}, Pd m f → Pd m g → Pd m fun x => f x + g x
  | 0, f, g, h, k => fun x => by show f x + g x = 0; rw [h, k]; rfl
  | m + 1, f, g, h, k => by
    have h' : Pd m fun x => f (x + 1) - f x := h
    have k' : Pd m fun x => g (x + 1) - g x := k
    show Pd m fun x => (f (x + 1) + g (x + 1)) - (f x + g x)
    exact Pd.congr (fun x => by omega) (Pd.add (m := m) h' k')
theorem Pd.shift : ∀ {m : Nat} {f : Int → Int}, Pd m f → Pd m fun x => f (x + 1)
  | 0, f, h => fun x => h _
  | m + 1, f, h => Pd.shift (m := m) h
theorem Pd.mulx : ∀ {m : Nat} {f : Int → Int}, Pd m f → Pd (m + 1) fun x => f x * x
  | 0, f, h => fun x => by show f (x + 1) * (x + 1) - f x * x = 0; rw [h, h]; simp
  | m + 1, f, h => by
    have a := Pd.mulx (m := m) (f := fun x => f (x + 1) - f x) h
    have b : Pd (m + 1) fun x => f (x + 1) := Pd.shift h
    show Pd (m + 1) fun x => f (x + 1) * (x + 1) - f x * x
    refine Pd.congr (fun x => ?_) (Pd.add a b)
    show (f (x + 1) - f x) * x + f (x + 1) = f (x + 1) * (x + 1) - f x * x
    rw [Int.sub_mul, Int.mul_add, Int.mul_one]; omega
theorem Pd.smul {t : Int} : ∀ {m : Nat} {f : Int → Int}, Pd m f → Pd m fun x => t * f x
  | 0, f, h => fun x => by show t * f x = 0; rw [h]; simp
  | m + 1, f, h => by
    have h' : Pd m fun x => f (x + 1) - f x := h
    show Pd m fun x => t * f (x + 1) - t * f x
    exact Pd.congr (fun x => by rw [Int.mul_sub]) (Pd.smul (t := t) (m := m) h')
theorem pd_hor : ∀ {l : List Int}, Pd l.length fun x => hor x l
  | [] => fun _ => rfl
  | p :: l => Pd.add (Pd.mulx (pd_hor (l := l))) (Pd.le (m := 1) (fun x => by simp) (by simp))
theorem Pd.dvd {B : Int} : ∀ {m : Nat} {f : Int → Int}, Pd m f → (∀ i : Nat, i < m → B ∣ f i) → ∀ n : Nat, B ∣ f n
  | 0, f, h, _, n => by rw [h]; exact Int.dvd_zero _
  | m + 1, f, h, hd, n => by
    have a := Pd.dvd (B := B) (m := m) (f := fun x => f (x + 1) - f x) h fun i hi => Int.dvd_sub (by have := hd (i + 1) (by omega); simpa using this) (hd i (by omega))
    induction n with
    | zero => exact hd 0 (by omega)
    | succ n ih =>
      have := Int.dvd_add (a n) ih
      rw [show (f ((n : Int) + 1) - f n) + f n = f ((n + 1 : Nat) : Int) by simp] at this
      exact this
theorem hor_mul {t x : Int} : ∀ {l : List Int}, hor x (l.map (t * ·)) = t * hor x l
  | [] => by simp [hor]
  | p :: l => by
    show hor x (l.map (t * ·)) * x + t * p = t * (hor x l * x + p)
    rw [hor_mul, Int.mul_add, Int.mul_assoc]
/-- the first number below n at which the value is not whole -/
def brk (ns : List Int) (B : Nat) (n : Nat) : Option Nat := (List.range n).find? fun x => decide (¬ hor (x : Int) ns % (B : Int) = 0)
theorem brk_none {ns : List Int} {B n : Nat} : brk ns B n = none ↔ ∀ x : Nat, x < n → (B : Int) ∣ hor x ns := by
  unfold brk
  rw [List.find?_eq_none]
  constructor
  · intro h x hx
    have := h x (List.mem_range.2 hx)
    simp at this
    exact Int.dvd_of_emod_eq_zero this
  · intro h x hx
    have := Int.emod_eq_zero_of_dvd (h x (List.mem_range.1 hx))
    simp [this]
theorem brk_more {ns : List Int} {B n k : Nat} (h : ns.length ≤ n) (l : n ≤ k) : brk ns B k = brk ns B n := by
  cases e : brk ns B n with
  | none =>
    rw [brk_none] at e ⊢
    exact fun x _ => Pd.dvd (B := (B : Int)) (pd_hor (l := ns)) (fun i hi => e i (by omega)) x
  | some x =>
    unfold brk at e ⊢
    obtain ⟨j, rfl⟩ := Nat.exists_eq_add_of_le l
    rw [List.range_add, List.find?_append, e]; rfl
/-- the denominator -/
def den (B : Nat) (v : Int) : Nat := B / Nat.gcd B v.natAbs
theorem den_dvd {B t : Nat} {v : Int} (hB : 0 < B) : den B v ∣ t ↔ (B : Int) ∣ t * v := by
  have g0 : 0 < Nat.gcd B v.natAbs := Nat.gcd_pos_of_pos_left _ hB
  rw [Int.ofNat_dvd_left, Int.natAbs_mul, Int.natAbs_natCast]
  unfold den
  have e1 : B = Nat.gcd B v.natAbs * (B / Nat.gcd B v.natAbs) := (Nat.mul_div_cancel' (Nat.gcd_dvd_left _ _)).symm
  have e2 : v.natAbs = Nat.gcd B v.natAbs * (v.natAbs / Nat.gcd B v.natAbs) := (Nat.mul_div_cancel' (Nat.gcd_dvd_right _ _)).symm
  have co : Nat.Coprime (B / Nat.gcd B v.natAbs) (v.natAbs / Nat.gcd B v.natAbs) := Nat.coprime_div_gcd_div_gcd g0
  generalize hg : Nat.gcd B v.natAbs = g at *
  generalize B / g = b at *
  generalize v.natAbs / g = w at *
  rw [e1, e2, show t * (g * w) = g * (t * w) by rw [← Nat.mul_assoc, Nat.mul_comm t g, Nat.mul_assoc]]
  rw [Nat.mul_dvd_mul_iff_left g0]
  constructor
  · exact fun h => Nat.dvd_trans h (Nat.dvd_mul_right _ _)
  · exact fun h => co.dvd_of_dvd_mul_right h
theorem den_dvd_self {B : Nat} {v : Int} : den B v ∣ B := Nat.div_dvd_of_dvd (Nat.gcd_dvd_left _ _)
/-- the multiplier -/
def mu (ns : List Int) (B : Nat) : Nat → Nat
  | 0 => 1
  | k + 1 => Nat.lcm (mu ns B k) (den B (hor (k : Nat) ns))
theorem mu_dvd {ns : List Int} {B t : Nat} : ∀ {k : Nat}, mu ns B k ∣ t ↔ ∀ x : Nat, x < k → den B (hor x ns) ∣ t
  | 0 => by simp [mu]
  | k + 1 => by
    unfold mu
    rw [Nat.lcm_dvd_iff, mu_dvd (k := k)]
    constructor
    · intro h x hx
      rcases Nat.lt_or_eq_of_le (Nat.le_of_lt_succ hx) with l | rfl
      · exact h.1 x l
      · exact h.2
    · exact fun h => ⟨fun x hx => h x (by omega), h k (by omega)⟩
theorem mu_self {ns : List Int} {B k : Nat} : mu ns B k ∣ B := mu_dvd.2 fun _ _ => den_dvd_self
theorem mu_whole {ns : List Int} {B t : Nat} (hB : 0 < B) : mu ns B ns.length ∣ t ↔ ∀ x : Nat, (B : Int) ∣ t * hor x ns := by
  rw [mu_dvd]
  constructor
  · intro h
    exact Pd.dvd (f := fun x => t * hor x ns) (Pd.smul pd_hor) fun i hi => (den_dvd hB).1 (h i hi)
  · exact fun h x _ => (den_dvd hB).2 (h x)
theorem brk_mul {ns : List Int} {B t n : Nat} (hB : 0 < B) (hn : ns.length ≤ n) : brk (ns.map ((t : Int) * ·)) B n = none ↔ mu ns B ns.length ∣ t := by
  rw [brk_none, mu_dvd]
  constructor
  · intro h x hx
    have := h x (by omega)
    rw [hor_mul] at this
    exact (den_dvd hB).2 this
  · intro h x hx
    rw [hor_mul]
    exact (mu_whole hB).1 (mu_dvd.2 h) x
theorem brk_mul1 {ns : List Int} {B n : Nat} (hB : 0 < B) (hn : ns.length ≤ n) : brk ns B n = none ↔ mu ns B ns.length = 1 := by
  have := brk_mul (ns := ns) (t := 1) hB hn
  rw [Nat.dvd_one] at this
  rw [← this]
  simp
/-! lists -/
theorem zip_ints {xs ys : List Int} : zipD (xs.map D.int) (ys.map D.int) = (xs.zip ys).map fun p => .tup [.int p.1, .int p.2] := by
  unfold zipD
  rw [List.zip_map, List.map_map]; rfl
theorem comp_pairs {step : D → C → R (List D)} {c : C} (f : Int → Int → Int) : ∀ {l : List (Int × Int)}, (∀ p ∈ l, step (.tup [.int p.1, .int p.2]) c = .ok [.int (f p.1 p.2)] c) → compGo step (l.map fun p => .tup [.int p.1, .int p.2]) c = .ok ((l.map fun p => f p.1 p.2).map D.int) c
  | [], _ => by simp [compGo]
  | p :: l, h => by
    simp only [List.map_cons, compGo, h p List.mem_cons_self, bind_ok, comp_pairs f (l := l) fun q hq => h q (List.mem_cons_of_mem _ hq), List.cons_append, List.nil_append]
theorem rep_ints {k : Nat} {z : Int} : (List.replicate k [D.int z]).flatten = (List.replicate k z).map D.int := by
  induction k with
  | zero => rfl
  | succ k ih => simp only [List.replicate_succ, List.flatten_cons, ih, List.map_cons, List.cons_append, List.nil_append]
end Ev
namespace Ev
open PySem
def brkD : Option Nat → D
  | some x => .int (x : Int)
  | none => .non
theorem brk_first {ns : List Int} {B i n : Nat} (h : brk ns B i = none) (hi : i < n) (hx : ¬ hor (i : Int) ns % (B : Int) = 0) : brk ns B n = some i := by
  obtain ⟨j, rfl⟩ := Nat.exists_eq_add_of_le (show i + 1 ≤ n from hi)
  unfold brk at h ⊢
  rw [List.range_add, List.find?_append, List.range_succ, List.find?_append, h]
  simp [hx]
theorem brk_succ {ns : List Int} {B i : Nat} (h : brk ns B i = none) (hx : hor (i : Int) ns % (B : Int) = 0) : brk ns B (i + 1) = none := by
  unfold brk at h ⊢
  rw [List.range_succ, List.find?_append, h]
  simp [hx]
theorem lcm_eq {m n : Nat} : m / Nat.gcd m n * n = Nat.lcm m n := by
  unfold Nat.lcm
  exact Nat.div_mul_right_comm (Nat.gcd_dvd_left _ _) _
theorem comp_filter {step : D → C → R (List D)} {c : C} {n : Nat} (p : Nat → Bool) (h : ∀ i : Nat, i < n → step (.int i) c = .ok (if p i then [.int i] else []) c) : compGo step (rg 0 n) c = .ok (((List.range n).filter p).map fun i : Nat => .int (i : Int)) c := by
  have e : rg 0 n = (List.range n).map fun i : Nat => D.int (i : Int) := by
    unfold rg
    simp
  have gen : ∀ l : List Nat, (∀ i ∈ l, i < n) → compGo step (l.map fun i : Nat => D.int (i : Int)) c = .ok ((l.filter p).map fun i : Nat => .int (i : Int)) c := by
    intro l
    induction l with
    | nil => intro _; simp [compGo]
    | cons x l ih =>
      intro hl
      simp only [List.map_cons, compGo, h x (hl x List.mem_cons_self), bind_ok, ih fun i hi => hl i (List.mem_cons_of_mem _ hi)]
      by_cases hp : p x = true
      · simp [hp]
      · simp [hp]
  rw [e]
  exact gen _ fun i hi => List.mem_range.1 hi
theorem comp_filterI {step : D → C → R (List D)} {c : C} {n : Nat} {m : Int} (hm : m = n) (p : Nat → Bool) (h : ∀ i : Nat, i < n → step (.int i) c = .ok (if p i then [.int i] else []) c) : compGo step (rg 0 m) c = .ok (((List.range n).filter p).map fun i : Nat => .int (i : Int)) c := by rw [hm]; exact comp_filter p h
theorem brk_head {ns : List Int} {B n : Nat} : ((List.range n).filter fun x : Nat => decide (¬ hor (x : Int) ns % (B : Int) = 0)).head? = brk ns B n := by
  unfold brk
  rw [List.head?_filter]
theorem deps_nats : ∀ {l : List Nat}, D.deps (l.map fun i : Nat => D.int (i : Int)) = some 0
  | [] => rfl
  | x :: l => by simp [D.deps, D.dep, deps_nats (l := l)]
theorem okEq_nats {x : Int} {l : List Nat} : (D.lst (.int x :: l.map fun i : Nat => D.int (i : Int))).okEq = true := by simp [D.okEq, D.dep, D.deps, deps_nats]
theorem noLs_nats : ∀ {l : List Nat}, D.noLs (l.map fun i : Nat => D.int (i : Int)) = true
  | [] => rfl
  | x :: l => by simp [D.noLs, D.noL, noLs_nats (l := l)]
end Ev

set_option maxRecDepth 100000
set_option maxHeartbeats 4000000
namespace K80
open PySem L2 Ev
/-! ### the text -/
def topS (i : Nat) : Stmt := PySem.Challenge.pw_restsmapped_k80_whole_valued_polynomials.main.body.getD i (.Pass ⟨0, 0, 0, 0⟩)
def fnN : List Str := ["is_whole", "is_tuple_of", "is_poly", "common_in", "is_fractional", "need_fractional", "value_in", "lowest_in", "broken_in", "is_whole_valued", "first_broken", "multiplier", "_law_cup", "_law_roll", "_law_sort", "_law_like", "_law_value", "_law_tidied", "_law_parts", "_law_binomials", "_law_broken", "_law_fixed_right", "_law_right", "law"]
def glN : List Str := ["PARTS_polys", "GREAT", "PARTS_fractions"]
def glV : List D := [.int 240, .int 1000000000000000000000000000000000000000000000000000000000000, .int 40]
/-! ### the defs -/
-- 0 is_whole(value, low, high) slots 0:value 1:low 2:high
def b_is_whole : Ss := .cons (.ret (.and (.isi (.v 0) .int) (.and (.not (.isi (.v 0) .bool)) (.chain .le .le (.v 1) (.v 0) (.v 2))))) .nil
def f_is_whole : Fd := ⟨3, 3, b_is_whole⟩
def n_is_whole : List Str := ["value", "low", "high"]
def s_is_whole : Stmt := topS 4
-- 1 is_tuple_of(value, low, high) slots 0:value 1:low 2:high
def b_is_tuple_of : Ss := .cons (.ret (.and (.isi (.v 0) .tuple) (.chain .le .le (.v 1) (.bi .len (.cons (.v 0) .nil)) (.v 2)))) .nil
def f_is_tuple_of : Fd := ⟨3, 3, b_is_tuple_of⟩
def n_is_tuple_of : List Str := ["value", "low", "high"]
def s_is_tuple_of : Stmt := topS 5
-- 2 is_poly(value) slots 0:value 1:part
def b_is_poly : Ss := .cons (.ife (.or (.not (.call 1 (.cons (.v 0) (.cons (.c (.int 0)) (.cons (.gl 0) .nil))))) (.not (.bi .all (.cons (.comp [1] (.of (.v 0)) (.v 1) .non (.call 0 (.cons (.v 1) (.cons (.neg (.gl 1)) (.cons (.gl 1) .nil))))) .nil)))) (.cons (.ret (.c (.bl false))) .nil) (.nil)) (.cons (.ret (.or (.cmp .eq (.v 0) (.tup (.nil))) (.cmp .ne (.ix (.v 0) (.neg (.c (.int 1)))) (.c (.int 0))))) .nil)
def f_is_poly : Fd := ⟨1, 2, b_is_poly⟩
def n_is_poly : List Str := ["value", "part"]
def s_is_poly : Stmt := topS 9
-- 3 common_in(one, other) slots 0:one 1:other
def tt_common_in_0 : E := .cmp .ne (.v 1) (.c (.int 0))
def bb_common_in_0 : Ss := .cons (.par2 0 1 (.v 1) (.bin .mod (.bi .int (.cons (.v 0) .nil)) (.v 1))) .nil
def b_common_in : Ss := .cons (.whl tt_common_in_0 bb_common_in_0) (.cons (.ret (.v 0)) .nil)
def f_common_in : Fd := ⟨2, 2, b_common_in⟩
def n_common_in : List Str := ["one", "other"]
def s_common_in : Stmt := topS 11
-- 4 is_fractional(value) slots 0:value
def b_is_fractional : Ss := .cons (.ife (.or (.not (.call 1 (.cons (.v 0) (.cons (.c (.int 2)) (.cons (.c (.int 2)) .nil))))) (.or (.not (.call 2 (.cons (.ix (.v 0) (.c (.int 0))) .nil))) (.cmp .gt (.bi .len (.cons (.ix (.v 0) (.c (.int 0))) .nil)) (.gl 2)))) (.cons (.ret (.c (.bl false))) .nil) (.nil)) (.cons (.ret (.call 0 (.cons (.ix (.v 0) (.c (.int 1))) (.cons (.c (.int 1)) (.cons (.gl 1) .nil))))) .nil)
def f_is_fractional : Fd := ⟨1, 1, b_is_fractional⟩
def n_is_fractional : List Str := ["value"]
def s_is_fractional : Stmt := topS 14
-- 5 need_fractional(q) slots 0:q
def b_need_fractional : Ss := .cons (.ife (.not (.call 4 (.cons (.v 0) .nil))) (.cons (.rse) .nil) (.nil)) .nil
def f_need_fractional : Fd := ⟨1, 1, b_need_fractional⟩
def n_need_fractional : List Str := ["q"]
def s_need_fractional : Stmt := topS 15
-- 6 value_in(parts, number) slots 0:parts 1:number 2:found 3:part
def bb_value_in_0 : Ss := .cons (.set 2 (.bin .add (.bin .mul (.v 2) (.v 1)) (.v 3))) .nil
def b_value_in : Ss := .cons (.set 2 (.c (.int 0))) (.cons (.for_ (.v 3) (.of (.rv (.v 0))) bb_value_in_0) (.cons (.ret (.v 2)) .nil))
def f_value_in : Fd := ⟨2, 4, b_value_in⟩
def n_value_in : List Str := ["parts", "number", "found", "part"]
def s_value_in : Stmt := topS 16
-- 7 lowest_in(above, below) slots 0:above 1:below 2:part
def b_lowest_in : Ss := .cons (.set 2 (.call 3 (.cons (.v 1) (.cons (.bi .abs (.cons (.v 0) .nil)) .nil)))) (.cons (.ret (.tup (.cons (.bin .fdiv (.v 0) (.v 2)) (.cons (.bin .fdiv (.v 1) (.v 2)) .nil)))) .nil)
def f_lowest_in : Fd := ⟨2, 3, b_lowest_in⟩
def n_lowest_in : List Str := ["above", "below", "part"]
def s_lowest_in : Stmt := topS 17
-- 8 broken_in(q) slots 0:q 1:x
def bb_broken_in_0 : Ss := .cons (.ife (.cmp .ne (.bin .mod (.bi .int (.cons (.call 6 (.cons (.ix (.v 0) (.c (.int 0))) (.cons (.v 1) .nil))) .nil)) (.ix (.v 0) (.c (.int 1)))) (.c (.int 0))) (.cons (.ret (.v 1)) .nil) (.nil)) .nil
def b_broken_in : Ss := .cons (.for_ (.v 1) (.r1 (.bi .max2 (.cons (.c (.int 1)) (.cons (.bi .len (.cons (.ix (.v 0) (.c (.int 0))) .nil)) .nil)))) bb_broken_in_0) (.cons (.ret (.c .non)) .nil)
def f_broken_in : Fd := ⟨1, 2, b_broken_in⟩
def n_broken_in : List Str := ["q", "x"]
def s_broken_in : Stmt := topS 19
-- 9 is_whole_valued(q) slots 0:q
def b_is_whole_valued : Ss := .cons (.expr (.call 5 (.cons (.v 0) .nil))) (.cons (.ret (.cmp .isN (.call 8 (.cons (.v 0) .nil)) (.c .non))) .nil)
def f_is_whole_valued : Fd := ⟨1, 1, b_is_whole_valued⟩
def n_is_whole_valued : List Str := ["q"]
def s_is_whole_valued : Stmt := topS 20
-- 10 first_broken(q) slots 0:q
def b_first_broken : Ss := .cons (.expr (.call 5 (.cons (.v 0) .nil))) (.cons (.ret (.call 8 (.cons (.v 0) .nil))) .nil)
def f_first_broken : Fd := ⟨1, 1, b_first_broken⟩
def n_first_broken : List Str := ["q"]
def s_first_broken : Stmt := topS 21
-- 11 multiplier(q) slots 0:q 1:found 2:x 3:below
def bb_multiplier_0 : Ss := .cons (.set 3 (.ix (.call 7 (.cons (.call 6 (.cons (.ix (.v 0) (.c (.int 0))) (.cons (.v 2) .nil))) (.cons (.ix (.v 0) (.c (.int 1))) .nil))) (.c (.int 1)))) (.cons (.set 1 (.bin .mul (.bin .fdiv (.v 1) (.call 3 (.cons (.v 1) (.cons (.v 3) .nil)))) (.v 3))) .nil)
def b_multiplier : Ss := .cons (.expr (.call 5 (.cons (.v 0) .nil))) (.cons (.set 1 (.c (.int 1))) (.cons (.for_ (.v 2) (.r1 (.bi .len (.cons (.ix (.v 0) (.c (.int 0))) .nil))) bb_multiplier_0) (.cons (.ret (.v 1)) .nil)))
def f_multiplier : Fd := ⟨1, 4, b_multiplier⟩
def n_multiplier : List Str := ["q", "found", "x", "below"]
def s_multiplier : Stmt := topS 22
-- 12 _law_cup(script) slots 0:script 1:cell
def b_law_cup : Ss := .cons (.set 1 (.bi .abs (.cons (.ix (.bin .add (.bi .list (.cons (.v 0) .nil)) (.lst (.cons (.c (.int 0)) .nil))) (.c (.int 0))) .nil))) (.cons (.retc (.ite (.cmp .ge (.v 1) (.bin .pow (.c (.int 10)) (.c (.int 18)))) (.bin .fdiv (.v 1) (.c (.int 471))) (.c (.int 0))) (.bin .add (.bin .mod (.bi .int (.cons (.bin .add (.bin .mul (.v 1) (.c (.int 673))) (.c (.int 6941))) .nil)) (.c (.int 1994060489))) (.c (.int 477)))) .nil)
def f_law_cup : Fd := ⟨1, 2, b_law_cup⟩
def n_law_cup : List Str := ["script", "cell"]
def s_law_cup : Stmt := topS 24
-- 13 _law_roll(cup, many) slots 0:cup 1:many 2:found 3:deep
def b_law_roll : Ss := .cons (.ife (.cmp .gt (.ixc (.v 0) 0) (.c (.int 0))) (.cons (.set 2 (.bin .mod (.bi .int (.cons (.ixc (.v 0) 0) .nil)) (.v 1))) (.cons (.stc 0 0 (.bin .fdiv (.ixc (.v 0) 0) (.v 1))) (.cons (.ret (.v 2)) .nil))) (.nil)) (.cons (.stc 0 1 (.bin .mod (.bi .int (.cons (.bin .add (.bin .mul (.ixc (.v 0) 1) (.c (.int 30881))) (.c (.int 8929))) .nil)) (.c (.int 2147483549)))) (.cons (.set 3 (.bin .mod (.bi .int (.cons (.bin .mul (.ixc (.v 0) 1) (.bin .add (.ixc (.v 0) 1) (.c (.int 701)))) .nil)) (.c (.int 2147483543)))) (.cons (.ret (.bin .mod (.bi .int (.cons (.bin .fdiv (.v 3) (.c (.int 1171))) .nil)) (.v 1))) .nil)))
def f_law_roll : Fd := ⟨2, 4, b_law_roll⟩
def n_law_roll : List Str := ["cup", "many", "found", "deep"]
def s_law_roll : Stmt := topS 25
-- 14 _law_sort(value) slots 0:value
def b_law_sort : Ss := .cons (.ife (.isi (.v 0) .bool) (.cons (.ret (.c (.int 1))) .nil) (.nil)) (.cons (.ife (.isi (.v 0) .int) (.cons (.ret (.c (.int 2))) .nil) (.nil)) (.cons (.ife (.isi (.v 0) .tuple) (.cons (.ret (.c (.int 3))) .nil) (.nil)) (.cons (.ret (.ite (.isi (.v 0) .list) (.c (.int 4)) (.c (.int 0)))) .nil)))
def f_law_sort : Fd := ⟨1, 1, b_law_sort⟩
def n_law_sort : List Str := ["value"]
def s_law_sort : Stmt := topS 26
-- 15 _law_like(one, other) slots 0:one 1:other 2:left 3:right
def b_law_like : Ss := .cons (.ife (.cmp .ne (.call 14 (.cons (.v 0) .nil)) (.call 14 (.cons (.v 1) .nil))) (.cons (.ret (.c (.bl false))) .nil) (.nil)) (.cons (.ife (.cmp .notin (.call 14 (.cons (.v 0) .nil)) (.tup (.cons (.c (.int 3)) (.cons (.c (.int 4)) .nil)))) (.cons (.ret (.cmp .eq (.v 0) (.v 1))) .nil) (.nil)) (.cons (.ret (.and (.cmp .eq (.bi .len (.cons (.v 0) .nil)) (.bi .len (.cons (.v 1) .nil))) (.cmp .eq (.comp [2, 3] (.zip (.v 0) (.v 1)) (.tup [2, 3]) (.som (.not (.call 15 (.cons (.v 2) (.cons (.v 3) .nil))))) (.c (.int 1))) (.lst (.nil))))) .nil))
def f_law_like : Fd := ⟨2, 4, b_law_like⟩
def n_law_like : List Str := ["one", "other", "left", "right"]
def s_law_like : Stmt := topS 27
-- 16 _law_value(f, x) slots 0:f 1:x 2:found 3:part
def bb_law_value_0 : Ss := .cons (.set 2 (.bin .add (.bin .mul (.v 2) (.v 1)) (.v 3))) .nil
def b_law_value : Ss := .cons (.set 2 (.c (.int 0))) (.cons (.for_ (.v 3) (.of (.rv (.v 0))) bb_law_value_0) (.cons (.ret (.v 2)) .nil))
def f_law_value : Fd := ⟨2, 4, b_law_value⟩
def n_law_value : List Str := ["f", "x", "found", "part"]
def s_law_value : Stmt := topS 29
-- 17 _law_tidied(parts) slots 0:parts 1:many 2:turn
def bb_law_tidied_0 : Ss := .cons (.ife (.and (.cmp .eq (.ix (.v 0) (.bin .sub (.v 1) (.c (.int 1)))) (.c (.int 0))) (.cmp .eq (.v 1) (.bin .sub (.bi .len (.cons (.v 0) .nil)) (.v 2)))) (.cons (.set 1 (.bin .sub (.v 1) (.c (.int 1)))) .nil) (.nil)) .nil
def b_law_tidied : Ss := .cons (.set 1 (.bi .len (.cons (.v 0) .nil))) (.cons (.for_ (.v 2) (.r1 (.bi .len (.cons (.v 0) .nil))) bb_law_tidied_0) (.cons (.ret (.bi .tuple (.cons (.sl (.v 0) .non (.som (.v 1))) .nil))) .nil))
def f_law_tidied : Fd := ⟨1, 3, b_law_tidied⟩
def n_law_tidied : List Str := ["parts", "many", "turn"]
def s_law_tidied : Stmt := topS 30
-- 18 _law_parts(cup, most) slots 0:cup 1:most 2:parts 3:turn 4:part
def bb_law_parts_0 : Ss := .cons (.set 4 (.bin .sub (.call 13 (.cons (.v 0) (.cons (.c (.int 41)) .nil))) (.c (.int 20)))) (.cons (.app 2 (.ite (.cmp .eq (.call 13 (.cons (.v 0) (.cons (.c (.int 4)) .nil))) (.c (.int 0))) (.bin .mul (.v 4) (.bin .add (.c (.int 1)) (.call 13 (.cons (.v 0) (.cons (.bin .pow (.c (.int 10)) (.c (.int 9))) .nil))))) (.v 4))) .nil)
def b_law_parts : Ss := .cons (.set 2 (.lst (.nil))) (.cons (.for_ (.v 3) (.r1 (.call 13 (.cons (.v 0) (.cons (.bin .add (.v 1) (.c (.int 1))) .nil)))) bb_law_parts_0) (.cons (.ret (.call 17 (.cons (.v 2) .nil))) .nil))
def f_law_parts : Fd := ⟨2, 5, b_law_parts⟩
def n_law_parts : List Str := ["cup", "most", "parts", "turn", "part"]
def s_law_parts : Stmt := topS 31
-- 19 _law_binomials(cup) slots 0:cup 1:many 2:below 3:at 4:found 5:fall 6:often 7:k 8:part 9:left 10:right
def bb_law_binomials_0 : Ss := .cons (.set 8 (.bin .mul (.bin .sub (.call 13 (.cons (.v 0) (.cons (.c (.int 9)) .nil))) (.c (.int 4))) (.v 6))) (.cons (.set 4 (.comp [9, 10] (.zip (.v 4) (.bin .add (.v 5) (.bin .mul (.lst (.cons (.c (.int 0)) .nil)) (.bin .sub (.v 1) (.bi .len (.cons (.v 5) .nil)))))) (.tup [9, 10]) .non (.bin .add (.v 9) (.bin .mul (.v 8) (.v 10))))) (.cons (.par2 5 6 (.comp [9, 10] (.zip (.bin .add (.lst (.cons (.c (.int 0)) .nil)) (.v 5)) (.bin .add (.v 5) (.lst (.cons (.c (.int 0)) .nil)))) (.tup [9, 10]) .non (.bin .sub (.v 9) (.bin .mul (.v 7) (.v 10)))) (.bin .fdiv (.v 6) (.bin .add (.v 7) (.c (.int 1))))) .nil))
def bb_law_binomials_1 : Ss := .cons (.set 2 (.bin .mul (.v 2) (.v 3))) .nil
def b_law_binomials : Ss := .cons (.par2 1 2 (.bin .add (.c (.int 1)) (.call 13 (.cons (.v 0) (.cons (.c (.int 6)) .nil)))) (.c (.int 1))) (.cons (.for_ (.v 3) (.r2 (.c (.int 1)) (.v 1)) bb_law_binomials_1) (.cons (.par3 4 5 6 (.bin .mul (.lst (.cons (.c (.int 0)) .nil)) (.v 1)) (.lst (.cons (.c (.int 1)) .nil)) (.v 2)) (.cons (.for_ (.v 7) (.r1 (.v 1)) bb_law_binomials_0) (.cons (.ret (.tup (.cons (.call 17 (.cons (.v 4) .nil)) (.cons (.v 2) .nil)))) .nil))))
def f_law_binomials : Fd := ⟨1, 11, b_law_binomials⟩
def n_law_binomials : List Str := ["cup", "many", "below", "at", "found", "fall", "often", "k", "part", "left", "right"]
def s_law_binomials : Stmt := topS 32
-- 20 _law_broken(parts, below) slots 0:parts 1:below 2:found 3:x
def b_law_broken : Ss := .cons (.set 2 (.comp [3] (.r1 (.c (.int 61))) (.v 3) (.som (.cmp .ne (.bin .mod (.bi .int (.cons (.call 16 (.cons (.v 0) (.cons (.v 3) .nil))) .nil)) (.v 1)) (.c (.int 0)))) (.v 3))) (.cons (.ret (.ite (.cmp .ne (.v 2) (.lst (.nil))) (.ix (.v 2) (.c (.int 0))) (.c .non))) .nil)
def f_law_broken : Fd := ⟨2, 4, b_law_broken⟩
def n_law_broken : List Str := ["parts", "below", "found", "x"]
def s_law_broken : Stmt := topS 33
-- 21 _law_fixed_right() slots 0:t 1:h 2:p 3:told
def b_law_fixed_right : Ss := .cons (.setT [0, 1, 2] (.tup (.cons (.tup (.cons (.tup (.cons (.c (.int 0)) (.cons (.neg (.c (.int 1))) (.cons (.c (.int 1)) .nil)))) (.cons (.c (.int 2)) .nil))) (.cons (.tup (.cons (.tup (.cons (.c (.int 0)) (.cons (.c (.int 1)) .nil))) (.cons (.c (.int 2)) .nil))) (.cons (.tup (.cons (.tup (.cons (.c (.int 0)) (.cons (.c (.int 2)) (.cons (.c (.int 3)) (.cons (.c (.int 1)) .nil))))) (.cons (.c (.int 6)) .nil))) .nil))))) (.cons (.set 3 (.lst (.cons (.call 9 (.cons (.v 0) .nil)) (.cons (.call 9 (.cons (.v 1) .nil)) (.cons (.call 9 (.cons (.v 2) .nil)) (.cons (.call 9 (.cons (.tup (.cons (.tup (.cons (.c (.int 0)) (.cons (.c (.int 1)) (.cons (.c (.int 0)) (.cons (.c (.int 2)) .nil))))) (.cons (.c (.int 3)) .nil))) .nil)) (.cons (.call 9 (.cons (.tup (.cons (.tup (.cons (.c (.int 0)) (.cons (.c (.int 1)) (.cons (.c (.int 1)) .nil)))) (.cons (.c (.int 6)) .nil))) .nil)) .nil))))))) (.cons (.ife (.not (.call 15 (.cons (.v 3) (.cons (.lst (.cons (.c (.bl true)) (.cons (.c (.bl false)) (.cons (.c (.bl true)) (.cons (.c (.bl true)) (.cons (.c (.bl false)) .nil)))))) .nil)))) (.cons (.ret (.c (.bl false))) .nil) (.nil)) (.cons (.set 3 (.lst (.cons (.call 10 (.cons (.v 0) .nil)) (.cons (.call 10 (.cons (.v 1) .nil)) (.cons (.call 10 (.cons (.tup (.cons (.tup (.cons (.c (.int 0)) (.cons (.neg (.c (.int 1))) (.cons (.c (.int 1)) .nil)))) (.cons (.c (.int 4)) .nil))) .nil)) (.cons (.call 10 (.cons (.tup (.cons (.tup (.cons (.c (.int 1)) .nil)) (.cons (.c (.int 2)) .nil))) .nil)) (.cons (.call 10 (.cons (.tup (.cons (.tup (.nil)) (.cons (.c (.int 9)) .nil))) .nil)) .nil))))))) (.cons (.ife (.not (.call 15 (.cons (.v 3) (.cons (.lst (.cons (.c .non) (.cons (.c (.int 1)) (.cons (.c (.int 2)) (.cons (.c (.int 0)) (.cons (.c .non) .nil)))))) .nil)))) (.cons (.ret (.c (.bl false))) .nil) (.nil)) (.cons (.set 3 (.lst (.cons (.call 11 (.cons (.v 1) .nil)) (.cons (.call 11 (.cons (.tup (.cons (.tup (.cons (.c (.int 0)) (.cons (.c (.int 1)) (.cons (.c (.int 1)) .nil)))) (.cons (.c (.int 6)) .nil))) .nil)) (.cons (.call 11 (.cons (.tup (.cons (.tup (.cons (.c (.int 0)) (.cons (.neg (.c (.int 1))) (.cons (.c (.int 1)) .nil)))) (.cons (.c (.int 4)) .nil))) .nil)) (.cons (.call 11 (.cons (.v 2) .nil)) (.cons (.call 11 (.cons (.tup (.cons (.tup (.nil)) (.cons (.c (.int 9)) .nil))) .nil)) .nil))))))) (.cons (.app 3 (.call 11 (.cons (.tup (.cons (.tup (.cons (.c (.int 1)) .nil)) (.cons (.bin .pow (.c (.int 10)) (.c (.int 60))) .nil))) .nil))) (.cons (.set 3 (.bin .add (.v 3) (.lst (.cons (.call 11 (.cons (.tup (.cons (.tup (.cons (.c (.int 0)) (.cons (.neg (.c (.int 1))) (.cons (.c (.int 0)) (.cons (.c (.int 0)) (.cons (.c (.int 0)) (.cons (.c (.int 1)) .nil))))))) (.cons (.c (.int 60)) .nil))) .nil)) (.cons (.call 11 (.cons (.tup (.cons (.tup (.cons (.c (.int 2)) (.cons (.c (.int 4)) .nil))) (.cons (.c (.int 6)) .nil))) .nil)) (.cons (.call 11 (.cons (.tup (.cons (.tup (.cons (.c (.int 0)) (.cons (.c (.int 2)) (.cons (.c (.int 1)) .nil)))) (.cons (.c (.int 6)) .nil))) .nil)) .nil)))))) (.cons (.ret (.call 15 (.cons (.v 3) (.cons (.lst (.cons (.c (.int 2)) (.cons (.c (.int 3)) (.cons (.c (.int 2)) (.cons (.c (.int 1)) (.cons (.c (.int 1)) (.cons (.bin .pow (.c (.int 10)) (.c (.int 60))) (.cons (.c (.int 2)) (.cons (.c (.int 3)) (.cons (.c (.int 6)) .nil)))))))))) .nil)))) .nil))))))))
def f_law_fixed_right : Fd := ⟨0, 4, b_law_fixed_right⟩
def n_law_fixed_right : List Str := ["t", "h", "p", "told"]
def s_law_fixed_right : Stmt := topS 34
-- 22 _law_right(cup) slots 0:cup 1:parts 2:below 3:broken 4:told 5:less 6:part
def bb_law_right_0 : Ss := .cons (.ife (.and (.cmp .eq (.bin .mod (.bi .int (.cons (.v 4) .nil)) (.v 5)) (.c (.int 0))) (.cmp .isN (.call 20 (.cons (.comp [6] (.of (.v 1)) (.v 6) .non (.bin .mul (.bin .fdiv (.v 4) (.v 5)) (.v 6))) (.cons (.v 2) .nil))) (.c .non))) (.cons (.ret (.c (.bl false))) .nil) (.nil)) .nil
def b_law_right : Ss := .cons (.setT [1, 2] (.ite (.cmp .gt (.call 13 (.cons (.v 0) (.cons (.c (.int 3)) .nil))) (.c (.int 0))) (.call 19 (.cons (.v 0) .nil)) (.tup (.cons (.call 18 (.cons (.v 0) (.cons (.c (.int 6)) .nil))) (.cons (.bin .add (.c (.int 1)) (.call 13 (.cons (.v 0) (.cons (.c (.int 30)) .nil)))) .nil))))) (.cons (.set 2 (.bin .mul (.v 2) (.bin .add (.c (.int 1)) (.bin .mul (.call 13 (.cons (.v 0) (.cons (.c (.int 4)) .nil))) (.call 13 (.cons (.v 0) (.cons (.c (.int 2)) .nil))))))) (.cons (.set 3 (.call 20 (.cons (.v 1) (.cons (.v 2) .nil)))) (.cons (.ife (.not (.call 15 (.cons (.lst (.cons (.call 9 (.cons (.tup (.cons (.v 1) (.cons (.v 2) .nil))) .nil)) (.cons (.call 10 (.cons (.tup (.cons (.v 1) (.cons (.v 2) .nil))) .nil)) .nil))) (.cons (.lst (.cons (.cmp .isN (.v 3) (.c .non)) (.cons (.v 3) .nil))) .nil)))) (.cons (.ret (.c (.bl false))) .nil) (.nil)) (.cons (.set 4 (.call 11 (.cons (.tup (.cons (.v 1) (.cons (.v 2) .nil))) .nil))) (.cons (.ife (.or (.cmp .ne (.call 14 (.cons (.v 4) .nil)) (.c (.int 2))) (.or (.cmp .lt (.v 4) (.c (.int 1))) (.or (.cmp .ne (.bin .mod (.bi .int (.cons (.v 2) .nil)) (.v 4)) (.c (.int 0))) (.cmp .ne (.cmp .isN (.v 3) (.c .non)) (.cmp .eq (.v 4) (.c (.int 1))))))) (.cons (.ret (.c (.bl false))) .nil) (.nil)) (.cons (.ife (.cmp .notN (.call 20 (.cons (.comp [6] (.of (.v 1)) (.v 6) .non (.bin .mul (.v 4) (.v 6))) (.cons (.v 2) .nil))) (.c .non)) (.cons (.ret (.c (.bl false))) .nil) (.nil)) (.cons (.for_ (.v 5) (.r2 (.c (.int 2)) (.bin .add (.v 4) (.c (.int 1)))) bb_law_right_0) (.cons (.ret (.c (.bl true))) .nil))))))))
def f_law_right : Fd := ⟨1, 7, b_law_right⟩
def n_law_right : List Str := ["cup", "parts", "below", "broken", "told", "less", "part"]
def s_law_right : Stmt := topS 35
-- 23 law(script) slots 0:script 1:cup 2:turn
def bb_law_0 : Ss := .cons (.ife (.not (.call 22 (.cons (.v 1) .nil))) (.cons (.ret (.c (.bl false))) .nil) (.nil)) .nil
def b_law : Ss := .cons (.ife (.not (.call 21 (.nil))) (.cons (.ret (.c (.bl false))) .nil) (.nil)) (.cons (.set 1 (.call 12 (.cons (.v 0) .nil))) (.cons (.for_ (.v 2) (.r1 (.c (.int 8))) bb_law_0) (.cons (.ret (.c (.bl true))) .nil)))
def f_law : Fd := ⟨1, 3, b_law⟩
def n_law : List Str := ["script", "cup", "turn"]
def s_law : Stmt := topS 36
def prog : Pr := ⟨[f_is_whole, f_is_tuple_of, f_is_poly, f_common_in, f_is_fractional, f_need_fractional, f_value_in, f_lowest_in, f_broken_in, f_is_whole_valued, f_first_broken, f_multiplier, f_law_cup, f_law_roll, f_law_sort, f_law_like, f_law_value, f_law_tidied, f_law_parts, f_law_binomials, f_law_broken, f_law_fixed_right, f_law_right, f_law], glV⟩
end K80
namespace K80
open PySem Ev
def depth : Nat := 12
@[irreducible] def wf : Nat := 2 ^ 100000
theorem callK {wf n j : Nat} {fd : Fd} (h : prog.fds[j]? = some fd) (ds : List D) (c : C) : prog.call wf (n + 1) j ds c = if ds.length = fd.np then evBody (prog.call wf n) glV wf fd.body (ds.map some ++ List.replicate (fd.ns - fd.np) none) c else .no := callS h ds c
theorem wf_big {x : Nat} (h : x < 2 ^ 250) : x < wf := by
  unfold wf
  exact Nat.lt_trans h (Nat.pow_lt_pow_right (by decide) (by decide))
theorem wf_big2 : 2 ^ 8040 < wf := by
  unfold wf
  exact Nat.pow_lt_pow_right (by decide) (by decide)
theorem wf_big3 : 2 ^ 8041 < wf := by
  unfold wf
  exact Nat.pow_lt_pow_right (by decide) (by decide)
theorem is_whole_ok {n : Nat} {c : C} (v lo hi : Int) : prog.call wf (n + 1) 0 [.int v, .int lo, .int hi] c = .ok (.bl (decide (lo ≤ v ∧ v ≤ hi))) c := by
  rw [callK (fd := f_is_whole) rfl]
  by_cases h : lo ≤ v <;> simp -implicitDefEqProofs [f_is_whole, b_is_whole, evBody, evSs, evS, evE, evEs, evO, evF, evI, isiD, cmpD, binD, biD, ixD, items, slD, rvD, setTg, ownAfter, ownPut, drops, Tg.slots, wipe, D.noL, freshE, flatL, uses, usesEs, usesO, usesI, ownIt, lstAt, D.isL, h]
theorem is_tuple_of_ok {n : Nat} {c : C} (ds : List D) (lo hi : Int) : prog.call wf (n + 1) 1 [.tup ds, .int lo, .int hi] c = .ok (.bl (decide (lo ≤ ds.length ∧ (ds.length : Int) ≤ hi))) c := by
  rw [callK (fd := f_is_tuple_of) rfl]
  by_cases h : lo ≤ (ds.length : Int) <;> simp -implicitDefEqProofs [f_is_tuple_of, b_is_tuple_of, evBody, evSs, evS, evE, evEs, evO, evF, evI, isiD, cmpD, binD, biD, ixD, items, slD, rvD, setTg, ownAfter, ownPut, drops, Tg.slots, wipe, D.noL, freshE, flatL, uses, usesEs, usesO, usesI, ownIt, lstAt, D.isL, h]
theorem common_in_ok {n : Nat} {c : C} (a b : Nat) (hb : b < wf) : prog.call wf (n + 1) 3 [.int a, .int b] c = .ok (.int (Nat.gcd a b)) c := by
  obtain ⟨e, o, c', h, rfl, rfl⟩ := whl_nx (F := prog.call wf n) (G := glV) (wf := wf) (t := tt_common_in_0) (b := bb_common_in_0) (env := [some (.int a), some (.int b)]) (own := []) (c := c) (B := fun e o c' => e = [some (.int (Nat.gcd a b)), some (.int 0)] ∧ c' = c)
    (fun m e o c' => ∃ a' b' : Nat, e = [some (.int a'), some (.int b')] ∧ o = [] ∧ Nat.gcd a' b' = Nat.gcd a b ∧ m = b' ∧ c' = c) b hb ⟨a, b, rfl, rfl, rfl, rfl, rfl⟩ (by
      rintro m e o c' ⟨a', b', rfl, rfl, hg, rfl, rfl⟩
      by_cases hz : m = 0
      · subst hz
        exact .inl ⟨c', by simp -implicitDefEqProofs [tt_common_in_0, evBody, evSs, evS, evE, evEs, evO, evF, evI, isiD, cmpD, binD, biD, ixD, items, slD, rvD, setTg, ownAfter, ownPut, drops, Tg.slots, wipe, D.noL, freshE, flatL, uses, usesEs, usesO, usesI, ownIt, lstAt, D.isL], by rw [← hg]; simp, rfl⟩
      · refine .inr ⟨c', by simp -implicitDefEqProofs [tt_common_in_0, evBody, evSs, evS, evE, evEs, evO, evF, evI, isiD, cmpD, binD, biD, ixD, items, slD, rvD, setTg, ownAfter, ownPut, drops, Tg.slots, wipe, D.noL, freshE, flatL, uses, usesEs, usesO, usesI, ownIt, lstAt, D.isL, hz], ?_⟩
        refine to_nx (e := [some (.int m), some (.int ((a' % m : Nat) : Int))]) (o := []) (by simp -implicitDefEqProofs [bb_common_in_0, evBody, evSs, evS, evE, evEs, evO, evF, evI, isiD, cmpD, binD, biD, ixD, items, slD, rvD, setTg, ownAfter, ownPut, drops, Tg.slots, wipe, D.noL, freshE, flatL, uses, usesEs, usesO, usesI, ownIt, lstAt, D.isL, hz]) ⟨a' % m, Nat.mod_lt _ (by omega), m, a' % m, rfl, rfl, ?_, rfl, rfl⟩
        rw [← hg, Nat.gcd_comm a' m, Nat.gcd_rec m a', Nat.gcd_comm])
  rw [callK (fd := f_common_in) rfl]
  simp -implicitDefEqProofs [f_common_in, b_common_in, evBody, evSs, evS, evE, evEs, evO, evF, evI, isiD, cmpD, binD, biD, ixD, items, slD, rvD, setTg, ownAfter, ownPut, drops, Tg.slots, wipe, D.noL, freshE, flatL, uses, usesEs, usesO, usesI, ownIt, lstAt, D.isL, h]
theorem is_poly_ok {n : Nat} {c : C} {ns : List Int} (h1 : ns.length ≤ 240) (h2 : ∀ x ∈ ns, x.natAbs ≤ 10 ^ 60) (h3 : ns.getLast? ≠ some 0) : prog.call wf (n + 2) 2 [.tup (ns.map D.int)] c = .ok (.bl true) c := by
  rw [callK (fd := f_is_poly) rfl]
  have h4 : (ns.map fun x => decide (-(10 ^ 60 : Int) ≤ x ∧ x ≤ 10 ^ 60)).all id = true := by
    simp; intro x hx; have := h2 x hx; omega
  have h5 : (ns.length : Int) ≤ 240 := by omega
  simp -implicitDefEqProofs [f_is_poly, b_is_poly, evBody, evSs, evS, evE, evEs, evO, evF, evI, isiD, cmpD, binD, biD, ixD, items, slD, rvD, setTg, ownAfter, ownPut, drops, Tg.slots, wipe, D.noL, freshE, flatL, uses, usesEs, usesO, usesI, ownIt, lstAt, D.isL, glV, is_tuple_of_ok, h5]
  rw [comp_ints (fun x => .bl (decide (-(10 ^ 60 : Int) ≤ x ∧ x ≤ 10 ^ 60))) (by intro x _; simp -implicitDefEqProofs [evBody, evSs, evS, evE, evEs, evO, evF, evI, isiD, cmpD, binD, biD, ixD, items, slD, rvD, setTg, ownAfter, ownPut, drops, Tg.slots, wipe, D.noL, freshE, flatL, uses, usesEs, usesO, usesI, ownIt, lstAt, D.isL, glV, is_whole_ok])]
  have h6 : ns.length < lim := by unfold lim; omega
  simp only [bind_ok, h6, if_true, blsOf_map, Option.map_some, h4, of_some, Bool.not_true, ofR_ok, then_nx, evSs, evS, evE, at_zero, evEs, cmpD, okEq_ints, okEq_tnil, Bool.and_self, eq_tnil]
  by_cases hn : ns = []
  · subst hn; simp
  · obtain ⟨y, e⟩ : ∃ y, ns.getLast? = some y := ⟨_, List.getLast?_eq_some_getLast hn⟩
    have hy : y ≠ 0 := fun z => h3 (by rw [e, z])
    have hn' : ns.isEmpty = false := by cases ns <;> simp_all
    simp [ixD, e, hy, hn']
theorem is_fractional_ok {n : Nat} {c : C} {ns : List Int} {b : Int} (h1 : ns.length ≤ 40) (h2 : ∀ x ∈ ns, x.natAbs ≤ 10 ^ 60) (h3 : ns.getLast? ≠ some 0) (h4 : 1 ≤ b) (h5 : b ≤ 10 ^ 60) : prog.call wf (n + 3) 4 [.tup [.tup (ns.map D.int), .int b]] c = .ok (.bl true) c := by
  rw [callK (fd := f_is_fractional) rfl]
  have h6 : ¬ (40 < (ns.length : Int)) := by omega
  simp -implicitDefEqProofs [f_is_fractional, b_is_fractional, evBody, evSs, evS, evE, evEs, evO, evF, evI, isiD, cmpD, binD, biD, ixD, items, slD, rvD, setTg, ownAfter, ownPut, drops, Tg.slots, wipe, D.noL, freshE, flatL, uses, usesEs, usesO, usesI, ownIt, lstAt, D.isL, glV, is_tuple_of_ok, is_poly_ok (by omega : ns.length ≤ 240) h2 h3, is_whole_ok, h6, h4]
  omega
theorem need_fractional_ok {n : Nat} {c : C} {ns : List Int} {b : Int} (h1 : ns.length ≤ 40) (h2 : ∀ x ∈ ns, x.natAbs ≤ 10 ^ 60) (h3 : ns.getLast? ≠ some 0) (h4 : 1 ≤ b) (h5 : b ≤ 10 ^ 60) : prog.call wf (n + 4) 5 [.tup [.tup (ns.map D.int), .int b]] c = .ok .non c := by
  rw [callK (fd := f_need_fractional) rfl]
  simp -implicitDefEqProofs [f_need_fractional, b_need_fractional, evBody, evSs, evS, evE, evEs, evO, evF, evI, isiD, cmpD, binD, biD, ixD, items, slD, rvD, setTg, ownAfter, ownPut, drops, Tg.slots, wipe, D.noL, freshE, flatL, uses, usesEs, usesO, usesI, ownIt, lstAt, D.isL, is_fractional_ok h1 h2 h3 h4 h5]
theorem value_in_ok {n : Nat} {c : C} {ns : List Int} {x : Int} (ok : ∀ i, mulOk (hor x (ns.drop i)) x = true) : prog.call wf (n + 1) 6 [.tup (ns.map D.int), .int x] c = .ok (.int (hor x ns)) c := by
  obtain ⟨e, o, c', h, y, rfl, rfl⟩ := for_nx (tg := .v 3) (body := evSs (prog.call wf n) glV wf bb_value_in_0) (env := [some (.tup (ns.map D.int)), some (.int x), some (.int 0), none]) (own := []) (c := c)
    (fun i e o c' => ∃ y, e = [some (.tup (ns.map D.int)), some (.int x), some (.int (hor x (ns.drop (ns.length - i)))), y] ∧ c' = c) (ns.map D.int).reverse ⟨none, by simp [hor], rfl⟩ (by
      rintro i d e o c' hi ⟨y, rfl, rfl⟩
      have hl : i < ns.length := by
        have := (List.getElem?_eq_some_iff.1 hi).1
        simpa using this
      rw [List.getElem?_reverse (by simpa using hl), List.length_map, List.getElem?_map] at hi
      obtain ⟨p, hp, rfl⟩ := Option.map_eq_some_iff.1 hi
      have e1 : ns.drop (ns.length - (i + 1)) = p :: ns.drop (ns.length - i) := by
        have q := List.getElem?_eq_some_iff.1 hp
        obtain ⟨q1, q2⟩ := q
        rw [show ns.length - (i + 1) = ns.length - 1 - i by omega, List.drop_eq_getElem_cons q1, q2, show ns.length - 1 - i + 1 = ns.length - i by omega]
      refine ⟨_, rfl, to_nx (by simp -implicitDefEqProofs [bb_value_in_0, evBody, evSs, evS, evE, evEs, evO, evF, evI, isiD, cmpD, binD, biD, ixD, items, slD, rvD, setTg, ownAfter, ownPut, drops, Tg.slots, wipe, D.noL, freshE, flatL, uses, usesEs, usesO, usesI, ownIt, lstAt, D.isL, ok] <;> first | exact ⟨rfl, rfl⟩ | exact ⟨rfl, rfl, rfl⟩ | rfl) ⟨some (.int p), ?_, rfl⟩⟩
      rw [e1]; rfl)
  rw [callK (fd := f_value_in) rfl]
  simp -implicitDefEqProofs [f_value_in, b_value_in, evBody, evSs, evS, evE, evEs, evO, evF, evI, isiD, cmpD, binD, biD, ixD, items, slD, rvD, setTg, ownAfter, ownPut, drops, Tg.slots, wipe, D.noL, freshE, flatL, uses, usesEs, usesO, usesI, ownIt, lstAt, D.isL, h]
theorem law_value_ok {n : Nat} {c : C} {ns : List Int} {x : Int} (ok : ∀ i, mulOk (hor x (ns.drop i)) x = true) : prog.call wf (n + 1) 16 [.tup (ns.map D.int), .int x] c = .ok (.int (hor x ns)) c := by
  obtain ⟨e, o, c', h, y, rfl, rfl⟩ := for_nx (tg := .v 3) (body := evSs (prog.call wf n) glV wf bb_law_value_0) (env := [some (.tup (ns.map D.int)), some (.int x), some (.int 0), none]) (own := []) (c := c)
    (fun i e o c' => ∃ y, e = [some (.tup (ns.map D.int)), some (.int x), some (.int (hor x (ns.drop (ns.length - i)))), y] ∧ c' = c) (ns.map D.int).reverse ⟨none, by simp [hor], rfl⟩ (by
      rintro i d e o c' hi ⟨y, rfl, rfl⟩
      have hl : i < ns.length := by
        have := (List.getElem?_eq_some_iff.1 hi).1
        simpa using this
      rw [List.getElem?_reverse (by simpa using hl), List.length_map, List.getElem?_map] at hi
      obtain ⟨p, hp, rfl⟩ := Option.map_eq_some_iff.1 hi
      have e1 : ns.drop (ns.length - (i + 1)) = p :: ns.drop (ns.length - i) := by
        have q := List.getElem?_eq_some_iff.1 hp
        obtain ⟨q1, q2⟩ := q
        rw [show ns.length - (i + 1) = ns.length - 1 - i by omega, List.drop_eq_getElem_cons q1, q2, show ns.length - 1 - i + 1 = ns.length - i by omega]
      refine ⟨_, rfl, to_nx (by simp -implicitDefEqProofs [bb_law_value_0, evBody, evSs, evS, evE, evEs, evO, evF, evI, isiD, cmpD, binD, biD, ixD, items, slD, rvD, setTg, ownAfter, ownPut, drops, Tg.slots, wipe, D.noL, freshE, flatL, uses, usesEs, usesO, usesI, ownIt, lstAt, D.isL, ok] <;> first | exact ⟨rfl, rfl⟩ | exact ⟨rfl, rfl, rfl⟩ | rfl) ⟨some (.int p), ?_, rfl⟩⟩
      rw [e1]; rfl)
  rw [callK (fd := f_law_value) rfl]
  simp -implicitDefEqProofs [f_law_value, b_law_value, evBody, evSs, evS, evE, evEs, evO, evF, evI, isiD, cmpD, binD, biD, ixD, items, slD, rvD, setTg, ownAfter, ownPut, drops, Tg.slots, wipe, D.noL, freshE, flatL, uses, usesEs, usesO, usesI, ownIt, lstAt, D.isL, h]
theorem law_value_ok_l {n : Nat} {c : C} {ns : List Int} {x : Int} (ok : ∀ i, mulOk (hor x (ns.drop i)) x = true) : prog.call wf (n + 1) 16 [.lst (ns.map D.int), .int x] c = .ok (.int (hor x ns)) c := by
  obtain ⟨e, o, c', h, y, rfl, rfl⟩ := for_nx (tg := .v 3) (body := evSs (prog.call wf n) glV wf bb_law_value_0) (env := [some (.lst (ns.map D.int)), some (.int x), some (.int 0), none]) (own := []) (c := c)
    (fun i e o c' => ∃ y, e = [some (.lst (ns.map D.int)), some (.int x), some (.int (hor x (ns.drop (ns.length - i)))), y] ∧ c' = c) (ns.map D.int).reverse ⟨none, by simp [hor], rfl⟩ (by
      rintro i d e o c' hi ⟨y, rfl, rfl⟩
      have hl : i < ns.length := by
        have := (List.getElem?_eq_some_iff.1 hi).1
        simpa using this
      rw [List.getElem?_reverse (by simpa using hl), List.length_map, List.getElem?_map] at hi
      obtain ⟨p, hp, rfl⟩ := Option.map_eq_some_iff.1 hi
      have e1 : ns.drop (ns.length - (i + 1)) = p :: ns.drop (ns.length - i) := by
        have q := List.getElem?_eq_some_iff.1 hp
        obtain ⟨q1, q2⟩ := q
        rw [show ns.length - (i + 1) = ns.length - 1 - i by omega, List.drop_eq_getElem_cons q1, q2, show ns.length - 1 - i + 1 = ns.length - i by omega]
      refine ⟨_, rfl, to_nx (by simp -implicitDefEqProofs [bb_law_value_0, evBody, evSs, evS, evE, evEs, evO, evF, evI, isiD, cmpD, binD, biD, ixD, items, slD, rvD, setTg, ownAfter, ownPut, drops, Tg.slots, wipe, D.noL, freshE, flatL, uses, usesEs, usesO, usesI, ownIt, lstAt, D.isL, ok] <;> first | exact ⟨rfl, rfl⟩ | exact ⟨rfl, rfl, rfl⟩ | rfl) ⟨some (.int p), ?_, rfl⟩⟩
      rw [e1]; rfl)
  rw [callK (fd := f_law_value) rfl]
  simp -implicitDefEqProofs [f_law_value, b_law_value, evBody, evSs, evS, evE, evEs, evO, evF, evI, isiD, cmpD, binD, biD, ixD, items, slD, rvD, setTg, ownAfter, ownPut, drops, Tg.slots, wipe, D.noL, freshE, flatL, uses, usesEs, usesO, usesI, ownIt, lstAt, D.isL, h]
theorem lowest_in_ok {n : Nat} {c : C} {a : Int} {b : Nat} (hb : 0 < b) (hb2 : b < 2 ^ 9000) (ha : a.natAbs < wf) : prog.call wf (n + 2) 7 [.int a, .int b] c = .ok (.tup [.int (a / (Nat.gcd b a.natAbs : Nat)), .int (b / (Nat.gcd b a.natAbs : Nat))]) c := by
  have d := divOk_nat (j := Nat.gcd b a.natAbs) (Nat.gcd_pos_of_pos_left _ hb) (Nat.lt_of_le_of_lt (Nat.gcd_le_left _ hb) hb2)
  rw [callK (fd := f_lowest_in) rfl]
  simp -implicitDefEqProofs [f_lowest_in, b_lowest_in, evBody, evSs, evS, evE, evEs, evO, evF, evI, isiD, cmpD, binD, biD, ixD, items, slD, rvD, setTg, ownAfter, ownPut, drops, Tg.slots, wipe, D.noL, freshE, flatL, uses, usesEs, usesO, usesI, ownIt, lstAt, D.isL, common_in_ok _ _ ha, d, lim]
theorem cup_ok {n : Nat} {ns : List Int} (h : ns.length ≤ 63) : ∃ s, prog.call wf (n + 1) 12 [.scr ns] none = .ok .cup (some s) := by
  rw [callK (fd := f_law_cup) rfl]
  have d : divOk (471 : Int) = true := by decide +kernel
  cases ns with
  | nil =>
    have m : mulOk 0 673 = true := by decide +kernel
    simp -implicitDefEqProofs [f_law_cup, b_law_cup, evBody, evSs, evS, evE, evEs, evO, evF, evI, isiD, cmpD, binD, biD, ixD, items, slD, rvD, setTg, ownAfter, ownPut, drops, Tg.slots, wipe, D.noL, freshE, flatL, uses, usesEs, usesO, usesI, ownIt, lstAt, D.isL, m]
  | cons x l =>
    have h1 : l.length + 1 + 1 ≤ lim := by unfold lim; simp at h; omega
    have m : mulOk (x.natAbs : Int) 673 = true := mulOk_right (by decide)
    by_cases q : (1000000000000000000 : Int) ≤ x.natAbs <;> simp -implicitDefEqProofs [f_law_cup, b_law_cup, evBody, evSs, evS, evE, evEs, evO, evF, evI, isiD, cmpD, binD, biD, ixD, items, slD, rvD, setTg, ownAfter, ownPut, drops, Tg.slots, wipe, D.noL, freshE, flatL, uses, usesEs, usesO, usesI, ownIt, lstAt, D.isL, h1, q, m, d]
def r1 (q : Int) : Int := (q * 30881 + 8929).fmod 2147483549
def r2 (q : Int) : Int := (r1 q * (r1 q + 701)).fmod 2147483543
def rv (many : Int) (s : Int × Int) : Int := if 0 < s.1 then s.1.fmod many else (r2 s.2 / 1171).fmod many
def rs (many : Int) (s : Int × Int) : Int × Int := if 0 < s.1 then (s.1 / many, s.2) else (s.1, r1 s.2)
theorem rv_nonneg {many : Int} {s : Int × Int} (h : 0 < many) : 0 ≤ rv many s := by
  unfold rv; split <;> exact Int.fmod_nonneg_of_pos _ h
theorem rv_lt {many : Int} {s : Int × Int} (h : 0 < many) : rv many s < many := by
  unfold rv; split <;> exact Int.fmod_lt_of_pos _ h
theorem roll_ok {n : Nat} {s : Int × Int} {many : Int} (h0 : 0 < many) (h1 : many < 2 ^ 64) : prog.call wf (n + 1) 13 [.cup, .int many] (some s) = .ok (.int (rv many s)) (some (rs many s)) := by
  obtain ⟨p, q⟩ := s
  have d : divOk many = true := by
    have := divOk_nat (j := many.natAbs) (by omega) (Nat.lt_of_lt_of_le (show many.natAbs < 2 ^ 64 by omega) (Nat.pow_le_pow_right (by decide) (by decide)))
    rwa [show ((many.natAbs : Nat) : Int) = many by omega] at this
  have d2 : divOk (1171 : Int) = true := by decide +kernel
  have m1 : mulOk q 30881 = true := mulOk_right (by decide)
  have b1 : (r1 q).natAbs < 2 ^ 64 := by
    have := Int.fmod_nonneg_of_pos (q * 30881 + 8929) (show (0 : Int) < 2147483549 by decide)
    have := Int.fmod_lt_of_pos (q * 30881 + 8929) (show (0 : Int) < 2147483549 by decide)
    unfold r1; omega
  have m2 : mulOk (r1 q) (r1 q + 701) = true := mulOk_left b1
  have nz : ¬ (many = 0) := by omega
  rw [callK (fd := f_law_roll) rfl]
  unfold r1 at m2
  by_cases z : 0 < p <;> simp -implicitDefEqProofs [f_law_roll, b_law_roll, evBody, evSs, evS, evE, evEs, evO, evF, evI, isiD, cmpD, binD, biD, ixD, items, slD, rvD, setTg, ownAfter, ownPut, drops, Tg.slots, wipe, D.noL, freshE, flatL, uses, usesEs, usesO, usesI, ownIt, lstAt, D.isL, z, d, d2, m1, m2, nz, rv, rs, r1, r2]
theorem sort_ok {n k : Nat} {c : C} {d : D} (h : D.lk k d = true) : ∃ t, prog.call wf (n + 1) 14 [d] c = .ok (.int t) c ∧ ((∃ ds, (d = .tup ds ∧ t = 3) ∨ (d = .lst ds ∧ t = 4)) ∨ ((d = .non ∨ (∃ b, d = .bl b) ∨ (∃ i, d = .int i)) ∧ t ≠ 3 ∧ t ≠ 4)) := by
  rw [callK (fd := f_law_sort) rfl]
  cases d with
  | non => exact ⟨0, by simp -implicitDefEqProofs [f_law_sort, b_law_sort, evBody, evSs, evS, evE, evEs, evO, evF, evI, isiD, cmpD, binD, biD, ixD, items, slD, rvD, setTg, ownAfter, ownPut, drops, Tg.slots, wipe, D.noL, freshE, flatL, uses, usesEs, usesO, usesI, ownIt, lstAt, D.isL], .inr ⟨.inl rfl, by decide, by decide⟩⟩
  | bl b => exact ⟨1, by simp -implicitDefEqProofs [f_law_sort, b_law_sort, evBody, evSs, evS, evE, evEs, evO, evF, evI, isiD, cmpD, binD, biD, ixD, items, slD, rvD, setTg, ownAfter, ownPut, drops, Tg.slots, wipe, D.noL, freshE, flatL, uses, usesEs, usesO, usesI, ownIt, lstAt, D.isL], .inr ⟨.inr (.inl ⟨b, rfl⟩), by decide, by decide⟩⟩
  | int b => exact ⟨2, by simp -implicitDefEqProofs [f_law_sort, b_law_sort, evBody, evSs, evS, evE, evEs, evO, evF, evI, isiD, cmpD, binD, biD, ixD, items, slD, rvD, setTg, ownAfter, ownPut, drops, Tg.slots, wipe, D.noL, freshE, flatL, uses, usesEs, usesO, usesI, ownIt, lstAt, D.isL], .inr ⟨.inr (.inr ⟨b, rfl⟩), by decide, by decide⟩⟩
  | tup ds => exact ⟨3, by simp -implicitDefEqProofs [f_law_sort, b_law_sort, evBody, evSs, evS, evE, evEs, evO, evF, evI, isiD, cmpD, binD, biD, ixD, items, slD, rvD, setTg, ownAfter, ownPut, drops, Tg.slots, wipe, D.noL, freshE, flatL, uses, usesEs, usesO, usesI, ownIt, lstAt, D.isL], .inl ⟨ds, .inl ⟨rfl, rfl⟩⟩⟩
  | lst ds => exact ⟨4, by simp -implicitDefEqProofs [f_law_sort, b_law_sort, evBody, evSs, evS, evE, evEs, evO, evF, evI, isiD, cmpD, binD, biD, ixD, items, slD, rvD, setTg, ownAfter, ownPut, drops, Tg.slots, wipe, D.noL, freshE, flatL, uses, usesEs, usesO, usesI, ownIt, lstAt, D.isL], .inl ⟨ds, .inr ⟨rfl, rfl⟩⟩⟩
  | str s => cases k <;> simp [D.lk] at h
  | cup => cases k <;> simp [D.lk] at h
  | scr _ => cases k <;> simp [D.lk] at h
theorem like_ok : ∀ {k n : Nat} {c : C} {d : D}, D.lk k d = true → prog.call wf (n + k + 2) 15 [d, d] c = .ok (.bl true) c := by
  intro k
  induction k with
  | zero =>
    intro n c d h
    obtain ⟨t, e, q⟩ := sort_ok (n := n) (c := c) h
    rcases q with ⟨ds, ⟨rfl, rfl⟩ | ⟨rfl, rfl⟩⟩ | ⟨q, h3, h4⟩
    · simp [D.lk] at h
    · simp [D.lk] at h
    · rw [callK (fd := f_law_like) rfl]
      have h3' : ¬ (3 = t) := fun z => h3 z.symm
      have h4' : ¬ (4 = t) := fun z => h4 z.symm
      rcases q with rfl | ⟨b, rfl⟩ | ⟨b, rfl⟩ <;> simp -implicitDefEqProofs [f_law_like, b_law_like, evBody, evSs, evS, evE, evEs, evO, evF, evI, isiD, cmpD, binD, biD, ixD, items, slD, rvD, setTg, ownAfter, ownPut, drops, Tg.slots, wipe, D.noL, freshE, flatL, uses, usesEs, usesO, usesI, ownIt, lstAt, D.isL, e, inD, D.flat, h3', h4']
  | succ k ih =>
    intro n c d h
    obtain ⟨t, e, q⟩ := sort_ok (n := n + (k + 1)) (c := c) h
    rcases q with ⟨ds, ⟨rfl, rfl⟩ | ⟨rfl, rfl⟩⟩ | ⟨q, h3, h4⟩
    · simp only [D.lk, Bool.and_eq_true, decide_eq_true_eq, List.all_eq_true] at h
      rw [callK (fd := f_law_like) rfl]
      simp -implicitDefEqProofs [f_law_like, b_law_like, evBody, evSs, evS, evE, evEs, evO, evF, evI, isiD, cmpD, binD, biD, ixD, items, slD, rvD, setTg, ownAfter, ownPut, drops, Tg.slots, wipe, D.noL, freshE, flatL, uses, usesEs, usesO, usesI, ownIt, lstAt, D.isL, e, inD, D.flat, zip_same]
      rw [comp_nil (by
        intro d hd
        obtain ⟨x, hx, rfl⟩ := List.mem_map.1 hd
        have := ih (n := n) (c := c) (h.2 x hx)
        rw [show n + k + 2 = n + (k + 1) + 1 by omega] at this
        simp -implicitDefEqProofs [evBody, evSs, evS, evE, evEs, evO, evF, evI, isiD, cmpD, binD, biD, ixD, items, slD, rvD, setTg, ownAfter, ownPut, drops, Tg.slots, wipe, D.noL, freshE, flatL, uses, usesEs, usesO, usesI, ownIt, lstAt, D.isL, this])]
      simp [h.1]
    · simp only [D.lk, Bool.and_eq_true, decide_eq_true_eq, List.all_eq_true] at h
      rw [callK (fd := f_law_like) rfl]
      simp -implicitDefEqProofs [f_law_like, b_law_like, evBody, evSs, evS, evE, evEs, evO, evF, evI, isiD, cmpD, binD, biD, ixD, items, slD, rvD, setTg, ownAfter, ownPut, drops, Tg.slots, wipe, D.noL, freshE, flatL, uses, usesEs, usesO, usesI, ownIt, lstAt, D.isL, e, inD, D.flat, zip_same]
      rw [comp_nil (by
        intro d hd
        obtain ⟨x, hx, rfl⟩ := List.mem_map.1 hd
        have := ih (n := n) (c := c) (h.2 x hx)
        rw [show n + k + 2 = n + (k + 1) + 1 by omega] at this
        simp -implicitDefEqProofs [evBody, evSs, evS, evE, evEs, evO, evF, evI, isiD, cmpD, binD, biD, ixD, items, slD, rvD, setTg, ownAfter, ownPut, drops, Tg.slots, wipe, D.noL, freshE, flatL, uses, usesEs, usesO, usesI, ownIt, lstAt, D.isL, this])]
      simp [h.1]
    · rw [callK (fd := f_law_like) rfl]
      have h3' : ¬ (3 = t) := fun z => h3 z.symm
      have h4' : ¬ (4 = t) := fun z => h4 z.symm
      rcases q with rfl | ⟨b, rfl⟩ | ⟨b, rfl⟩ <;> simp -implicitDefEqProofs [f_law_like, b_law_like, evBody, evSs, evS, evE, evEs, evO, evF, evI, isiD, cmpD, binD, biD, ixD, items, slD, rvD, setTg, ownAfter, ownPut, drops, Tg.slots, wipe, D.noL, freshE, flatL, uses, usesEs, usesO, usesI, ownIt, lstAt, D.isL, e, inD, D.flat, h3', h4']
theorem law_tidied_ok {n : Nat} {c : C} {ns : List Int} (hw : ns.length < 1000000) : prog.call wf (n + 1) 17 [.lst (ns.map D.int)] c = .ok (.tup ((tidy ns).map D.int)) c := by
  have hl : (rg 0 (ns.length : Int)).length = ns.length := by rw [rg_len2]; omega
  have ok : rgOk 0 (ns.length : Int) = true := rgOk_of (by decide) (by decide) (by omega) (by omega)
  obtain ⟨e, o, c', h, m, x, rfl, hm, ht, hs, rfl⟩ := for_nx (tg := .v 2) (body := evSs (prog.call wf n) glV wf bb_law_tidied_0) (env := [some (.lst (ns.map D.int)), some (.int ns.length), none]) (own := []) (c := c)
    (fun i e o c' => ∃ m : Nat, ∃ x, e = [some (.lst (ns.map D.int)), some (.int m), x] ∧ m ≤ ns.length ∧ tidy (ns.take m) = tidy ns ∧ (m = ns.length - i ∨ (ns.length - i < m ∧ ∃ y, ns[m - 1]? = some y ∧ y ≠ 0)) ∧ c' = c) (rg 0 (ns.length : Int)) ⟨ns.length, none, rfl, Nat.le_refl _, by rw [List.take_length], .inl rfl, rfl⟩ (by
      rintro i d e o c' hi ⟨m, x, rfl, hm, ht, hs, rfl⟩
      obtain ⟨rfl, hi'⟩ := rg_at hi
      have hm1 : 1 ≤ m := by rcases hs with h | ⟨h, _⟩ <;> omega
      obtain ⟨m, rfl⟩ : ∃ k, m = k + 1 := ⟨m - 1, by omega⟩
      have e1 : ((m + 1 : Nat) : Int) - 1 = (m : Nat) := by omega
      obtain ⟨y, hy⟩ : ∃ y, ns[m]? = some y := ⟨_, List.getElem?_eq_getElem (by omega)⟩
      by_cases hy0 : y = 0
      · subst hy0
        have hs' : m + 1 = ns.length - i := by
          rcases hs with h | ⟨_, y, h, n⟩
          · exact h
          · rw [Nat.add_sub_cancel, hy] at h
            exact absurd (Option.some.inj h).symm n
        have e2 : ((m : Int) + 1 = (ns.length : Int) - i) = True := eq_true (by omega)
        have e3 : (m : Int) + 1 - 1 = m := by omega
        refine ⟨_, rfl, to_nx (e := [some (.lst (ns.map D.int)), some (.int (m : Nat)), some (.int (0 + i))]) (c' := c') (by simp -implicitDefEqProofs [bb_law_tidied_0, evBody, evSs, evS, evE, evEs, evO, evF, evI, isiD, cmpD, binD, biD, ixD, items, slD, rvD, setTg, ownAfter, ownPut, drops, Tg.slots, wipe, D.noL, freshE, flatL, uses, usesEs, usesO, usesI, ownIt, lstAt, D.isL, hy, e2, e3] <;> first | exact ⟨rfl, rfl⟩ | exact ⟨rfl, rfl, rfl⟩ | rfl) ⟨m, some (.int (0 + i)), rfl, by omega, ?_, .inl (by omega), rfl⟩⟩
        rw [← tidy_take hy, ht]
      · refine ⟨_, rfl, to_nx (e := [some (.lst (ns.map D.int)), some (.int ((m + 1 : Nat) : Int)), some (.int (0 + i))]) (c' := c') (by simp -implicitDefEqProofs [bb_law_tidied_0, evBody, evSs, evS, evE, evEs, evO, evF, evI, isiD, cmpD, binD, biD, ixD, items, slD, rvD, setTg, ownAfter, ownPut, drops, Tg.slots, wipe, D.noL, freshE, flatL, uses, usesEs, usesO, usesI, ownIt, lstAt, D.isL, hy, hy0, show (m : Int) + 1 - 1 = m by omega] <;> first | exact ⟨rfl, rfl⟩ | exact ⟨rfl, rfl, rfl⟩ | rfl) ⟨m + 1, some (.int (0 + i)), rfl, hm, ht, .inr ⟨by omega, y, hy, hy0⟩, rfl⟩⟩)
  have fin : ns.take m = tidy ns := by
    rw [hl] at hs
    rcases hs with rfl | ⟨h1, y, hy, hy0⟩
    · rw [Nat.sub_self] at ht ⊢; simpa using ht
    · obtain ⟨m, rfl⟩ : ∃ k, m = k + 1 := ⟨m - 1, by omega⟩
      rw [Nat.add_sub_cancel] at hy; rw [← ht, tidy_stop hy hy0]
  rw [callK (fd := f_law_tidied) rfl]
  simp -implicitDefEqProofs [f_law_tidied, b_law_tidied, evBody, evSs, evS, evE, evEs, evO, evF, evI, isiD, cmpD, binD, biD, ixD, items, slD, rvD, setTg, ownAfter, ownPut, drops, Tg.slots, wipe, D.noL, freshE, flatL, uses, usesEs, usesO, usesI, ownIt, lstAt, D.isL, ok, h, cut_to]
  rw [← List.map_take, fin]
theorem law_parts_ok {n : Nat} {s : Int × Int} {most : Nat} (hm : most ≤ 1000) : ∃ (ns : List Int) (s' : Int × Int), prog.call wf (n + 2) 18 [.cup, .int most] (some s) = .ok (.tup (ns.map D.int)) (some s') ∧ ns.length ≤ most ∧ (∀ x ∈ ns, x.natAbs ≤ 20000000000) ∧ ns.getLast? ≠ some 0 := by
  have r0 : (0 : Int) < (most : Int) + 1 := by omega
  have r1 := rv_nonneg (s := s) r0
  have r2 := rv_lt (s := s) r0
  obtain ⟨k, hk⟩ := Int.eq_ofNat_of_zero_le r1
  have ok : rgOk 0 (k : Int) = true := rgOk_of (by decide) (by decide) (by omega) (by omega)
  obtain ⟨e, o, c', h, ns, x, y, s', rfl, ho, hl, hb, rfl⟩ := for_nx (tg := .v 3) (body := evSs (prog.call wf (n + 1)) glV wf bb_law_parts_0) (env := [some .cup, some (.int most), some (.lst []), none, none]) (own := [2]) (c := some (rs (most + 1) s))
    (fun i e o c' => ∃ (ns : List Int) (x y : Option D) (s' : Int × Int), e = [some .cup, some (.int most), some (.lst (ns.map D.int)), x, y] ∧ o = [2] ∧ ns.length = i ∧ (∀ x ∈ ns, x.natAbs ≤ 20000000000) ∧ c' = some s') (rg 0 (k : Int)) ⟨[], none, none, _, rfl, rfl, rfl, by simp, rfl⟩ (by
      rintro i d e o c' hi ⟨ns, x, y, s', rfl, rfl, hl, hb, rfl⟩
      obtain ⟨rfl, hi'⟩ := rg_at hi
      have l1 : ns.length < lim := by unfold lim; omega
      have a1 := rv_nonneg (s := s') (show (0 : Int) < 41 by decide)
      have a2 := rv_lt (s := s') (show (0 : Int) < 41 by decide)
      have b1 := rv_nonneg (s := rs 4 (rs 41 s')) (show (0 : Int) < 1000000000 by decide)
      have b2 := rv_lt (s := rs 4 (rs 41 s')) (show (0 : Int) < 1000000000 by decide)
      have m1 : mulOk (rv 41 s' - 20) (1 + rv 1000000000 (rs 4 (rs 41 s'))) = true := mulOk_left (by omega)
      by_cases z : rv 4 (rs 41 s') = 0
      · refine ⟨_, rfl, to_nx (e := [some .cup, some (.int most), some (.lst ((ns ++ [(rv 41 s' - 20) * (1 + rv 1000000000 (rs 4 (rs 41 s')))]).map D.int)), some (.int (0 + i)), some (.int (rv 41 s' - 20))]) (o := [2]) (c' := some (rs 1000000000 (rs 4 (rs 41 s')))) (by simp -implicitDefEqProofs [bb_law_parts_0, evBody, evSs, evS, evE, evEs, evO, evF, evI, isiD, cmpD, binD, biD, ixD, items, slD, rvD, setTg, ownAfter, ownPut, drops, Tg.slots, wipe, D.noL, freshE, flatL, uses, usesEs, usesO, usesI, ownIt, lstAt, D.isL, roll_ok, z, m1, l1]) ⟨_, _, _, _, rfl, rfl, by simp [hl], ?_, rfl⟩⟩
        intro p hp
        rcases List.mem_append.1 hp with q | q
        · exact hb p q
        · rw [List.mem_singleton.1 q, Int.natAbs_mul]
          exact Nat.le_trans (Nat.mul_le_mul (show (rv 41 s' - 20).natAbs ≤ 20 by omega) (show (1 + rv 1000000000 (rs 4 (rs 41 s'))).natAbs ≤ 1000000000 by omega)) (by decide)
      · refine ⟨_, rfl, to_nx (e := [some .cup, some (.int most), some (.lst ((ns ++ [rv 41 s' - 20]).map D.int)), some (.int (0 + i)), some (.int (rv 41 s' - 20))]) (o := [2]) (c' := some (rs 4 (rs 41 s'))) (by simp -implicitDefEqProofs [bb_law_parts_0, evBody, evSs, evS, evE, evEs, evO, evF, evI, isiD, cmpD, binD, biD, ixD, items, slD, rvD, setTg, ownAfter, ownPut, drops, Tg.slots, wipe, D.noL, freshE, flatL, uses, usesEs, usesO, usesI, ownIt, lstAt, D.isL, roll_ok, z, m1, l1]) ⟨_, _, _, _, rfl, rfl, by simp [hl], ?_, rfl⟩⟩
        intro p hp
        rcases List.mem_append.1 hp with q | q
        · exact hb p q
        · rw [List.mem_singleton.1 q]; omega)
  have hl2 : ns.length = k := by rw [hl, rg_len2]; omega
  refine ⟨tidy ns, s', ?_, Nat.le_trans tidy_length (by omega), fun x hx => hb x (mem_tidy hx), tidy_last⟩
  rw [callK (fd := f_law_parts) rfl]
  simp -implicitDefEqProofs [f_law_parts, b_law_parts, evBody, evSs, evS, evE, evEs, evO, evF, evI, isiD, cmpD, binD, biD, ixD, items, slD, rvD, setTg, ownAfter, ownPut, drops, Tg.slots, wipe, D.noL, freshE, flatL, uses, usesEs, usesO, usesI, ownIt, lstAt, D.isL, roll_ok r0 (by omega), hk, ok, h, law_tidied_ok (show ns.length < 1000000 by omega)]
theorem broken_in_ok {n : Nat} {c : C} {ns : List Int} {B : Nat} (h1 : ns.length ≤ 40) (h2 : ∀ x ∈ ns, x.natAbs ≤ 10 ^ 60) (hB : 0 < B) : prog.call wf (n + 2) 8 [.tup [.tup (ns.map D.int), .int B]] c = .ok (brkD (brk ns B (max 1 ns.length))) c := by
  have em : (if (1 : Int) < (ns.length : Int) then (ns.length : Int) else 1) = ((max 1 ns.length : Nat) : Int) := by split <;> omega
  have ok : rgOk 0 ((max 1 ns.length : Nat) : Int) = true := rgOk_of (by decide) (by decide) (by omega) (by omega)
  have hl : (rg 0 ((max 1 ns.length : Nat) : Int)).length = max 1 ns.length := by rw [rg_len2]; omega
  have key : (forGo (.v 1) (evSs (prog.call wf (n + 1)) glV wf bb_broken_in_0) (rg 0 ((max 1 ns.length : Nat) : Int)) [some (.tup [.tup (ns.map D.int), .int B]), none] [] c).End (fun e o c' => brk ns B (max 1 ns.length) = none ∧ c' = c) (fun d c' => d = brkD (brk ns B (max 1 ns.length)) ∧ c' = c) := by
    refine for_end (fun i e o c' => ∃ x, e = [some (.tup [.tup (ns.map D.int), .int B]), x] ∧ o = [] ∧ brk ns B i = none ∧ c' = c) _ 0 _ _ _ ⟨none, rfl, rfl, rfl, rfl⟩ ?_ ?_
    · rintro i d e o c' hi ⟨x, rfl, rfl, hb, rfl⟩
      obtain ⟨rfl, hi'⟩ := rg_at hi
      rw [Nat.zero_add] at hb ⊢
      have v := value_in_ok (n := n) (c := c') (ns := ns) (x := (i : Int)) fun j => mulOk_of (hor_bd h1 h2 (by omega) j) (b := 201) (Nat.lt_of_le_of_lt (show (i : Int).natAbs ≤ 10 ^ 60 by omega) (by decide)) (by decide) (by decide) (by decide)
      have nz : ¬ ((B : Int) = 0) := by omega
      by_cases z : hor (i : Int) ns % (B : Int) = 0
      · exact ⟨_, rfl, to_nx (e := [some (.tup [.tup (ns.map D.int), .int B]), some (.int (0 + i))]) (o := []) (c' := c') (by simp -implicitDefEqProofs [bb_broken_in_0, evBody, evSs, evS, evE, evEs, evO, evF, evI, isiD, cmpD, binD, biD, ixD, items, slD, rvD, setTg, ownAfter, ownPut, drops, Tg.slots, wipe, D.noL, freshE, flatL, uses, usesEs, usesO, usesI, ownIt, lstAt, D.isL, v, z, hB, show ¬ (B = 0) by omega]) ⟨_, rfl, rfl, brk_succ hb z, rfl⟩⟩
      · exact ⟨_, rfl, to_rt (d := .int (i : Int)) (c' := c') (by simp -implicitDefEqProofs [bb_broken_in_0, evBody, evSs, evS, evE, evEs, evO, evF, evI, isiD, cmpD, binD, biD, ixD, items, slD, rvD, setTg, ownAfter, ownPut, drops, Tg.slots, wipe, D.noL, freshE, flatL, uses, usesEs, usesO, usesI, ownIt, lstAt, D.isL, v, z, hB, show ¬ (B = 0) by omega]) ⟨by rw [brk_first hb (show i < max 1 ns.length by omega) z]; rfl, rfl⟩⟩
    · rintro e o c' ⟨x, rfl, rfl, hb, rfl⟩
      rw [hl, Nat.zero_add] at hb
      exact ⟨hb, rfl⟩
  rw [callK (fd := f_broken_in) rfl]
  rcases key with ⟨e, o, c', h, hb, rfl⟩ | ⟨d, c', h, rfl, rfl⟩
  · simp -implicitDefEqProofs [f_broken_in, b_broken_in, evBody, evSs, evS, evE, evEs, evO, evF, evI, isiD, cmpD, binD, biD, ixD, items, slD, rvD, setTg, ownAfter, ownPut, drops, Tg.slots, wipe, D.noL, freshE, flatL, uses, usesEs, usesO, usesI, ownIt, lstAt, D.isL, em, ok, h]
    rw [hb]; rfl
  · simp -implicitDefEqProofs [f_broken_in, b_broken_in, evBody, evSs, evS, evE, evEs, evO, evF, evI, isiD, cmpD, binD, biD, ixD, items, slD, rvD, setTg, ownAfter, ownPut, drops, Tg.slots, wipe, D.noL, freshE, flatL, uses, usesEs, usesO, usesI, ownIt, lstAt, D.isL, em, ok, h]
theorem is_whole_valued_ok {n : Nat} {c : C} {ns : List Int} {B : Nat} (h1 : ns.length ≤ 40) (h2 : ∀ x ∈ ns, x.natAbs ≤ 10 ^ 60) (h3 : ns.getLast? ≠ some 0) (h4 : 1 ≤ B) (h5 : B ≤ 10 ^ 60) : prog.call wf (n + 5) 9 [.tup [.tup (ns.map D.int), .int B]] c = .ok (.bl (brk ns B (max 1 ns.length)).isNone) c := by
  have e := need_fractional_ok (n := n) (c := c) h1 h2 h3 (show (1 : Int) ≤ (B : Int) by omega) (by omega)
  have e2 := broken_in_ok (n := n + 2) (c := c) (B := B) h1 h2 h4
  rw [callK (fd := f_is_whole_valued) rfl]
  cases hb : brk ns B (max 1 ns.length) <;> rw [hb] at e2 <;> simp -implicitDefEqProofs [f_is_whole_valued, b_is_whole_valued, evBody, evSs, evS, evE, evEs, evO, evF, evI, isiD, cmpD, binD, biD, ixD, items, slD, rvD, setTg, ownAfter, ownPut, drops, Tg.slots, wipe, D.noL, freshE, flatL, uses, usesEs, usesO, usesI, ownIt, lstAt, D.isL, e, e2, brkD]
theorem first_broken_ok {n : Nat} {c : C} {ns : List Int} {B : Nat} (h1 : ns.length ≤ 40) (h2 : ∀ x ∈ ns, x.natAbs ≤ 10 ^ 60) (h3 : ns.getLast? ≠ some 0) (h4 : 1 ≤ B) (h5 : B ≤ 10 ^ 60) : prog.call wf (n + 5) 10 [.tup [.tup (ns.map D.int), .int B]] c = .ok (brkD (brk ns B (max 1 ns.length))) c := by
  have e := need_fractional_ok (n := n) (c := c) h1 h2 h3 (show (1 : Int) ≤ (B : Int) by omega) (by omega)
  have e2 := broken_in_ok (n := n + 2) (c := c) (B := B) h1 h2 h4
  rw [callK (fd := f_first_broken) rfl]
  simp -implicitDefEqProofs [f_first_broken, b_first_broken, evBody, evSs, evS, evE, evEs, evO, evF, evI, isiD, cmpD, binD, biD, ixD, items, slD, rvD, setTg, ownAfter, ownPut, drops, Tg.slots, wipe, D.noL, freshE, flatL, uses, usesEs, usesO, usesI, ownIt, lstAt, D.isL, e, e2]
theorem multiplier_ok {n : Nat} {c : C} {ns : List Int} {B : Nat} (h1 : ns.length ≤ 40) (h2 : ∀ x ∈ ns, x.natAbs ≤ 10 ^ 60) (h3 : ns.getLast? ≠ some 0) (h4 : 1 ≤ B) (h5 : B ≤ 10 ^ 60) : prog.call wf (n + 5) 11 [.tup [.tup (ns.map D.int), .int B]] c = .ok (.int (mu ns B ns.length)) c := by
  have e0 := need_fractional_ok (n := n) (c := c) h1 h2 h3 (show (1 : Int) ≤ (B : Int) by omega) (by omega)
  have ok : rgOk 0 (ns.length : Int) = true := rgOk_of (by decide) (by decide) (by omega) (by omega)
  have hl : (rg 0 (ns.length : Int)).length = ns.length := by rw [rg_len2]; omega
  obtain ⟨e, o, c', h, x, y, rfl, ho, rfl⟩ := for_nx (tg := .v 2) (body := evSs (prog.call wf (n + 4)) glV wf bb_multiplier_0) (env := [some (.tup [.tup (ns.map D.int), .int B]), some (.int 1), none, none]) (own := []) (c := c)
    (fun i e o c' => ∃ x y, e = [some (.tup [.tup (ns.map D.int), .int B]), some (.int (mu ns B i)), x, y] ∧ o = [] ∧ c' = c) (rg 0 (ns.length : Int)) ⟨none, none, rfl, rfl, rfl⟩ (by
      rintro i d e o c' hi ⟨x, y, rfl, rfl, rfl⟩
      obtain ⟨rfl, hi'⟩ := rg_at hi
      have bd := hor_bd h1 h2 (x := (i : Int)) (by omega)
      have v := value_in_ok (n := n + 3) (c := c') (ns := ns) (x := (i : Int)) fun j => mulOk_of (bd j) (b := 201) (Nat.lt_of_le_of_lt (show (i : Int).natAbs ≤ 10 ^ 60 by omega) (by decide)) (by decide) (by decide) (by decide)
      have bd0 := bd 0
      rw [List.drop_zero] at bd0
      have w := lowest_in_ok (n := n + 2) (c := c') (a := hor (i : Int) ns) (b := B) h4 (Nat.lt_of_le_of_lt h5 (by decide +kernel)) (Nat.lt_trans bd0 wf_big3)
      have dl : den B (hor (i : Int) ns) ≤ B := Nat.div_le_self _ _
      have u := common_in_ok (n := n + 3) (c := c') (mu ns B i) (den B (hor (i : Int) ns)) (Nat.lt_of_le_of_lt (Nat.le_trans dl h5) (wf_big (by decide)))
      have mp : 0 < mu ns B i := Nat.pos_of_dvd_of_pos mu_self h4
      have ml : mu ns B i ≤ B := Nat.le_of_dvd h4 mu_self
      have g0 : 0 < Nat.gcd (mu ns B i) (den B (hor (i : Int) ns)) := Nat.gcd_pos_of_pos_left _ mp
      have d2 := divOk_nat g0 (Nat.lt_of_le_of_lt (Nat.le_trans (Nat.gcd_le_left _ mp) (Nat.le_trans ml h5)) (by decide +kernel))
      have m2 : mulOk ((mu ns B i : Int) / (Nat.gcd (mu ns B i) (den B (hor (i : Int) ns)) : Nat)) (den B (hor (i : Int) ns)) = true := by
        refine mulOk_of (a := 201) (b := 201) ?_ ?_ (by decide) (by decide) (by decide)
        · have : ((mu ns B i : Int) / (Nat.gcd (mu ns B i) (den B (hor (i : Int) ns)) : Nat)).natAbs = mu ns B i / Nat.gcd (mu ns B i) (den B (hor (i : Int) ns)) := by rw [← Int.natCast_ediv, Int.natAbs_natCast]
          rw [this]
          exact Nat.lt_of_le_of_lt (Nat.le_trans (Nat.div_le_self _ _) (Nat.le_trans ml h5)) (by decide)
        · rw [Int.natAbs_natCast]
          exact Nat.lt_of_le_of_lt (Nat.le_trans dl h5) (by decide)
      have ed : ((B : Int) / (Nat.gcd B (hor (i : Int) ns).natAbs : Nat)) = ((den B (hor (i : Int) ns) : Nat) : Int) := by unfold den; simp
      rw [ed] at w
      simp only [Nat.add_assoc, Nat.reduceAdd] at v w u
      refine ⟨_, rfl, to_nx (e := [some (.tup [.tup (ns.map D.int), .int B]), some (.int ((mu ns B i / Nat.gcd (mu ns B i) (den B (hor (i : Int) ns)) * den B (hor (i : Int) ns) : Nat) : Int)), some (.int (0 + i)), some (.int (den B (hor (i : Int) ns)))]) (o := []) (c' := c') (by simp -implicitDefEqProofs [bb_multiplier_0, evBody, evSs, evS, evE, evEs, evO, evF, evI, isiD, cmpD, binD, biD, ixD, items, slD, rvD, setTg, ownAfter, ownPut, drops, Tg.slots, wipe, D.noL, freshE, flatL, uses, usesEs, usesO, usesI, ownIt, lstAt, D.isL, v, w, u, d2, m2]) ⟨some (.int (0 + i)), some (.int (den B (hor (i : Int) ns))), ?_, rfl, rfl⟩⟩
      rw [lcm_eq]; rfl)
  rw [callK (fd := f_multiplier) rfl]
  simp -implicitDefEqProofs [f_multiplier, b_multiplier, evBody, evSs, evS, evE, evEs, evO, evF, evI, isiD, cmpD, binD, biD, ixD, items, slD, rvD, setTg, ownAfter, ownPut, drops, Tg.slots, wipe, D.noL, freshE, flatL, uses, usesEs, usesO, usesI, ownIt, lstAt, D.isL, e0, ok, h, hl]
theorem law_broken_ok {n : Nat} {c : C} {ns : List Int} {B : Nat} (h1 : ns.length ≤ 40) (h2 : ∀ x ∈ ns, x.natAbs ≤ 10 ^ 60) (hB : 0 < B) : prog.call wf (n + 2) 20 [.tup (ns.map D.int), .int B] c = .ok (brkD (brk ns B 61)) c := by
  have ok : rgOk 0 61 = true := rgOk_of (by decide) (by decide) (by decide) (by decide)
  have nB : ¬ (B = 0) := by omega
  have hd := brk_head (ns := ns) (B := B) (n := 61)
  have ll : ((rg 0 61).length < lim) = True := eq_true (by rw [rg_len2]; decide)
  rw [callK (fd := f_law_broken) rfl]
  simp -implicitDefEqProofs [f_law_broken, b_law_broken, evBody, evSs, evS, evE, evEs, evO, evF, evI, isiD, cmpD, binD, biD, ixD, items, slD, rvD, setTg, ownAfter, ownPut, drops, Tg.slots, wipe, D.noL, freshE, flatL, uses, usesEs, usesO, usesI, ownIt, lstAt, D.isL, ok]
  rw [comp_filterI (n := 61) (m := 61) rfl (fun x : Nat => decide (¬ hor (x : Int) ns % (B : Int) = 0)) (by
    intro i hi
    have v := law_value_ok (n := n) (c := c) (ns := ns) (x := (i : Int)) fun j => mulOk_of (hor_bd h1 h2 (by omega) j) (b := 201) (Nat.lt_of_le_of_lt (show (i : Int).natAbs ≤ 10 ^ 60 by omega) (by decide)) (by decide) (by decide) (by decide)
    by_cases z : hor (i : Int) ns % (B : Int) = 0 <;> simp -implicitDefEqProofs [evBody, evSs, evS, evE, evEs, evO, evF, evI, isiD, cmpD, binD, biD, ixD, items, slD, rvD, setTg, ownAfter, ownPut, drops, Tg.slots, wipe, D.noL, freshE, flatL, uses, usesEs, usesO, usesI, ownIt, lstAt, D.isL, v, nB, z])]
  generalize (List.range 61).filter (fun x : Nat => decide (¬ hor (x : Int) ns % (B : Int) = 0)) = l at hd
  rw [← hd]
  cases l with
  | nil => simp -implicitDefEqProofs [evBody, evSs, evS, evE, evEs, evO, evF, evI, isiD, cmpD, binD, biD, ixD, items, slD, rvD, setTg, ownAfter, ownPut, drops, Tg.slots, wipe, D.noL, freshE, flatL, uses, usesEs, usesO, usesI, ownIt, lstAt, D.isL, ll, brkD]
  | cons x l => simp -implicitDefEqProofs [evBody, evSs, evS, evE, evEs, evO, evF, evI, isiD, cmpD, binD, biD, ixD, items, slD, rvD, setTg, ownAfter, ownPut, drops, Tg.slots, wipe, D.noL, freshE, flatL, uses, usesEs, usesO, usesI, ownIt, lstAt, D.isL, ll, brkD, noLs_nats, okEq_nats, flatL]
theorem law_broken_ok_l {n : Nat} {c : C} {ns : List Int} {B : Nat} (h1 : ns.length ≤ 40) (h2 : ∀ x ∈ ns, x.natAbs ≤ 10 ^ 60) (hB : 0 < B) : prog.call wf (n + 2) 20 [.lst (ns.map D.int), .int B] c = .ok (brkD (brk ns B 61)) c := by
  have ok : rgOk 0 61 = true := rgOk_of (by decide) (by decide) (by decide) (by decide)
  have nB : ¬ (B = 0) := by omega
  have hd := brk_head (ns := ns) (B := B) (n := 61)
  have ll : ((rg 0 61).length < lim) = True := eq_true (by rw [rg_len2]; decide)
  rw [callK (fd := f_law_broken) rfl]
  simp -implicitDefEqProofs [f_law_broken, b_law_broken, evBody, evSs, evS, evE, evEs, evO, evF, evI, isiD, cmpD, binD, biD, ixD, items, slD, rvD, setTg, ownAfter, ownPut, drops, Tg.slots, wipe, D.noL, freshE, flatL, uses, usesEs, usesO, usesI, ownIt, lstAt, D.isL, ok]
  rw [comp_filterI (n := 61) (m := 61) rfl (fun x : Nat => decide (¬ hor (x : Int) ns % (B : Int) = 0)) (by
    intro i hi
    have v := law_value_ok_l (n := n) (c := c) (ns := ns) (x := (i : Int)) fun j => mulOk_of (hor_bd h1 h2 (by omega) j) (b := 201) (Nat.lt_of_le_of_lt (show (i : Int).natAbs ≤ 10 ^ 60 by omega) (by decide)) (by decide) (by decide) (by decide)
    by_cases z : hor (i : Int) ns % (B : Int) = 0 <;> simp -implicitDefEqProofs [evBody, evSs, evS, evE, evEs, evO, evF, evI, isiD, cmpD, binD, biD, ixD, items, slD, rvD, setTg, ownAfter, ownPut, drops, Tg.slots, wipe, D.noL, freshE, flatL, uses, usesEs, usesO, usesI, ownIt, lstAt, D.isL, v, nB, z])]
  generalize (List.range 61).filter (fun x : Nat => decide (¬ hor (x : Int) ns % (B : Int) = 0)) = l at hd
  rw [← hd]
  cases l with
  | nil => simp -implicitDefEqProofs [evBody, evSs, evS, evE, evEs, evO, evF, evI, isiD, cmpD, binD, biD, ixD, items, slD, rvD, setTg, ownAfter, ownPut, drops, Tg.slots, wipe, D.noL, freshE, flatL, uses, usesEs, usesO, usesI, ownIt, lstAt, D.isL, ll, brkD]
  | cons x l => simp -implicitDefEqProofs [evBody, evSs, evS, evE, evEs, evO, evF, evI, isiD, cmpD, binD, biD, ixD, items, slD, rvD, setTg, ownAfter, ownPut, drops, Tg.slots, wipe, D.noL, freshE, flatL, uses, usesEs, usesO, usesI, ownIt, lstAt, D.isL, ll, brkD, noLs_nats, okEq_nats, flatL]
theorem zero_pad {xs : List Int} {m k : Nat} (h : k = m - xs.length) (l : xs.length ≤ m) : (xs ++ List.replicate k (0 : Int)).length = m := by simp; omega
theorem law_binomials_ok {n : Nat} {s : Int × Int} : ∃ (ns : List Int) (B : Nat) (s' : Int × Int), prog.call wf (n + 2) 19 [.cup] (some s) = .ok (.tup [.tup (ns.map D.int), .int B]) (some s') ∧ ns.length ≤ 6 ∧ (∀ x ∈ ns, x.natAbs ≤ 1000000000) ∧ ns.getLast? ≠ some 0 ∧ 1 ≤ B ∧ B ≤ 4096 := by
  have q0 := rv_nonneg (s := s) (show (0 : Int) < 6 by decide)
  have q1 := rv_lt (s := s) (show (0 : Int) < 6 by decide)
  obtain ⟨m, hm, hm1, hm2⟩ : ∃ m : Nat, 1 + rv 6 s = m ∧ 1 ≤ m ∧ m ≤ 6 := ⟨(1 + rv 6 s).toNat, by omega, by omega, by omega⟩
  have ok1 : rgOk 1 (m : Int) = true := rgOk_of (by decide) (by decide) (by omega) (by omega)
  have ok0 : rgOk 0 (m : Int) = true := rgOk_of (by decide) (by decide) (by omega) (by omega)
  obtain ⟨e, o, c', h, x, B, rfl, ho, hB1, hB2, rfl⟩ := for_nx (tg := .v 3) (body := evSs (prog.call wf (n + 1)) glV wf bb_law_binomials_1) (env := [some .cup, some (.int m), some (.int 1), none, none, none, none, none, none, none, none]) (own := []) (c := some (rs 6 s))
    (fun i e o c' => ∃ (x : Option D) (B : Nat), e = [some .cup, some (.int m), some (.int B), x, none, none, none, none, none, none, none] ∧ o = [] ∧ 1 ≤ B ∧ B ≤ 5 ^ i ∧ c' = some (rs 6 s)) (rg 1 (m : Int)) ⟨none, 1, rfl, rfl, by decide, by decide, rfl⟩ (by
      rintro i d e o c' hi ⟨x, B, rfl, rfl, hB1, hB2, rfl⟩
      obtain ⟨rfl, hi'⟩ := rg_at hi
      have mo : mulOk (B : Int) (1 + (i : Int)) = true := mulOk_right (by omega)
      refine ⟨_, rfl, to_nx (e := [some .cup, some (.int m), some (.int ((B * (1 + i) : Nat) : Int)), some (.int (1 + i)), none, none, none, none, none, none, none]) (o := []) (c' := some (rs 6 s)) (by simp -implicitDefEqProofs [bb_law_binomials_1, evBody, evSs, evS, evE, evEs, evO, evF, evI, isiD, cmpD, binD, biD, ixD, items, slD, rvD, setTg, ownAfter, ownPut, drops, Tg.slots, wipe, D.noL, freshE, flatL, uses, usesEs, usesO, usesI, ownIt, lstAt, D.isL, mo]) ⟨_, _, rfl, rfl, Nat.mul_pos hB1 (by omega), ?_, rfl⟩⟩
      rw [Nat.pow_succ]
      exact Nat.mul_le_mul hB2 (by omega))
  subst ho
  have hl1 : (rg 1 (m : Int)).length ≤ 5 := by rw [rg_len2]; omega
  have hB3 : B ≤ 3125 := Nat.le_trans hB2 (Nat.le_trans (Nat.pow_le_pow_right (by decide) hl1) (by decide))
  obtain ⟨e, o, c', h2, fo, fa, x, y, z, s4, of', rfl, hfl, hal, hfb, rfl⟩ := for_nx (tg := .v 7) (body := evSs (prog.call wf (n + 1)) glV wf bb_law_binomials_0) (env := [some .cup, some (.int m), some (.int B), x, some (.lst (List.replicate m (.int 0))), some (.lst [.int 1]), some (.int B), none, none, none, none]) (own := [5, 4]) (c := some (rs 6 s))
    (fun i e o c' => ∃ (fo fa : List Int) (x y z : Option D) (s4 : Int × Int) (of' : Int), e = [some .cup, some (.int m), some (.int B), x, some (.lst (fo.map D.int)), some (.lst (fa.map D.int)), some (.int of'), y, z, none, none] ∧ fo.length = m ∧ fa.length = i + 1 ∧ ((∀ a ∈ fo, a.natAbs ≤ i * 100000000) ∧ (∀ a ∈ fa, a.natAbs ≤ 6 ^ i) ∧ 0 ≤ of' ∧ of' ≤ 3125) ∧ c' = some s4) (rg 0 (m : Int)) ⟨List.replicate m 0, [1], x, none, none, rs 6 s, B, by simp, by simp, rfl, ⟨by intro a ha; rw [List.eq_of_mem_replicate ha]; decide, by simp, by omega, by omega⟩, rfl⟩ (by
      rintro i d e o c' hi ⟨fo, fa, x, y, z, s4, of', rfl, hfl, hal, ⟨hb1, hb2, hb3, hb4⟩, rfl⟩
      obtain ⟨rfl, hi'⟩ := rg_at hi
      have r0 := rv_nonneg (s := s4) (show (0 : Int) < 9 by decide)
      have r1 := rv_lt (s := s4) (show (0 : Int) < 9 by decide)
      have m1 : mulOk (rv 9 s4 - 4) of' = true := mulOk_left (by omega)
      have hk : (m : Int) - ((i : Int) + 1) = ((m - (i + 1) : Nat) : Int) := by omega
      have km : ((m - (i + 1) : Nat) : Int) < 9223372036854775808 := by omega
      have lk : m - (i + 1) ≤ lim := by unfold lim; omega
      have l1 : i + 1 + (m - (i + 1)) ≤ lim := by unfold lim; omega
      have l2 : 1 + (i + 1) ≤ lim := by unfold lim; omega
      have l3 : i + 1 + 1 ≤ lim := by unfold lim; omega
      have l4 : m < lim := by unfold lim; omega
      have l5 : i + 1 + 1 < lim := by unfold lim; omega
      have pb : ((rv 9 s4 - 4) * of').natAbs ≤ 12500 := by
        rw [Int.natAbs_mul]
        exact Nat.le_trans (Nat.mul_le_mul (show (rv 9 s4 - 4).natAbs ≤ 4 by omega) (show of'.natAbs ≤ 3125 by omega)) (by decide)
      have m2 : ∀ b, mulOk ((rv 9 s4 - 4) * of') b = true := fun b => mulOk_left (by omega)
      have m3 : ∀ b, mulOk (i : Int) b = true := fun b => mulOk_left (by omega)
      have dk : divOk ((i : Int) + 1) = true := by
        have := divOk_nat (j := i + 1) (by omega) (Nat.lt_of_le_of_lt (show i + 1 ≤ 10 by omega) (by decide +kernel))
        simpa using this
      have ez1 : zipD (fo.map D.int) (fa.map D.int ++ List.replicate (m - (i + 1)) (D.int 0)) = (fo.zip (fa ++ List.replicate (m - (i + 1)) 0)).map fun p => .tup [.int p.1, .int p.2] := by
        rw [← zip_ints]; simp
      have ez2 : zipD (D.int 0 :: fa.map D.int) (fa.map D.int ++ [D.int 0]) = ((0 :: fa).zip (fa ++ [0])).map fun p => .tup [.int p.1, .int p.2] := by
        rw [← zip_ints]; simp
      obtain ⟨fo', hfo, lfo, bfo⟩ : ∃ fo' : List Int, ((fo.zip (fa ++ List.replicate (m - (i + 1)) 0)).map fun p => p.1 + (rv 9 s4 - 4) * of' * p.2) = fo' ∧ fo'.length = m ∧ ∀ a ∈ fo', a.natAbs ≤ (i + 1) * 100000000 := by
        refine ⟨_, rfl, by simp; omega, ?_⟩
        intro a ha
        obtain ⟨p, hp, rfl⟩ := List.mem_map.1 ha
        have h1 := hb1 p.1 (List.of_mem_zip hp).1
        have h3 : p.2.natAbs ≤ 7776 := by
          rcases List.mem_append.1 (List.of_mem_zip hp).2 with q | q
          · exact Nat.le_trans (hb2 _ q) (Nat.le_trans (Nat.pow_le_pow_right (by decide) (show i ≤ 5 by omega)) (by decide))
          · rw [List.eq_of_mem_replicate q]; decide
        have h4 := Nat.mul_le_mul pb h3
        rw [← Int.natAbs_mul] at h4
        have h5 := Int.natAbs_add_le p.1 ((rv 9 s4 - 4) * of' * p.2)
        omega
      obtain ⟨fa', hfa, lfa, bfa⟩ : ∃ fa' : List Int, ((((0 : Int) :: fa).zip (fa ++ [(0 : Int)])).map fun p => p.1 - (i : Int) * p.2) = fa' ∧ fa'.length = i + 2 ∧ ∀ a ∈ fa', a.natAbs ≤ 6 ^ (i + 1) := by
        refine ⟨_, rfl, by simp; omega, ?_⟩
        intro a ha
        obtain ⟨p, hp, rfl⟩ := List.mem_map.1 ha
        have h1 : p.1.natAbs ≤ 6 ^ i := by
          rcases List.mem_cons.1 (List.of_mem_zip hp).1 with q | q
          · rw [q]; exact Nat.zero_le _
          · exact hb2 _ q
        have h3 : p.2.natAbs ≤ 6 ^ i := by
          rcases List.mem_append.1 (List.of_mem_zip hp).2 with q | q
          · exact hb2 _ q
          · rw [List.mem_singleton.1 q]; exact Nat.zero_le _
        have h4 := Nat.mul_le_mul (show (i : Int).natAbs ≤ 5 by omega) h3
        rw [← Int.natAbs_mul] at h4
        have h5 := Int.natAbs_sub_le p.1 ((i : Int) * p.2)
        rw [Nat.pow_succ]
        omega
      refine ⟨_, rfl, to_nx (e := [some .cup, some (.int m), some (.int B), x, some (.lst (fo'.map D.int)), some (.lst (fa'.map D.int)), some (.int (of' / ((i : Int) + 1))), some (.int i), some (.int ((rv 9 s4 - 4) * of')), none, none]) (o := ?_) (c' := some (rs 9 s4)) ?_ ⟨_, _, _, _, _, _, _, rfl, lfo, lfa, ⟨bfo, bfa, Int.ediv_nonneg hb3 (by omega), ?_⟩, rfl⟩⟩
      rotate_left
      · simp -implicitDefEqProofs [bb_law_binomials_0, evBody, evSs, evS, evE, evEs, evO, evF, evI, isiD, cmpD, binD, biD, ixD, items, slD, rvD, setTg, ownAfter, ownPut, drops, Tg.slots, wipe, D.noL, freshE, flatL, uses, usesEs, usesO, usesI, ownIt, lstAt, D.isL, roll_ok, m1, hal, hk, km, lk, l1]
        rw [ez1, comp_pairs (fun a b => a + (rv 9 s4 - 4) * of' * b) (by intro p _; simp -implicitDefEqProofs [evBody, evSs, evS, evE, evEs, evO, evF, evI, isiD, cmpD, binD, biD, ixD, items, slD, rvD, setTg, ownAfter, ownPut, drops, Tg.slots, wipe, D.noL, freshE, flatL, uses, usesEs, usesO, usesI, ownIt, lstAt, D.isL, m2]), hfo]
        simp -implicitDefEqProofs [evBody, evSs, evS, evE, evEs, evO, evF, evI, isiD, cmpD, binD, biD, ixD, items, slD, rvD, setTg, ownAfter, ownPut, drops, Tg.slots, wipe, D.noL, freshE, flatL, uses, usesEs, usesO, usesI, ownIt, lstAt, D.isL, l4, l2, l3, hal, hfl, show min m (i + 1 + (m - (i + 1))) < lim by omega]
        rw [ez2, comp_pairs (fun a b => a - (i : Int) * b) (by intro p _; simp -implicitDefEqProofs [evBody, evSs, evS, evE, evEs, evO, evF, evI, isiD, cmpD, binD, biD, ixD, items, slD, rvD, setTg, ownAfter, ownPut, drops, Tg.slots, wipe, D.noL, freshE, flatL, uses, usesEs, usesO, usesI, ownIt, lstAt, D.isL, m3]), hfa]
        simp -implicitDefEqProofs [evBody, evSs, evS, evE, evEs, evO, evF, evI, isiD, cmpD, binD, biD, ixD, items, slD, rvD, setTg, ownAfter, ownPut, drops, Tg.slots, wipe, D.noL, freshE, flatL, uses, usesEs, usesO, usesI, ownIt, lstAt, D.isL, l5, hal, dk]
        rfl
      · refine Int.le_trans (Int.ediv_le_self _ hb3) hb4)
  have hl2 : (rg 0 (m : Int)).length = m := by rw [rg_len2]; omega
  rw [hl2] at hfb hal
  refine ⟨tidy fo, B, s4, ?_, Nat.le_trans tidy_length (by omega), fun a ha => Nat.le_trans (hfb.1 a (mem_tidy ha)) (by omega), tidy_last, hB1, by omega⟩
  have lm : m ≤ lim := by unfold lim; omega
  have t1 := law_tidied_ok (n := n) (c := some s4) (ns := fo) (by omega)
  have km : (m : Int) < 9223372036854775808 := by omega
  rw [callK (fd := f_law_binomials) rfl]
  simp -implicitDefEqProofs [f_law_binomials, b_law_binomials, evBody, evSs, evS, evE, evEs, evO, evF, evI, isiD, cmpD, binD, biD, ixD, items, slD, rvD, setTg, ownAfter, ownPut, drops, Tg.slots, wipe, D.noL, freshE, flatL, uses, usesEs, usesO, usesI, ownIt, lstAt, D.isL, roll_ok, hm, ok1, h]
  simp -implicitDefEqProofs [evBody, evSs, evS, evE, evEs, evO, evF, evI, isiD, cmpD, binD, biD, ixD, items, slD, rvD, setTg, ownAfter, ownPut, drops, Tg.slots, wipe, D.noL, freshE, flatL, uses, usesEs, usesO, usesI, ownIt, lstAt, D.isL, lm, km, ok0, h2, t1]
theorem sort_int {n : Nat} {c : C} (i : Int) : prog.call wf (n + 1) 14 [.int i] c = .ok (.int 2) c := by
  rw [callK (fd := f_law_sort) rfl]
  simp -implicitDefEqProofs [f_law_sort, b_law_sort, evBody, evSs, evS, evE, evEs, evO, evF, evI, isiD, cmpD, binD, biD, ixD, items, slD, rvD, setTg, ownAfter, ownPut, drops, Tg.slots, wipe, D.noL, freshE, flatL, uses, usesEs, usesO, usesI, ownIt, lstAt, D.isL]
theorem isN_brk {o : Option Nat} : cmpD .isN (brkD o) .non = some (.bl o.isNone) := by cases o <;> rfl
theorem notN_brk {o : Option Nat} : cmpD .notN (brkD o) .non = some (.bl o.isSome) := by cases o <;> rfl
theorem noL_brk {o : Option Nat} : (brkD o).noL = true := by cases o <;> rfl
theorem isL_brk {o : Option Nat} : (brkD o).isL = false := by cases o <;> rfl
theorem lk_brk {o : Option Nat} : D.lk 0 (brkD o) = true := by cases o <;> rfl
theorem law_right_ok {n : Nat} {s : Int × Int} : ∃ s', prog.call wf (n + 6) 22 [.cup] (some s) = .ok (.bl true) (some s') := by
  obtain ⟨ns, B, s1, hc, l1, b1, t1, hB1, hB2⟩ : ∃ (ns : List Int) (B : Nat) (s1 : Int × Int), ((0 < rv 3 s ∧ prog.call wf (n + 5) 19 [.cup] (some (rs 3 s)) = .ok (.tup [.tup (ns.map D.int), .int B]) (some s1)) ∨ (¬ 0 < rv 3 s ∧ ∃ s0, prog.call wf (n + 5) 18 [.cup, .int 6] (some (rs 3 s)) = .ok (.tup (ns.map D.int)) (some s0) ∧ 1 + rv 30 s0 = (B : Int) ∧ rs 30 s0 = s1)) ∧ ns.length ≤ 6 ∧ (∀ x ∈ ns, x.natAbs ≤ 20000000000) ∧ ns.getLast? ≠ some 0 ∧ 1 ≤ B ∧ B ≤ 4096 := by
    by_cases z : 0 < rv 3 s
    · obtain ⟨ns, B, s1, e, l, b, t, hB1, hB2⟩ := law_binomials_ok (n := n + 3) (s := rs 3 s)
      exact ⟨ns, B, s1, .inl ⟨z, e⟩, l, fun x hx => Nat.le_trans (b x hx) (by decide), t, hB1, hB2⟩
    · obtain ⟨ns, s0, e, l, b, t⟩ := law_parts_ok (n := n + 3) (s := rs 3 s) (most := 6) (by decide)
      have r0 := rv_nonneg (s := s0) (show (0 : Int) < 30 by decide)
      have r1 := rv_lt (s := s0) (show (0 : Int) < 30 by decide)
      exact ⟨ns, (1 + rv 30 s0).toNat, rs 30 s0, .inr ⟨z, s0, e, by omega, rfl⟩, l, b, t, by omega, by omega⟩
  have r0 := rv_nonneg (s := s1) (show (0 : Int) < 4 by decide)
  have r1 := rv_lt (s := s1) (show (0 : Int) < 4 by decide)
  have r2 := rv_nonneg (s := rs 4 s1) (show (0 : Int) < 2 by decide)
  have r3 := rv_lt (s := rs 4 s1) (show (0 : Int) < 2 by decide)
  obtain ⟨b, eb, hb1, hb2⟩ : ∃ b : Nat, (B : Int) * (1 + rv 4 s1 * rv 2 (rs 4 s1)) = (b : Int) ∧ 1 ≤ b ∧ b ≤ 20000 := by
    obtain ⟨u, hu⟩ := Int.eq_ofNat_of_zero_le r0
    obtain ⟨v, hv⟩ := Int.eq_ofNat_of_zero_le r2
    have huv : u * v ≤ 3 * 1 := Nat.mul_le_mul (by omega) (by omega)
    refine ⟨B * (1 + u * v), by rw [hu, hv]; simp, Nat.mul_pos hB1 (by omega), ?_⟩
    exact Nat.le_trans (Nat.mul_le_mul hB2 (show 1 + u * v ≤ 4 by omega)) (by decide)
  generalize hs2 : rs 2 (rs 4 s1) = s2
  have b2 : ∀ x ∈ ns, x.natAbs ≤ 10 ^ 60 := fun x hx => Nat.le_trans (b1 x hx) (by decide)
  have hb3 : b ≤ 10 ^ 60 := Nat.le_trans hb2 (by decide)
  have m1 : mulOk (rv 4 s1) (rv 2 (rs 4 s1)) = true := mulOk_left (by omega)
  have m2 : ∀ y, mulOk (B : Int) y = true := fun y => mulOk_left (by omega)
  have e1 := law_broken_ok (n := n + 3) (c := some s2) (B := b) (show ns.length ≤ 40 by omega) b2 hb1
  have e2 := is_whole_valued_ok (n := n) (c := some s2) (B := b) (show ns.length ≤ 40 by omega) b2 t1 hb1 hb3
  have e3 := first_broken_ok (n := n) (c := some s2) (B := b) (show ns.length ≤ 40 by omega) b2 t1 hb1 hb3
  have e4 := multiplier_ok (n := n) (c := some s2) (B := b) (show ns.length ≤ 40 by omega) b2 t1 hb1 hb3
  rw [← brk_more (k := 61) (show ns.length ≤ max 1 ns.length by omega) (by omega)] at e2 e3
  have dvt : mu ns b ns.length ∣ b := mu_self
  have iff1 := brk_mul1 (ns := ns) (B := b) (n := 61) hb1 (by omega)
  have tp : 0 < mu ns b ns.length := Nat.pos_of_dvd_of_pos dvt hb1
  have tl : mu ns b ns.length ≤ b := Nat.le_of_dvd hb1 dvt
  have min : ∀ k : Nat, brk (ns.map ((k : Int) * ·)) b 61 = none ↔ mu ns b ns.length ∣ k := fun k => brk_mul hb1 (by omega)
  generalize ht : mu ns b ns.length = t at e4 dvt iff1 tp tl min
  generalize hbr : brk ns b 61 = br at e1 e2 e3 iff1
  have e5 : ∀ k : Nat, k ≤ 20000 → prog.call wf (n + 5) 20 [.lst ((ns.map ((k : Int) * ·)).map D.int), .int b] (some s2) = .ok (brkD (brk (ns.map ((k : Int) * ·)) b 61)) (some s2) := fun k hk => by
    refine law_broken_ok_l (n := n + 3) (by simp; omega) (fun x hx => ?_) hb1
    obtain ⟨y, hy, rfl⟩ := List.mem_map.1 hx
    rw [Int.natAbs_mul]
    exact Nat.le_trans (Nat.mul_le_mul (show (k : Int).natAbs ≤ 20000 by omega) (b1 y hy)) (by decide)
  have e6 := e5 t (by omega)
  rw [(min t).2 (Nat.dvd_refl t)] at e6
  have e7 := sort_int (n := n + 4) (c := some s2) (t : Int)
  have e8 := like_ok (k := 1) (n := n + 2) (c := some s2) (d := .lst [.bl br.isNone, brkD br]) (by simp [D.lk, lim_s, lk_brk])
  have mt : ∀ y, mulOk (t : Int) y = true := fun y => mulOk_left (by omega)
  have ll : ns.length < lim := by unfold lim; omega
  have dv : (b : Int) % (t : Int) = 0 := by
    obtain ⟨k, rfl⟩ := dvt
    simp
  have okr : rgOk 2 ((t : Int) + 1) = true := rgOk_of (by decide) (by decide) (by omega) (by omega)
  simp only [Nat.add_assoc, Nat.reduceAdd] at e1 e7 e8
  obtain ⟨e, o, c', h, x5, x6, rfl, ho, rfl⟩ := for_nx (tg := .v 5) (body := evSs (prog.call wf (n + 5)) glV wf bb_law_right_0) (env := [some .cup, some (.tup (ns.map D.int)), some (.int b), some (brkD br), some (.int t), none, none]) (own := []) (c := some s2)
    (fun i e o c' => ∃ (x5 x6 : Option D), e = [some .cup, some (.tup (ns.map D.int)), some (.int b), some (brkD br), some (.int t), x5, x6] ∧ o = [] ∧ c' = some s2) (rg 2 ((t : Int) + 1)) ⟨_, _, rfl, rfl, rfl⟩ (by
      rintro i d e o c' hi ⟨x5, x6, rfl, rfl, rfl⟩
      obtain ⟨rfl, hi'⟩ := rg_at hi
      have nz : ¬ ((2 + (i : Int)) = 0) := by omega
      obtain ⟨k, hk⟩ : ∃ k : Nat, 2 + (i : Int) = k := ⟨2 + i, by omega⟩
      rw [hk] at nz hi' ⊢
      have nk : ¬ (k = 0) := by omega
      refine ⟨_, rfl, to_nx (e := [some .cup, some (.tup (ns.map D.int)), some (.int b), some (brkD br), some (.int t), some (.int k), x6]) (o := []) (c' := some s2) ?_ ⟨_, _, rfl, rfl, rfl⟩⟩
      by_cases z : (t : Int) % (k : Int) = 0
      · have dk : divOk (k : Int) = true := divOk_nat (by omega) (Nat.lt_of_le_of_lt (show k ≤ 20001 by omega) (by decide +kernel))
        have mk : ∀ y, mulOk ((t : Int) / (k : Int)) y = true := fun y => mulOk_left (by
          rw [← Int.natCast_ediv, Int.natAbs_natCast]
          have := Nat.div_le_self t k
          omega)
        have e9 := e5 (t / k) (by have := Nat.div_le_self t k; omega)
        have ne : brk (ns.map (((t / k : Nat) : Int) * ·)) b 61 ≠ none := fun z => by
          have := Nat.le_of_dvd (Nat.div_pos (by omega) (by omega)) ((min _).1 z)
          have := Nat.div_lt_self tp (show 1 < k by omega)
          omega
        obtain ⟨w, hw⟩ := Option.ne_none_iff_exists'.1 ne
        rw [hw, Int.natCast_ediv] at e9
        simp -implicitDefEqProofs [bb_law_right_0, evBody, evSs, evS, evE, evEs, evO, evF, evI, isiD, cmpD, binD, biD, ixD, items, slD, rvD, setTg, ownAfter, ownPut, drops, Tg.slots, wipe, D.noL, freshE, flatL, uses, usesEs, usesO, usesI, ownIt, lstAt, D.isL, nk, z]
        rw [comp_ii (((t : Int) / (k : Int)) * ·) (by intro y _; simp -implicitDefEqProofs [evBody, evSs, evS, evE, evEs, evO, evF, evI, isiD, cmpD, binD, biD, ixD, items, slD, rvD, setTg, ownAfter, ownPut, drops, Tg.slots, wipe, D.noL, freshE, flatL, uses, usesEs, usesO, usesI, ownIt, lstAt, D.isL, mk, dk])]
        simp only [bind_ok, ll, List.length_map, if_true, evEs, evE, at_succ, at_zero, of_some, e9]
        simp -implicitDefEqProofs [evBody, evSs, evS, evE, evEs, evO, evF, evI, isiD, cmpD, binD, biD, ixD, items, slD, rvD, setTg, ownAfter, ownPut, drops, Tg.slots, wipe, D.noL, freshE, flatL, uses, usesEs, usesO, usesI, ownIt, lstAt, D.isL, ll, e9, brkD]
      · simp -implicitDefEqProofs [bb_law_right_0, evBody, evSs, evS, evE, evEs, evO, evF, evI, isiD, cmpD, binD, biD, ixD, items, slD, rvD, setTg, ownAfter, ownPut, drops, Tg.slots, wipe, D.noL, freshE, flatL, uses, usesEs, usesO, usesI, ownIt, lstAt, D.isL, nk, z])
  refine ⟨s2, ?_⟩
  have bq : (br.isNone = decide ((t : Int) = 1)) := by
    cases br with
    | none => simp [iff1.1 rfl]
    | some w =>
      have : ¬ (t = 1) := fun z => by have := iff1.2 z; cases this
      simp; omega
  have tn : ¬ ((t : Int) < 1) := by omega
  have t0 : ¬ (t = 0) := by omega
  rw [callK (fd := f_law_right) rfl]
  cases br with
  | none =>
    have tq : ((t : Int) = 1) = True := eq_true (by have := iff1.1 rfl; omega)
    simp only [brkD, Option.isNone] at e1 e2 e3 e8 h
    rcases hc with ⟨z, e⟩ | ⟨z, s0, e, hB, hs⟩
    · simp -implicitDefEqProofs [f_law_right, b_law_right, evBody, evSs, evS, evE, evEs, evO, evF, evI, isiD, cmpD, binD, biD, ixD, items, slD, rvD, setTg, ownAfter, ownPut, drops, Tg.slots, wipe, D.noL, freshE, flatL, uses, usesEs, usesO, usesI, ownIt, lstAt, D.isL, roll_ok, z, e, m1, m2, eb, hs2, e1, e2, e3, e4, e7, e8, dv, tq, tn, t0]
      rw [comp_ii ((t : Int) * ·) (by intro y _; simp -implicitDefEqProofs [evBody, evSs, evS, evE, evEs, evO, evF, evI, isiD, cmpD, binD, biD, ixD, items, slD, rvD, setTg, ownAfter, ownPut, drops, Tg.slots, wipe, D.noL, freshE, flatL, uses, usesEs, usesO, usesI, ownIt, lstAt, D.isL, mt])]
      simp only [bind_ok, ll, List.length_map, if_true, evEs, evE, at_succ, at_zero, of_some, e6]
      simp -implicitDefEqProofs [evBody, evSs, evS, evE, evEs, evO, evF, evI, isiD, cmpD, binD, biD, ixD, items, slD, rvD, setTg, ownAfter, ownPut, drops, Tg.slots, wipe, D.noL, freshE, flatL, uses, usesEs, usesO, usesI, ownIt, lstAt, D.isL, ll, e6, brkD, okr, h]
    · simp -implicitDefEqProofs [f_law_right, b_law_right, evBody, evSs, evS, evE, evEs, evO, evF, evI, isiD, cmpD, binD, biD, ixD, items, slD, rvD, setTg, ownAfter, ownPut, drops, Tg.slots, wipe, D.noL, freshE, flatL, uses, usesEs, usesO, usesI, ownIt, lstAt, D.isL, roll_ok, z, e, hB, hs, m1, m2, eb, hs2, e1, e2, e3, e4, e7, e8, dv, tq, tn, t0]
      rw [comp_ii ((t : Int) * ·) (by intro y _; simp -implicitDefEqProofs [evBody, evSs, evS, evE, evEs, evO, evF, evI, isiD, cmpD, binD, biD, ixD, items, slD, rvD, setTg, ownAfter, ownPut, drops, Tg.slots, wipe, D.noL, freshE, flatL, uses, usesEs, usesO, usesI, ownIt, lstAt, D.isL, mt])]
      simp only [bind_ok, ll, List.length_map, if_true, evEs, evE, at_succ, at_zero, of_some, e6]
      simp -implicitDefEqProofs [evBody, evSs, evS, evE, evEs, evO, evF, evI, isiD, cmpD, binD, biD, ixD, items, slD, rvD, setTg, ownAfter, ownPut, drops, Tg.slots, wipe, D.noL, freshE, flatL, uses, usesEs, usesO, usesI, ownIt, lstAt, D.isL, ll, e6, brkD, okr, h]
  | some w =>
    have tq : ¬ ((t : Int) = 1) := fun z => by have := iff1.2 (by omega); cases this
    simp only [brkD, Option.isNone] at e1 e2 e3 e8 h
    rcases hc with ⟨z, e⟩ | ⟨z, s0, e, hB, hs⟩
    · simp -implicitDefEqProofs [f_law_right, b_law_right, evBody, evSs, evS, evE, evEs, evO, evF, evI, isiD, cmpD, binD, biD, ixD, items, slD, rvD, setTg, ownAfter, ownPut, drops, Tg.slots, wipe, D.noL, freshE, flatL, uses, usesEs, usesO, usesI, ownIt, lstAt, D.isL, roll_ok, z, e, m1, m2, eb, hs2, e1, e2, e3, e4, e7, e8, dv, tq, tn, t0]
      rw [comp_ii ((t : Int) * ·) (by intro y _; simp -implicitDefEqProofs [evBody, evSs, evS, evE, evEs, evO, evF, evI, isiD, cmpD, binD, biD, ixD, items, slD, rvD, setTg, ownAfter, ownPut, drops, Tg.slots, wipe, D.noL, freshE, flatL, uses, usesEs, usesO, usesI, ownIt, lstAt, D.isL, mt])]
      simp only [bind_ok, ll, List.length_map, if_true, evEs, evE, at_succ, at_zero, of_some, e6]
      simp -implicitDefEqProofs [evBody, evSs, evS, evE, evEs, evO, evF, evI, isiD, cmpD, binD, biD, ixD, items, slD, rvD, setTg, ownAfter, ownPut, drops, Tg.slots, wipe, D.noL, freshE, flatL, uses, usesEs, usesO, usesI, ownIt, lstAt, D.isL, ll, e6, brkD, okr, h]
    · simp -implicitDefEqProofs [f_law_right, b_law_right, evBody, evSs, evS, evE, evEs, evO, evF, evI, isiD, cmpD, binD, biD, ixD, items, slD, rvD, setTg, ownAfter, ownPut, drops, Tg.slots, wipe, D.noL, freshE, flatL, uses, usesEs, usesO, usesI, ownIt, lstAt, D.isL, roll_ok, z, e, hB, hs, m1, m2, eb, hs2, e1, e2, e3, e4, e7, e8, dv, tq, tn, t0]
      rw [comp_ii ((t : Int) * ·) (by intro y _; simp -implicitDefEqProofs [evBody, evSs, evS, evE, evEs, evO, evF, evI, isiD, cmpD, binD, biD, ixD, items, slD, rvD, setTg, ownAfter, ownPut, drops, Tg.slots, wipe, D.noL, freshE, flatL, uses, usesEs, usesO, usesI, ownIt, lstAt, D.isL, mt])]
      simp only [bind_ok, ll, List.length_map, if_true, evEs, evE, at_succ, at_zero, of_some, e6]
      simp -implicitDefEqProofs [evBody, evSs, evS, evE, evEs, evO, evF, evI, isiD, cmpD, binD, biD, ixD, items, slD, rvD, setTg, ownAfter, ownPut, drops, Tg.slots, wipe, D.noL, freshE, flatL, uses, usesEs, usesO, usesI, ownIt, lstAt, D.isL, ll, e6, brkD, okr, h]
theorem fixed_ok : prog.call wf 11 21 [] none = .ok (.bl true) none := R.of_tt (by decide +kernel)
theorem law : ∀ ns : List Int, ns.length ≤ 63 → ∃ wf c, prog.call wf depth 23 [.scr ns] none = .ok (.bl true) c := by
  intro ns hl
  refine ⟨wf, ?_⟩
  obtain ⟨s, hs⟩ := cup_ok (n := 10) hl
  obtain ⟨e, o, c', h, x, s4, rfl, rfl⟩ := for_nx (tg := .v 2) (body := evSs (prog.call wf 11) glV wf bb_law_0) (env := [some (.scr ns), some .cup, none]) (own := []) (c := some s)
    (fun i e o c' => ∃ (x : Option D) (s4 : Int × Int), e = [some (.scr ns), some .cup, x] ∧ c' = some s4) (rg 0 8) ⟨_, _, rfl, rfl⟩ (by
      rintro i d e o c' hi ⟨x, s4, rfl, rfl⟩
      obtain ⟨s5, h5⟩ := law_right_ok (n := 5) (s := s4)
      exact ⟨_, rfl, to_nx (e := [some (.scr ns), some .cup, some d]) (c' := some s5) (by simp -implicitDefEqProofs [bb_law_0, evBody, evSs, evS, evE, evEs, evO, evF, evI, isiD, cmpD, binD, biD, ixD, items, slD, rvD, setTg, ownAfter, ownPut, drops, Tg.slots, wipe, D.noL, freshE, flatL, uses, usesEs, usesO, usesI, ownIt, lstAt, D.isL, h5] <;> first | exact ⟨rfl, rfl⟩ | exact ⟨rfl, rfl, rfl⟩ | rfl) ⟨_, _, rfl, rfl⟩⟩)
  have ok : rgOk 0 8 = true := rgOk_of (by decide) (by decide) (by decide) (by decide)
  refine ⟨some s4, ?_⟩
  unfold depth
  rw [callK (fd := f_law) rfl]
  simp -implicitDefEqProofs [f_law, b_law, evBody, evSs, evS, evE, evEs, evO, evF, evI, isiD, cmpD, binD, biD, ixD, items, slD, rvD, setTg, ownAfter, ownPut, drops, Tg.slots, wipe, D.noL, freshE, flatL, uses, usesEs, usesO, usesI, ownIt, lstAt, D.isL, fixed_ok, hs, ok, h]
end K80
namespace K80
open PySem L2 Ev
/-! ### the look -/
def exN : Str → Option (Addr × Str) := fun _ => none
def tab : Tab := ⟨fnN, glN, glV, exN⟩
theorem d_is_whole : DefOk tab s_is_whole n_is_whole ["value", "low", "high"] f_is_whole := ⟨⟨rfl, rfl, rfl, by decide +kernel, rfl, by decide +kernel, by decide +kernel⟩, rfl, rfl, by decide +kernel⟩
theorem d_is_tuple_of : DefOk tab s_is_tuple_of n_is_tuple_of ["value", "low", "high"] f_is_tuple_of := ⟨⟨rfl, rfl, rfl, by decide +kernel, rfl, by decide +kernel, by decide +kernel⟩, rfl, rfl, by decide +kernel⟩
theorem d_is_poly : DefOk tab s_is_poly n_is_poly ["value"] f_is_poly := ⟨⟨rfl, rfl, rfl, by decide +kernel, rfl, by decide +kernel, by decide +kernel⟩, rfl, rfl, by decide +kernel⟩
theorem d_common_in : DefOk tab s_common_in n_common_in ["one", "other"] f_common_in := ⟨⟨rfl, rfl, rfl, by decide +kernel, rfl, by decide +kernel, by decide +kernel⟩, rfl, rfl, by decide +kernel⟩
theorem d_is_fractional : DefOk tab s_is_fractional n_is_fractional ["value"] f_is_fractional := ⟨⟨rfl, rfl, rfl, by decide +kernel, rfl, by decide +kernel, by decide +kernel⟩, rfl, rfl, by decide +kernel⟩
theorem d_need_fractional : DefOk tab s_need_fractional n_need_fractional ["q"] f_need_fractional := ⟨⟨rfl, rfl, rfl, by decide +kernel, rfl, by decide +kernel, by decide +kernel⟩, rfl, rfl, by decide +kernel⟩
theorem d_value_in : DefOk tab s_value_in n_value_in ["parts", "number"] f_value_in := ⟨⟨rfl, rfl, rfl, by decide +kernel, rfl, by decide +kernel, by decide +kernel⟩, rfl, rfl, by decide +kernel⟩
theorem d_lowest_in : DefOk tab s_lowest_in n_lowest_in ["above", "below"] f_lowest_in := ⟨⟨rfl, rfl, rfl, by decide +kernel, rfl, by decide +kernel, by decide +kernel⟩, rfl, rfl, by decide +kernel⟩
theorem d_broken_in : DefOk tab s_broken_in n_broken_in ["q"] f_broken_in := ⟨⟨rfl, rfl, rfl, by decide +kernel, rfl, by decide +kernel, by decide +kernel⟩, rfl, rfl, by decide +kernel⟩
theorem d_is_whole_valued : DefOk tab s_is_whole_valued n_is_whole_valued ["q"] f_is_whole_valued := ⟨⟨rfl, rfl, rfl, by decide +kernel, rfl, by decide +kernel, by decide +kernel⟩, rfl, rfl, by decide +kernel⟩
theorem d_first_broken : DefOk tab s_first_broken n_first_broken ["q"] f_first_broken := ⟨⟨rfl, rfl, rfl, by decide +kernel, rfl, by decide +kernel, by decide +kernel⟩, rfl, rfl, by decide +kernel⟩
theorem d_multiplier : DefOk tab s_multiplier n_multiplier ["q"] f_multiplier := ⟨⟨rfl, rfl, rfl, by decide +kernel, rfl, by decide +kernel, by decide +kernel⟩, rfl, rfl, by decide +kernel⟩
theorem d_law_cup : DefOk tab s_law_cup n_law_cup ["script"] f_law_cup := ⟨⟨rfl, rfl, rfl, by decide +kernel, rfl, by decide +kernel, by decide +kernel⟩, rfl, rfl, by decide +kernel⟩
theorem d_law_roll : DefOk tab s_law_roll n_law_roll ["cup", "many"] f_law_roll := ⟨⟨rfl, rfl, rfl, by decide +kernel, rfl, by decide +kernel, by decide +kernel⟩, rfl, rfl, by decide +kernel⟩
theorem d_law_sort : DefOk tab s_law_sort n_law_sort ["value"] f_law_sort := ⟨⟨rfl, rfl, rfl, by decide +kernel, rfl, by decide +kernel, by decide +kernel⟩, rfl, rfl, by decide +kernel⟩
theorem d_law_like : DefOk tab s_law_like n_law_like ["one", "other"] f_law_like := ⟨⟨rfl, rfl, rfl, by decide +kernel, rfl, by decide +kernel, by decide +kernel⟩, rfl, rfl, by decide +kernel⟩
theorem d_law_value : DefOk tab s_law_value n_law_value ["f", "x"] f_law_value := ⟨⟨rfl, rfl, rfl, by decide +kernel, rfl, by decide +kernel, by decide +kernel⟩, rfl, rfl, by decide +kernel⟩
theorem d_law_tidied : DefOk tab s_law_tidied n_law_tidied ["parts"] f_law_tidied := ⟨⟨rfl, rfl, rfl, by decide +kernel, rfl, by decide +kernel, by decide +kernel⟩, rfl, rfl, by decide +kernel⟩
theorem d_law_parts : DefOk tab s_law_parts n_law_parts ["cup", "most"] f_law_parts := ⟨⟨rfl, rfl, rfl, by decide +kernel, rfl, by decide +kernel, by decide +kernel⟩, rfl, rfl, by decide +kernel⟩
theorem d_law_binomials : DefOk tab s_law_binomials n_law_binomials ["cup"] f_law_binomials := ⟨⟨rfl, rfl, rfl, by decide +kernel, rfl, by decide +kernel, by decide +kernel⟩, rfl, rfl, by decide +kernel⟩
theorem d_law_broken : DefOk tab s_law_broken n_law_broken ["parts", "below"] f_law_broken := ⟨⟨rfl, rfl, rfl, by decide +kernel, rfl, by decide +kernel, by decide +kernel⟩, rfl, rfl, by decide +kernel⟩
theorem d_law_fixed_right : DefOk tab s_law_fixed_right n_law_fixed_right [] f_law_fixed_right := ⟨⟨rfl, rfl, rfl, by decide +kernel, rfl, by decide +kernel, by decide +kernel⟩, rfl, rfl, by decide +kernel⟩
theorem d_law_right : DefOk tab s_law_right n_law_right ["cup"] f_law_right := ⟨⟨rfl, rfl, rfl, by decide +kernel, rfl, by decide +kernel, by decide +kernel⟩, rfl, rfl, by decide +kernel⟩
theorem d_law : DefOk tab s_law n_law ["script"] f_law := ⟨⟨rfl, rfl, rfl, by decide +kernel, rfl, by decide +kernel, by decide +kernel⟩, rfl, rfl, by decide +kernel⟩
section
variable {K : PySem.W.Frag} {mg : Str → Option Value} {h : Heap} (X : K.In h) (G : h.Ns mainGlobals mg)
include X G
theorem m_is_whole {f : Addr} {od an : Option Addr} {sl : Array (Option Value)} {oc kV dc pm cd ct : Value} (a : PySem.W.nsIn K mainGlobals "is_whole" = some (some (.ref f))) (l : K.lookup f = some ⟨oc, od, .func (PySem.W.fnOf "is_whole" "is_whole" (defArgs s_is_whole) (defBody s_is_whole) (defScope s_is_whole) .none kV dc pm an cd ct), sl⟩) (c : PySem.W.codeIn K cd "is_whole" = true) (k : PySem.W.keepIn K (.ref f) = true) : DefAt K mg tab prog 0 "is_whole" := by
  have F1 := fun_mk (st := s_is_whole) l c k
  exact ⟨"is_whole", f, _, s_is_whole, n_is_whole, ["value", "low", "high"], f_is_whole, F1, PySem.W.mg_of X G a, F1.binds fun _ _ _ _ _ _ us hl => match us, hl with | [_, _, _], _ => rfl, d_is_whole, rfl, by decide +kernel⟩
theorem m_is_tuple_of {f : Addr} {od an : Option Addr} {sl : Array (Option Value)} {oc kV dc pm cd ct : Value} (a : PySem.W.nsIn K mainGlobals "is_tuple_of" = some (some (.ref f))) (l : K.lookup f = some ⟨oc, od, .func (PySem.W.fnOf "is_tuple_of" "is_tuple_of" (defArgs s_is_tuple_of) (defBody s_is_tuple_of) (defScope s_is_tuple_of) .none kV dc pm an cd ct), sl⟩) (c : PySem.W.codeIn K cd "is_tuple_of" = true) (k : PySem.W.keepIn K (.ref f) = true) : DefAt K mg tab prog 1 "is_tuple_of" := by
  have F1 := fun_mk (st := s_is_tuple_of) l c k
  exact ⟨"is_tuple_of", f, _, s_is_tuple_of, n_is_tuple_of, ["value", "low", "high"], f_is_tuple_of, F1, PySem.W.mg_of X G a, F1.binds fun _ _ _ _ _ _ us hl => match us, hl with | [_, _, _], _ => rfl, d_is_tuple_of, rfl, by decide +kernel⟩
theorem m_is_poly {f : Addr} {od an : Option Addr} {sl : Array (Option Value)} {oc kV dc pm cd ct : Value} (a : PySem.W.nsIn K mainGlobals "is_poly" = some (some (.ref f))) (l : K.lookup f = some ⟨oc, od, .func (PySem.W.fnOf "is_poly" "is_poly" (defArgs s_is_poly) (defBody s_is_poly) (defScope s_is_poly) .none kV dc pm an cd ct), sl⟩) (c : PySem.W.codeIn K cd "is_poly" = true) (k : PySem.W.keepIn K (.ref f) = true) : DefAt K mg tab prog 2 "is_poly" := by
  have F1 := fun_mk (st := s_is_poly) l c k
  exact ⟨"is_poly", f, _, s_is_poly, n_is_poly, ["value"], f_is_poly, F1, PySem.W.mg_of X G a, F1.binds fun _ _ _ _ _ _ us hl => match us, hl with | [_], _ => rfl, d_is_poly, rfl, by decide +kernel⟩
theorem m_common_in {f : Addr} {od an : Option Addr} {sl : Array (Option Value)} {oc kV dc pm cd ct : Value} (a : PySem.W.nsIn K mainGlobals "common_in" = some (some (.ref f))) (l : K.lookup f = some ⟨oc, od, .func (PySem.W.fnOf "common_in" "common_in" (defArgs s_common_in) (defBody s_common_in) (defScope s_common_in) .none kV dc pm an cd ct), sl⟩) (c : PySem.W.codeIn K cd "common_in" = true) (k : PySem.W.keepIn K (.ref f) = true) : DefAt K mg tab prog 3 "common_in" := by
  have F1 := fun_mk (st := s_common_in) l c k
  exact ⟨"common_in", f, _, s_common_in, n_common_in, ["one", "other"], f_common_in, F1, PySem.W.mg_of X G a, F1.binds fun _ _ _ _ _ _ us hl => match us, hl with | [_, _], _ => rfl, d_common_in, rfl, by decide +kernel⟩
theorem m_is_fractional {f : Addr} {od an : Option Addr} {sl : Array (Option Value)} {oc kV dc pm cd ct : Value} (a : PySem.W.nsIn K mainGlobals "is_fractional" = some (some (.ref f))) (l : K.lookup f = some ⟨oc, od, .func (PySem.W.fnOf "is_fractional" "is_fractional" (defArgs s_is_fractional) (defBody s_is_fractional) (defScope s_is_fractional) .none kV dc pm an cd ct), sl⟩) (c : PySem.W.codeIn K cd "is_fractional" = true) (k : PySem.W.keepIn K (.ref f) = true) : DefAt K mg tab prog 4 "is_fractional" := by
  have F1 := fun_mk (st := s_is_fractional) l c k
  exact ⟨"is_fractional", f, _, s_is_fractional, n_is_fractional, ["value"], f_is_fractional, F1, PySem.W.mg_of X G a, F1.binds fun _ _ _ _ _ _ us hl => match us, hl with | [_], _ => rfl, d_is_fractional, rfl, by decide +kernel⟩
theorem m_need_fractional {f : Addr} {od an : Option Addr} {sl : Array (Option Value)} {oc kV dc pm cd ct : Value} (a : PySem.W.nsIn K mainGlobals "need_fractional" = some (some (.ref f))) (l : K.lookup f = some ⟨oc, od, .func (PySem.W.fnOf "need_fractional" "need_fractional" (defArgs s_need_fractional) (defBody s_need_fractional) (defScope s_need_fractional) .none kV dc pm an cd ct), sl⟩) (c : PySem.W.codeIn K cd "need_fractional" = true) (k : PySem.W.keepIn K (.ref f) = true) : DefAt K mg tab prog 5 "need_fractional" := by
  have F1 := fun_mk (st := s_need_fractional) l c k
  exact ⟨"need_fractional", f, _, s_need_fractional, n_need_fractional, ["q"], f_need_fractional, F1, PySem.W.mg_of X G a, F1.binds fun _ _ _ _ _ _ us hl => match us, hl with | [_], _ => rfl, d_need_fractional, rfl, by decide +kernel⟩
theorem m_value_in {f : Addr} {od an : Option Addr} {sl : Array (Option Value)} {oc kV dc pm cd ct : Value} (a : PySem.W.nsIn K mainGlobals "value_in" = some (some (.ref f))) (l : K.lookup f = some ⟨oc, od, .func (PySem.W.fnOf "value_in" "value_in" (defArgs s_value_in) (defBody s_value_in) (defScope s_value_in) .none kV dc pm an cd ct), sl⟩) (c : PySem.W.codeIn K cd "value_in" = true) (k : PySem.W.keepIn K (.ref f) = true) : DefAt K mg tab prog 6 "value_in" := by
  have F1 := fun_mk (st := s_value_in) l c k
  exact ⟨"value_in", f, _, s_value_in, n_value_in, ["parts", "number"], f_value_in, F1, PySem.W.mg_of X G a, F1.binds fun _ _ _ _ _ _ us hl => match us, hl with | [_, _], _ => rfl, d_value_in, rfl, by decide +kernel⟩
theorem m_lowest_in {f : Addr} {od an : Option Addr} {sl : Array (Option Value)} {oc kV dc pm cd ct : Value} (a : PySem.W.nsIn K mainGlobals "lowest_in" = some (some (.ref f))) (l : K.lookup f = some ⟨oc, od, .func (PySem.W.fnOf "lowest_in" "lowest_in" (defArgs s_lowest_in) (defBody s_lowest_in) (defScope s_lowest_in) .none kV dc pm an cd ct), sl⟩) (c : PySem.W.codeIn K cd "lowest_in" = true) (k : PySem.W.keepIn K (.ref f) = true) : DefAt K mg tab prog 7 "lowest_in" := by
  have F1 := fun_mk (st := s_lowest_in) l c k
  exact ⟨"lowest_in", f, _, s_lowest_in, n_lowest_in, ["above", "below"], f_lowest_in, F1, PySem.W.mg_of X G a, F1.binds fun _ _ _ _ _ _ us hl => match us, hl with | [_, _], _ => rfl, d_lowest_in, rfl, by decide +kernel⟩
theorem m_broken_in {f : Addr} {od an : Option Addr} {sl : Array (Option Value)} {oc kV dc pm cd ct : Value} (a : PySem.W.nsIn K mainGlobals "broken_in" = some (some (.ref f))) (l : K.lookup f = some ⟨oc, od, .func (PySem.W.fnOf "broken_in" "broken_in" (defArgs s_broken_in) (defBody s_broken_in) (defScope s_broken_in) .none kV dc pm an cd ct), sl⟩) (c : PySem.W.codeIn K cd "broken_in" = true) (k : PySem.W.keepIn K (.ref f) = true) : DefAt K mg tab prog 8 "broken_in" := by
  have F1 := fun_mk (st := s_broken_in) l c k
  exact ⟨"broken_in", f, _, s_broken_in, n_broken_in, ["q"], f_broken_in, F1, PySem.W.mg_of X G a, F1.binds fun _ _ _ _ _ _ us hl => match us, hl with | [_], _ => rfl, d_broken_in, rfl, by decide +kernel⟩
theorem m_is_whole_valued {f : Addr} {od an : Option Addr} {sl : Array (Option Value)} {oc kV dc pm cd ct : Value} (a : PySem.W.nsIn K mainGlobals "is_whole_valued" = some (some (.ref f))) (l : K.lookup f = some ⟨oc, od, .func (PySem.W.fnOf "is_whole_valued" "is_whole_valued" (defArgs s_is_whole_valued) (defBody s_is_whole_valued) (defScope s_is_whole_valued) .none kV dc pm an cd ct), sl⟩) (c : PySem.W.codeIn K cd "is_whole_valued" = true) (k : PySem.W.keepIn K (.ref f) = true) : DefAt K mg tab prog 9 "is_whole_valued" := by
  have F1 := fun_mk (st := s_is_whole_valued) l c k
  exact ⟨"is_whole_valued", f, _, s_is_whole_valued, n_is_whole_valued, ["q"], f_is_whole_valued, F1, PySem.W.mg_of X G a, F1.binds fun _ _ _ _ _ _ us hl => match us, hl with | [_], _ => rfl, d_is_whole_valued, rfl, by decide +kernel⟩
theorem m_first_broken {f : Addr} {od an : Option Addr} {sl : Array (Option Value)} {oc kV dc pm cd ct : Value} (a : PySem.W.nsIn K mainGlobals "first_broken" = some (some (.ref f))) (l : K.lookup f = some ⟨oc, od, .func (PySem.W.fnOf "first_broken" "first_broken" (defArgs s_first_broken) (defBody s_first_broken) (defScope s_first_broken) .none kV dc pm an cd ct), sl⟩) (c : PySem.W.codeIn K cd "first_broken" = true) (k : PySem.W.keepIn K (.ref f) = true) : DefAt K mg tab prog 10 "first_broken" := by
  have F1 := fun_mk (st := s_first_broken) l c k
  exact ⟨"first_broken", f, _, s_first_broken, n_first_broken, ["q"], f_first_broken, F1, PySem.W.mg_of X G a, F1.binds fun _ _ _ _ _ _ us hl => match us, hl with | [_], _ => rfl, d_first_broken, rfl, by decide +kernel⟩
theorem m_multiplier {f : Addr} {od an : Option Addr} {sl : Array (Option Value)} {oc kV dc pm cd ct : Value} (a : PySem.W.nsIn K mainGlobals "multiplier" = some (some (.ref f))) (l : K.lookup f = some ⟨oc, od, .func (PySem.W.fnOf "multiplier" "multiplier" (defArgs s_multiplier) (defBody s_multiplier) (defScope s_multiplier) .none kV dc pm an cd ct), sl⟩) (c : PySem.W.codeIn K cd "multiplier" = true) (k : PySem.W.keepIn K (.ref f) = true) : DefAt K mg tab prog 11 "multiplier" := by
  have F1 := fun_mk (st := s_multiplier) l c k
  exact ⟨"multiplier", f, _, s_multiplier, n_multiplier, ["q"], f_multiplier, F1, PySem.W.mg_of X G a, F1.binds fun _ _ _ _ _ _ us hl => match us, hl with | [_], _ => rfl, d_multiplier, rfl, by decide +kernel⟩
theorem m_law_cup {f : Addr} {od an : Option Addr} {sl : Array (Option Value)} {oc kV dc pm cd ct : Value} (a : PySem.W.nsIn K mainGlobals "_law_cup" = some (some (.ref f))) (l : K.lookup f = some ⟨oc, od, .func (PySem.W.fnOf "_law_cup" "_law_cup" (defArgs s_law_cup) (defBody s_law_cup) (defScope s_law_cup) .none kV dc pm an cd ct), sl⟩) (c : PySem.W.codeIn K cd "_law_cup" = true) (k : PySem.W.keepIn K (.ref f) = true) : DefAt K mg tab prog 12 "_law_cup" := by
  have F1 := fun_mk (st := s_law_cup) l c k
  exact ⟨"_law_cup", f, _, s_law_cup, n_law_cup, ["script"], f_law_cup, F1, PySem.W.mg_of X G a, F1.binds fun _ _ _ _ _ _ us hl => match us, hl with | [_], _ => rfl, d_law_cup, rfl, by decide +kernel⟩
theorem m_law_roll {f : Addr} {od an : Option Addr} {sl : Array (Option Value)} {oc kV dc pm cd ct : Value} (a : PySem.W.nsIn K mainGlobals "_law_roll" = some (some (.ref f))) (l : K.lookup f = some ⟨oc, od, .func (PySem.W.fnOf "_law_roll" "_law_roll" (defArgs s_law_roll) (defBody s_law_roll) (defScope s_law_roll) .none kV dc pm an cd ct), sl⟩) (c : PySem.W.codeIn K cd "_law_roll" = true) (k : PySem.W.keepIn K (.ref f) = true) : DefAt K mg tab prog 13 "_law_roll" := by
  have F1 := fun_mk (st := s_law_roll) l c k
  exact ⟨"_law_roll", f, _, s_law_roll, n_law_roll, ["cup", "many"], f_law_roll, F1, PySem.W.mg_of X G a, F1.binds fun _ _ _ _ _ _ us hl => match us, hl with | [_, _], _ => rfl, d_law_roll, rfl, by decide +kernel⟩
theorem m_law_sort {f : Addr} {od an : Option Addr} {sl : Array (Option Value)} {oc kV dc pm cd ct : Value} (a : PySem.W.nsIn K mainGlobals "_law_sort" = some (some (.ref f))) (l : K.lookup f = some ⟨oc, od, .func (PySem.W.fnOf "_law_sort" "_law_sort" (defArgs s_law_sort) (defBody s_law_sort) (defScope s_law_sort) .none kV dc pm an cd ct), sl⟩) (c : PySem.W.codeIn K cd "_law_sort" = true) (k : PySem.W.keepIn K (.ref f) = true) : DefAt K mg tab prog 14 "_law_sort" := by
  have F1 := fun_mk (st := s_law_sort) l c k
  exact ⟨"_law_sort", f, _, s_law_sort, n_law_sort, ["value"], f_law_sort, F1, PySem.W.mg_of X G a, F1.binds fun _ _ _ _ _ _ us hl => match us, hl with | [_], _ => rfl, d_law_sort, rfl, by decide +kernel⟩
theorem m_law_like {f : Addr} {od an : Option Addr} {sl : Array (Option Value)} {oc kV dc pm cd ct : Value} (a : PySem.W.nsIn K mainGlobals "_law_like" = some (some (.ref f))) (l : K.lookup f = some ⟨oc, od, .func (PySem.W.fnOf "_law_like" "_law_like" (defArgs s_law_like) (defBody s_law_like) (defScope s_law_like) .none kV dc pm an cd ct), sl⟩) (c : PySem.W.codeIn K cd "_law_like" = true) (k : PySem.W.keepIn K (.ref f) = true) : DefAt K mg tab prog 15 "_law_like" := by
  have F1 := fun_mk (st := s_law_like) l c k
  exact ⟨"_law_like", f, _, s_law_like, n_law_like, ["one", "other"], f_law_like, F1, PySem.W.mg_of X G a, F1.binds fun _ _ _ _ _ _ us hl => match us, hl with | [_, _], _ => rfl, d_law_like, rfl, by decide +kernel⟩
theorem m_law_value {f : Addr} {od an : Option Addr} {sl : Array (Option Value)} {oc kV dc pm cd ct : Value} (a : PySem.W.nsIn K mainGlobals "_law_value" = some (some (.ref f))) (l : K.lookup f = some ⟨oc, od, .func (PySem.W.fnOf "_law_value" "_law_value" (defArgs s_law_value) (defBody s_law_value) (defScope s_law_value) .none kV dc pm an cd ct), sl⟩) (c : PySem.W.codeIn K cd "_law_value" = true) (k : PySem.W.keepIn K (.ref f) = true) : DefAt K mg tab prog 16 "_law_value" := by
  have F1 := fun_mk (st := s_law_value) l c k
  exact ⟨"_law_value", f, _, s_law_value, n_law_value, ["f", "x"], f_law_value, F1, PySem.W.mg_of X G a, F1.binds fun _ _ _ _ _ _ us hl => match us, hl with | [_, _], _ => rfl, d_law_value, rfl, by decide +kernel⟩
theorem m_law_tidied {f : Addr} {od an : Option Addr} {sl : Array (Option Value)} {oc kV dc pm cd ct : Value} (a : PySem.W.nsIn K mainGlobals "_law_tidied" = some (some (.ref f))) (l : K.lookup f = some ⟨oc, od, .func (PySem.W.fnOf "_law_tidied" "_law_tidied" (defArgs s_law_tidied) (defBody s_law_tidied) (defScope s_law_tidied) .none kV dc pm an cd ct), sl⟩) (c : PySem.W.codeIn K cd "_law_tidied" = true) (k : PySem.W.keepIn K (.ref f) = true) : DefAt K mg tab prog 17 "_law_tidied" := by
  have F1 := fun_mk (st := s_law_tidied) l c k
  exact ⟨"_law_tidied", f, _, s_law_tidied, n_law_tidied, ["parts"], f_law_tidied, F1, PySem.W.mg_of X G a, F1.binds fun _ _ _ _ _ _ us hl => match us, hl with | [_], _ => rfl, d_law_tidied, rfl, by decide +kernel⟩
theorem m_law_parts {f : Addr} {od an : Option Addr} {sl : Array (Option Value)} {oc kV dc pm cd ct : Value} (a : PySem.W.nsIn K mainGlobals "_law_parts" = some (some (.ref f))) (l : K.lookup f = some ⟨oc, od, .func (PySem.W.fnOf "_law_parts" "_law_parts" (defArgs s_law_parts) (defBody s_law_parts) (defScope s_law_parts) .none kV dc pm an cd ct), sl⟩) (c : PySem.W.codeIn K cd "_law_parts" = true) (k : PySem.W.keepIn K (.ref f) = true) : DefAt K mg tab prog 18 "_law_parts" := by
  have F1 := fun_mk (st := s_law_parts) l c k
  exact ⟨"_law_parts", f, _, s_law_parts, n_law_parts, ["cup", "most"], f_law_parts, F1, PySem.W.mg_of X G a, F1.binds fun _ _ _ _ _ _ us hl => match us, hl with | [_, _], _ => rfl, d_law_parts, rfl, by decide +kernel⟩
theorem m_law_binomials {f : Addr} {od an : Option Addr} {sl : Array (Option Value)} {oc kV dc pm cd ct : Value} (a : PySem.W.nsIn K mainGlobals "_law_binomials" = some (some (.ref f))) (l : K.lookup f = some ⟨oc, od, .func (PySem.W.fnOf "_law_binomials" "_law_binomials" (defArgs s_law_binomials) (defBody s_law_binomials) (defScope s_law_binomials) .none kV dc pm an cd ct), sl⟩) (c : PySem.W.codeIn K cd "_law_binomials" = true) (k : PySem.W.keepIn K (.ref f) = true) : DefAt K mg tab prog 19 "_law_binomials" := by
  have F1 := fun_mk (st := s_law_binomials) l c k
  exact ⟨"_law_binomials", f, _, s_law_binomials, n_law_binomials, ["cup"], f_law_binomials, F1, PySem.W.mg_of X G a, F1.binds fun _ _ _ _ _ _ us hl => match us, hl with | [_], _ => rfl, d_law_binomials, rfl, by decide +kernel⟩
theorem m_law_broken {f : Addr} {od an : Option Addr} {sl : Array (Option Value)} {oc kV dc pm cd ct : Value} (a : PySem.W.nsIn K mainGlobals "_law_broken" = some (some (.ref f))) (l : K.lookup f = some ⟨oc, od, .func (PySem.W.fnOf "_law_broken" "_law_broken" (defArgs s_law_broken) (defBody s_law_broken) (defScope s_law_broken) .none kV dc pm an cd ct), sl⟩) (c : PySem.W.codeIn K cd "_law_broken" = true) (k : PySem.W.keepIn K (.ref f) = true) : DefAt K mg tab prog 20 "_law_broken" := by
  have F1 := fun_mk (st := s_law_broken) l c k
  exact ⟨"_law_broken", f, _, s_law_broken, n_law_broken, ["parts", "below"], f_law_broken, F1, PySem.W.mg_of X G a, F1.binds fun _ _ _ _ _ _ us hl => match us, hl with | [_, _], _ => rfl, d_law_broken, rfl, by decide +kernel⟩
theorem m_law_fixed_right {f : Addr} {od an : Option Addr} {sl : Array (Option Value)} {oc kV dc pm cd ct : Value} (a : PySem.W.nsIn K mainGlobals "_law_fixed_right" = some (some (.ref f))) (l : K.lookup f = some ⟨oc, od, .func (PySem.W.fnOf "_law_fixed_right" "_law_fixed_right" (defArgs s_law_fixed_right) (defBody s_law_fixed_right) (defScope s_law_fixed_right) .none kV dc pm an cd ct), sl⟩) (c : PySem.W.codeIn K cd "_law_fixed_right" = true) (k : PySem.W.keepIn K (.ref f) = true) : DefAt K mg tab prog 21 "_law_fixed_right" := by
  have F1 := fun_mk (st := s_law_fixed_right) l c k
  exact ⟨"_law_fixed_right", f, _, s_law_fixed_right, n_law_fixed_right, [], f_law_fixed_right, F1, PySem.W.mg_of X G a, F1.binds fun _ _ _ _ _ _ us hl => match us, hl with | [], _ => rfl, d_law_fixed_right, rfl, by decide +kernel⟩
theorem m_law_right {f : Addr} {od an : Option Addr} {sl : Array (Option Value)} {oc kV dc pm cd ct : Value} (a : PySem.W.nsIn K mainGlobals "_law_right" = some (some (.ref f))) (l : K.lookup f = some ⟨oc, od, .func (PySem.W.fnOf "_law_right" "_law_right" (defArgs s_law_right) (defBody s_law_right) (defScope s_law_right) .none kV dc pm an cd ct), sl⟩) (c : PySem.W.codeIn K cd "_law_right" = true) (k : PySem.W.keepIn K (.ref f) = true) : DefAt K mg tab prog 22 "_law_right" := by
  have F1 := fun_mk (st := s_law_right) l c k
  exact ⟨"_law_right", f, _, s_law_right, n_law_right, ["cup"], f_law_right, F1, PySem.W.mg_of X G a, F1.binds fun _ _ _ _ _ _ us hl => match us, hl with | [_], _ => rfl, d_law_right, rfl, by decide +kernel⟩
theorem m_law {f : Addr} {od an : Option Addr} {sl : Array (Option Value)} {oc kV dc pm cd ct : Value} (a : PySem.W.nsIn K mainGlobals "law" = some (some (.ref f))) (l : K.lookup f = some ⟨oc, od, .func (PySem.W.fnOf "law" "law" (defArgs s_law) (defBody s_law) (defScope s_law) .none kV dc pm an cd ct), sl⟩) (c : PySem.W.codeIn K cd "law" = true) (k : PySem.W.keepIn K (.ref f) = true) : DefAt K mg tab prog 23 "law" := by
  have F1 := fun_mk (st := s_law) l c k
  exact ⟨"law", f, _, s_law, n_law, ["script"], f_law, F1, PySem.W.mg_of X G a, F1.binds fun _ _ _ _ _ _ us hl => match us, hl with | [_], _ => rfl, d_law, rfl, by decide +kernel⟩
end
/-! ### what the top has written; the law -/
theorem all_mk {l : PySem.W.OpenLaw} {w : World} {K : PySem.W.Frag} {h : Heap} {mg : Str → Option Value} {fa : Addr} (X : K.In h) (G : h.Ns mainGlobals mg) (hfa : mg "law" = some (.ref fa))
    (lw : ∀ ns : List Int, ns.length ≤ 63 → ∃ wf c, prog.call wf depth 23 [.scr ns] none = .ok (.bl true) c)
    {f0 : Addr} {od0 an0 : Option Addr} {sl0 : Array (Option Value)} {oc0 kV0 dc0 pm0 cd0 ct0 : Value}
    {f1 : Addr} {od1 an1 : Option Addr} {sl1 : Array (Option Value)} {oc1 kV1 dc1 pm1 cd1 ct1 : Value}
    {f2 : Addr} {od2 an2 : Option Addr} {sl2 : Array (Option Value)} {oc2 kV2 dc2 pm2 cd2 ct2 : Value}
    {f3 : Addr} {od3 an3 : Option Addr} {sl3 : Array (Option Value)} {oc3 kV3 dc3 pm3 cd3 ct3 : Value}
    {f4 : Addr} {od4 an4 : Option Addr} {sl4 : Array (Option Value)} {oc4 kV4 dc4 pm4 cd4 ct4 : Value}
    {f5 : Addr} {od5 an5 : Option Addr} {sl5 : Array (Option Value)} {oc5 kV5 dc5 pm5 cd5 ct5 : Value}
    {f6 : Addr} {od6 an6 : Option Addr} {sl6 : Array (Option Value)} {oc6 kV6 dc6 pm6 cd6 ct6 : Value}
    {f7 : Addr} {od7 an7 : Option Addr} {sl7 : Array (Option Value)} {oc7 kV7 dc7 pm7 cd7 ct7 : Value}
    {f8 : Addr} {od8 an8 : Option Addr} {sl8 : Array (Option Value)} {oc8 kV8 dc8 pm8 cd8 ct8 : Value}
    {f9 : Addr} {od9 an9 : Option Addr} {sl9 : Array (Option Value)} {oc9 kV9 dc9 pm9 cd9 ct9 : Value}
    {f10 : Addr} {od10 an10 : Option Addr} {sl10 : Array (Option Value)} {oc10 kV10 dc10 pm10 cd10 ct10 : Value}
    {f11 : Addr} {od11 an11 : Option Addr} {sl11 : Array (Option Value)} {oc11 kV11 dc11 pm11 cd11 ct11 : Value}
    {f12 : Addr} {od12 an12 : Option Addr} {sl12 : Array (Option Value)} {oc12 kV12 dc12 pm12 cd12 ct12 : Value}
    {f13 : Addr} {od13 an13 : Option Addr} {sl13 : Array (Option Value)} {oc13 kV13 dc13 pm13 cd13 ct13 : Value}
    {f14 : Addr} {od14 an14 : Option Addr} {sl14 : Array (Option Value)} {oc14 kV14 dc14 pm14 cd14 ct14 : Value}
    {f15 : Addr} {od15 an15 : Option Addr} {sl15 : Array (Option Value)} {oc15 kV15 dc15 pm15 cd15 ct15 : Value}
    {f16 : Addr} {od16 an16 : Option Addr} {sl16 : Array (Option Value)} {oc16 kV16 dc16 pm16 cd16 ct16 : Value}
    {f17 : Addr} {od17 an17 : Option Addr} {sl17 : Array (Option Value)} {oc17 kV17 dc17 pm17 cd17 ct17 : Value}
    {f18 : Addr} {od18 an18 : Option Addr} {sl18 : Array (Option Value)} {oc18 kV18 dc18 pm18 cd18 ct18 : Value}
    {f19 : Addr} {od19 an19 : Option Addr} {sl19 : Array (Option Value)} {oc19 kV19 dc19 pm19 cd19 ct19 : Value}
    {f20 : Addr} {od20 an20 : Option Addr} {sl20 : Array (Option Value)} {oc20 kV20 dc20 pm20 cd20 ct20 : Value}
    {f21 : Addr} {od21 an21 : Option Addr} {sl21 : Array (Option Value)} {oc21 kV21 dc21 pm21 cd21 ct21 : Value}
    {f22 : Addr} {od22 an22 : Option Addr} {sl22 : Array (Option Value)} {oc22 kV22 dc22 pm22 cd22 ct22 : Value}
    {f23 : Addr} {od23 an23 : Option Addr} {sl23 : Array (Option Value)} {oc23 kV23 dc23 pm23 cd23 ct23 : Value}
    {t0 : PySem.Tok}
    {t1 : PySem.Tok}
    {t2 : PySem.Tok}
    (a0 : PySem.W.nsIn K mainGlobals "is_whole" = some (some (.ref f0))) (l0 : K.lookup f0 = some ⟨oc0, od0, .func (PySem.W.fnOf "is_whole" "is_whole" (defArgs s_is_whole) (defBody s_is_whole) (defScope s_is_whole) .none kV0 dc0 pm0 an0 cd0 ct0), sl0⟩) (c0 : PySem.W.codeIn K cd0 "is_whole" = true) (k0 : PySem.W.keepIn K (.ref f0) = true)
    (a1 : PySem.W.nsIn K mainGlobals "is_tuple_of" = some (some (.ref f1))) (l1 : K.lookup f1 = some ⟨oc1, od1, .func (PySem.W.fnOf "is_tuple_of" "is_tuple_of" (defArgs s_is_tuple_of) (defBody s_is_tuple_of) (defScope s_is_tuple_of) .none kV1 dc1 pm1 an1 cd1 ct1), sl1⟩) (c1 : PySem.W.codeIn K cd1 "is_tuple_of" = true) (k1 : PySem.W.keepIn K (.ref f1) = true)
    (a2 : PySem.W.nsIn K mainGlobals "is_poly" = some (some (.ref f2))) (l2 : K.lookup f2 = some ⟨oc2, od2, .func (PySem.W.fnOf "is_poly" "is_poly" (defArgs s_is_poly) (defBody s_is_poly) (defScope s_is_poly) .none kV2 dc2 pm2 an2 cd2 ct2), sl2⟩) (c2 : PySem.W.codeIn K cd2 "is_poly" = true) (k2 : PySem.W.keepIn K (.ref f2) = true)
    (a3 : PySem.W.nsIn K mainGlobals "common_in" = some (some (.ref f3))) (l3 : K.lookup f3 = some ⟨oc3, od3, .func (PySem.W.fnOf "common_in" "common_in" (defArgs s_common_in) (defBody s_common_in) (defScope s_common_in) .none kV3 dc3 pm3 an3 cd3 ct3), sl3⟩) (c3 : PySem.W.codeIn K cd3 "common_in" = true) (k3 : PySem.W.keepIn K (.ref f3) = true)
    (a4 : PySem.W.nsIn K mainGlobals "is_fractional" = some (some (.ref f4))) (l4 : K.lookup f4 = some ⟨oc4, od4, .func (PySem.W.fnOf "is_fractional" "is_fractional" (defArgs s_is_fractional) (defBody s_is_fractional) (defScope s_is_fractional) .none kV4 dc4 pm4 an4 cd4 ct4), sl4⟩) (c4 : PySem.W.codeIn K cd4 "is_fractional" = true) (k4 : PySem.W.keepIn K (.ref f4) = true)
    (a5 : PySem.W.nsIn K mainGlobals "need_fractional" = some (some (.ref f5))) (l5 : K.lookup f5 = some ⟨oc5, od5, .func (PySem.W.fnOf "need_fractional" "need_fractional" (defArgs s_need_fractional) (defBody s_need_fractional) (defScope s_need_fractional) .none kV5 dc5 pm5 an5 cd5 ct5), sl5⟩) (c5 : PySem.W.codeIn K cd5 "need_fractional" = true) (k5 : PySem.W.keepIn K (.ref f5) = true)
    (a6 : PySem.W.nsIn K mainGlobals "value_in" = some (some (.ref f6))) (l6 : K.lookup f6 = some ⟨oc6, od6, .func (PySem.W.fnOf "value_in" "value_in" (defArgs s_value_in) (defBody s_value_in) (defScope s_value_in) .none kV6 dc6 pm6 an6 cd6 ct6), sl6⟩) (c6 : PySem.W.codeIn K cd6 "value_in" = true) (k6 : PySem.W.keepIn K (.ref f6) = true)
    (a7 : PySem.W.nsIn K mainGlobals "lowest_in" = some (some (.ref f7))) (l7 : K.lookup f7 = some ⟨oc7, od7, .func (PySem.W.fnOf "lowest_in" "lowest_in" (defArgs s_lowest_in) (defBody s_lowest_in) (defScope s_lowest_in) .none kV7 dc7 pm7 an7 cd7 ct7), sl7⟩) (c7 : PySem.W.codeIn K cd7 "lowest_in" = true) (k7 : PySem.W.keepIn K (.ref f7) = true)
    (a8 : PySem.W.nsIn K mainGlobals "broken_in" = some (some (.ref f8))) (l8 : K.lookup f8 = some ⟨oc8, od8, .func (PySem.W.fnOf "broken_in" "broken_in" (defArgs s_broken_in) (defBody s_broken_in) (defScope s_broken_in) .none kV8 dc8 pm8 an8 cd8 ct8), sl8⟩) (c8 : PySem.W.codeIn K cd8 "broken_in" = true) (k8 : PySem.W.keepIn K (.ref f8) = true)
    (a9 : PySem.W.nsIn K mainGlobals "is_whole_valued" = some (some (.ref f9))) (l9 : K.lookup f9 = some ⟨oc9, od9, .func (PySem.W.fnOf "is_whole_valued" "is_whole_valued" (defArgs s_is_whole_valued) (defBody s_is_whole_valued) (defScope s_is_whole_valued) .none kV9 dc9 pm9 an9 cd9 ct9), sl9⟩) (c9 : PySem.W.codeIn K cd9 "is_whole_valued" = true) (k9 : PySem.W.keepIn K (.ref f9) = true)
    (a10 : PySem.W.nsIn K mainGlobals "first_broken" = some (some (.ref f10))) (l10 : K.lookup f10 = some ⟨oc10, od10, .func (PySem.W.fnOf "first_broken" "first_broken" (defArgs s_first_broken) (defBody s_first_broken) (defScope s_first_broken) .none kV10 dc10 pm10 an10 cd10 ct10), sl10⟩) (c10 : PySem.W.codeIn K cd10 "first_broken" = true) (k10 : PySem.W.keepIn K (.ref f10) = true)
    (a11 : PySem.W.nsIn K mainGlobals "multiplier" = some (some (.ref f11))) (l11 : K.lookup f11 = some ⟨oc11, od11, .func (PySem.W.fnOf "multiplier" "multiplier" (defArgs s_multiplier) (defBody s_multiplier) (defScope s_multiplier) .none kV11 dc11 pm11 an11 cd11 ct11), sl11⟩) (c11 : PySem.W.codeIn K cd11 "multiplier" = true) (k11 : PySem.W.keepIn K (.ref f11) = true)
    (a12 : PySem.W.nsIn K mainGlobals "_law_cup" = some (some (.ref f12))) (l12 : K.lookup f12 = some ⟨oc12, od12, .func (PySem.W.fnOf "_law_cup" "_law_cup" (defArgs s_law_cup) (defBody s_law_cup) (defScope s_law_cup) .none kV12 dc12 pm12 an12 cd12 ct12), sl12⟩) (c12 : PySem.W.codeIn K cd12 "_law_cup" = true) (k12 : PySem.W.keepIn K (.ref f12) = true)
    (a13 : PySem.W.nsIn K mainGlobals "_law_roll" = some (some (.ref f13))) (l13 : K.lookup f13 = some ⟨oc13, od13, .func (PySem.W.fnOf "_law_roll" "_law_roll" (defArgs s_law_roll) (defBody s_law_roll) (defScope s_law_roll) .none kV13 dc13 pm13 an13 cd13 ct13), sl13⟩) (c13 : PySem.W.codeIn K cd13 "_law_roll" = true) (k13 : PySem.W.keepIn K (.ref f13) = true)
    (a14 : PySem.W.nsIn K mainGlobals "_law_sort" = some (some (.ref f14))) (l14 : K.lookup f14 = some ⟨oc14, od14, .func (PySem.W.fnOf "_law_sort" "_law_sort" (defArgs s_law_sort) (defBody s_law_sort) (defScope s_law_sort) .none kV14 dc14 pm14 an14 cd14 ct14), sl14⟩) (c14 : PySem.W.codeIn K cd14 "_law_sort" = true) (k14 : PySem.W.keepIn K (.ref f14) = true)
    (a15 : PySem.W.nsIn K mainGlobals "_law_like" = some (some (.ref f15))) (l15 : K.lookup f15 = some ⟨oc15, od15, .func (PySem.W.fnOf "_law_like" "_law_like" (defArgs s_law_like) (defBody s_law_like) (defScope s_law_like) .none kV15 dc15 pm15 an15 cd15 ct15), sl15⟩) (c15 : PySem.W.codeIn K cd15 "_law_like" = true) (k15 : PySem.W.keepIn K (.ref f15) = true)
    (a16 : PySem.W.nsIn K mainGlobals "_law_value" = some (some (.ref f16))) (l16 : K.lookup f16 = some ⟨oc16, od16, .func (PySem.W.fnOf "_law_value" "_law_value" (defArgs s_law_value) (defBody s_law_value) (defScope s_law_value) .none kV16 dc16 pm16 an16 cd16 ct16), sl16⟩) (c16 : PySem.W.codeIn K cd16 "_law_value" = true) (k16 : PySem.W.keepIn K (.ref f16) = true)
    (a17 : PySem.W.nsIn K mainGlobals "_law_tidied" = some (some (.ref f17))) (l17 : K.lookup f17 = some ⟨oc17, od17, .func (PySem.W.fnOf "_law_tidied" "_law_tidied" (defArgs s_law_tidied) (defBody s_law_tidied) (defScope s_law_tidied) .none kV17 dc17 pm17 an17 cd17 ct17), sl17⟩) (c17 : PySem.W.codeIn K cd17 "_law_tidied" = true) (k17 : PySem.W.keepIn K (.ref f17) = true)
    (a18 : PySem.W.nsIn K mainGlobals "_law_parts" = some (some (.ref f18))) (l18 : K.lookup f18 = some ⟨oc18, od18, .func (PySem.W.fnOf "_law_parts" "_law_parts" (defArgs s_law_parts) (defBody s_law_parts) (defScope s_law_parts) .none kV18 dc18 pm18 an18 cd18 ct18), sl18⟩) (c18 : PySem.W.codeIn K cd18 "_law_parts" = true) (k18 : PySem.W.keepIn K (.ref f18) = true)
    (a19 : PySem.W.nsIn K mainGlobals "_law_binomials" = some (some (.ref f19))) (l19 : K.lookup f19 = some ⟨oc19, od19, .func (PySem.W.fnOf "_law_binomials" "_law_binomials" (defArgs s_law_binomials) (defBody s_law_binomials) (defScope s_law_binomials) .none kV19 dc19 pm19 an19 cd19 ct19), sl19⟩) (c19 : PySem.W.codeIn K cd19 "_law_binomials" = true) (k19 : PySem.W.keepIn K (.ref f19) = true)
    (a20 : PySem.W.nsIn K mainGlobals "_law_broken" = some (some (.ref f20))) (l20 : K.lookup f20 = some ⟨oc20, od20, .func (PySem.W.fnOf "_law_broken" "_law_broken" (defArgs s_law_broken) (defBody s_law_broken) (defScope s_law_broken) .none kV20 dc20 pm20 an20 cd20 ct20), sl20⟩) (c20 : PySem.W.codeIn K cd20 "_law_broken" = true) (k20 : PySem.W.keepIn K (.ref f20) = true)
    (a21 : PySem.W.nsIn K mainGlobals "_law_fixed_right" = some (some (.ref f21))) (l21 : K.lookup f21 = some ⟨oc21, od21, .func (PySem.W.fnOf "_law_fixed_right" "_law_fixed_right" (defArgs s_law_fixed_right) (defBody s_law_fixed_right) (defScope s_law_fixed_right) .none kV21 dc21 pm21 an21 cd21 ct21), sl21⟩) (c21 : PySem.W.codeIn K cd21 "_law_fixed_right" = true) (k21 : PySem.W.keepIn K (.ref f21) = true)
    (a22 : PySem.W.nsIn K mainGlobals "_law_right" = some (some (.ref f22))) (l22 : K.lookup f22 = some ⟨oc22, od22, .func (PySem.W.fnOf "_law_right" "_law_right" (defArgs s_law_right) (defBody s_law_right) (defScope s_law_right) .none kV22 dc22 pm22 an22 cd22 ct22), sl22⟩) (c22 : PySem.W.codeIn K cd22 "_law_right" = true) (k22 : PySem.W.keepIn K (.ref f22) = true)
    (a23 : PySem.W.nsIn K mainGlobals "law" = some (some (.ref f23))) (l23 : K.lookup f23 = some ⟨oc23, od23, .func (PySem.W.fnOf "law" "law" (defArgs s_law) (defBody s_law) (defScope s_law) .none kV23 dc23 pm23 an23 cd23 ct23), sl23⟩) (c23 : PySem.W.codeIn K cd23 "law" = true) (k23 : PySem.W.keepIn K (.ref f23) = true)
    (g0 : PySem.W.nsIn K mainGlobals "PARTS_polys" = some (some (.int 240 t0)))
    (g1 : PySem.W.nsIn K mainGlobals "GREAT" = some (some (.int 1000000000000000000000000000000000000000000000000000000000000 t1)))
    (g2 : PySem.W.nsIn K mainGlobals "PARTS_fractions" = some (some (.int 40 t2)))
    (z0 : PySem.W.nsIn K mainGlobals "len" = some none)
    (z1 : PySem.W.nsIn K mainGlobals "int" = some none)
    (z2 : PySem.W.nsIn K mainGlobals "abs" = some none)
    (z3 : PySem.W.nsIn K mainGlobals "list" = some none)
    (z4 : PySem.W.nsIn K mainGlobals "tuple" = some none)
    (z5 : PySem.W.nsIn K mainGlobals "sum" = some none)
    (z6 : PySem.W.nsIn K mainGlobals "max" = some none)
    (z7 : PySem.W.nsIn K mainGlobals "min" = some none)
    (z8 : PySem.W.nsIn K mainGlobals "all" = some none)
    (z9 : PySem.W.nsIn K mainGlobals "range" = some none)
    (z10 : PySem.W.nsIn K mainGlobals "zip" = some none)
    (z11 : PySem.W.nsIn K mainGlobals "enumerate" = some none)
    (z12 : PySem.W.nsIn K mainGlobals "isinstance" = some none)
    (z13 : PySem.W.nsIn K mainGlobals "bool" = some none)
    (z14 : PySem.W.nsIn K mainGlobals "str" = some none) :
    ∃ fd : FuncData, (∀ (s : Shared) (v : Value), BindsTo s fd ⟨[v], []⟩ [("script", v)]) ∧ ∀ base : Heap, K.In base → base.Ns mainGlobals mg → FnOk l.prog w K mg base (L2.CX l.prog w) depth fa fd ["script"] (spLaw K) := by
  have e := hfa.symm.trans (PySem.W.mg_of X G a23)
  cases e
  have at_ : ∀ j x, tab.fn[j]? = some x → DefAt K mg tab prog j x := ats_of ⟨m_is_whole X G a0 l0 c0 k0, m_is_tuple_of X G a1 l1 c1 k1, m_is_poly X G a2 l2 c2 k2, m_common_in X G a3 l3 c3 k3, m_is_fractional X G a4 l4 c4 k4, m_need_fractional X G a5 l5 c5 k5, m_value_in X G a6 l6 c6 k6, m_lowest_in X G a7 l7 c7 k7, m_broken_in X G a8 l8 c8 k8, m_is_whole_valued X G a9 l9 c9 k9, m_first_broken X G a10 l10 c10 k10, m_multiplier X G a11 l11 c11 k11, m_law_cup X G a12 l12 c12 k12, m_law_roll X G a13 l13 c13 k13, m_law_sort X G a14 l14 c14 k14, m_law_like X G a15 l15 c15 k15, m_law_value X G a16 l16 c16 k16, m_law_tidied X G a17 l17 c17 k17, m_law_parts X G a18 l18 c18 k18, m_law_binomials X G a19 l19 c19 k19, m_law_broken X G a20 l20 c20 k20, m_law_fixed_right X G a21 l21 c21 k21, m_law_right X G a22 l22 c22 k22, m_law X G a23 l23 c23 k23, trivial⟩
  have tp : Top tab K mg := top_of ⟨gl_int (PySem.W.mg_of X G g0) rfl (by decide +kernel), gl_int (PySem.W.mg_of X G g1) rfl (by decide +kernel), gl_int (PySem.W.mg_of X G g2) rfl (by decide +kernel), trivial⟩ ⟨PySem.W.mg_none_of X G z0, PySem.W.mg_none_of X G z1, PySem.W.mg_none_of X G z2, PySem.W.mg_none_of X G z3, PySem.W.mg_none_of X G z4, PySem.W.mg_none_of X G z5, PySem.W.mg_none_of X G z6, PySem.W.mg_none_of X G z7, PySem.W.mg_none_of X G z8, PySem.W.mg_none_of X G z9, PySem.W.mg_none_of X G z10, PySem.W.mg_none_of X G z11, PySem.W.mg_none_of X G z12, PySem.W.mg_none_of X G z13, PySem.W.mg_none_of X G z14, trivial⟩
  exact ⟨_, fun s v => .of_eq rfl, fun base _ _ => law_ok tp rfl at_ (fun_mk (st := s_law) l23 c23 k23) d_law rfl lw⟩
end K80
open PySem PySem.W PyProof.Rows
set_option maxHeartbeats 0 in
theorem PySem.Challenge.cw_restsmapped_k80_whole_valued_polynomials_holds : PySem.Challenge.rw_restsmapped_k80_whole_valued_polynomials.Holds := by
  w_on; o_law; k_head; (case hw => w_witness2)
  k_fill
  refine L2.walk_of (l := PySem.Challenge.rw_restsmapped_k80_whole_valued_polynomials) (n := 63) (k := K80.depth) (x := "script") (CX := fun w => L2.CX PySem.Challenge.rw_restsmapped_k80_whole_valued_polynomials.prog w) (sp := fun w => Ev.spLaw _) rfl (by decide) rfl ⟨rfl, by decide, by decide⟩ (fun w h Y => PySem.W.kIn_of Y) ?F (fun _ _ a ns hl _ hS => ⟨a, ns, rfl, hS, hl, fun _ => rfl⟩) (fun _ _ _ _ _ h => Ev.cx_never h)
  case F =>
    intro w mg fa h KX G hmg
    refine' K80.all_mk KX G hmg K80.law ?ev_a0 ?ev_l0 ?ev_c0 ?ev_k0 ?ev_a1 ?ev_l1 ?ev_c1 ?ev_k1 ?ev_a2 ?ev_l2 ?ev_c2 ?ev_k2 ?ev_a3 ?ev_l3 ?ev_c3 ?ev_k3 ?ev_a4 ?ev_l4 ?ev_c4 ?ev_k4 ?ev_a5 ?ev_l5 ?ev_c5 ?ev_k5 ?ev_a6 ?ev_l6 ?ev_c6 ?ev_k6 ?ev_a7 ?ev_l7 ?ev_c7 ?ev_k7 ?ev_a8 ?ev_l8 ?ev_c8 ?ev_k8 ?ev_a9 ?ev_l9 ?ev_c9 ?ev_k9 ?ev_a10 ?ev_l10 ?ev_c10 ?ev_k10 ?ev_a11 ?ev_l11 ?ev_c11 ?ev_k11 ?ev_a12 ?ev_l12 ?ev_c12 ?ev_k12 ?ev_a13 ?ev_l13 ?ev_c13 ?ev_k13 ?ev_a14 ?ev_l14 ?ev_c14 ?ev_k14 ?ev_a15 ?ev_l15 ?ev_c15 ?ev_k15 ?ev_a16 ?ev_l16 ?ev_c16 ?ev_k16 ?ev_a17 ?ev_l17 ?ev_c17 ?ev_k17 ?ev_a18 ?ev_l18 ?ev_c18 ?ev_k18 ?ev_a19 ?ev_l19 ?ev_c19 ?ev_k19 ?ev_a20 ?ev_l20 ?ev_c20 ?ev_k20 ?ev_a21 ?ev_l21 ?ev_c21 ?ev_k21 ?ev_a22 ?ev_l22 ?ev_c22 ?ev_k22 ?ev_a23 ?ev_l23 ?ev_c23 ?ev_k23 ?ev_g0 ?ev_g1 ?ev_g2 ?ev_z0 ?ev_z1 ?ev_z2 ?ev_z3 ?ev_z4 ?ev_z5 ?ev_z6 ?ev_z7 ?ev_z8 ?ev_z9 ?ev_z10 ?ev_z11 ?ev_z12 ?ev_z13 ?ev_z14
    (case ev_a0 => k_is); (case ev_l0 => k_is); (case ev_c0 => k_is); (case ev_k0 => k_is); (case ev_a1 => k_is); (case ev_l1 => k_is); (case ev_c1 => k_is); (case ev_k1 => k_is); (case ev_a2 => k_is); (case ev_l2 => k_is); (case ev_c2 => k_is); (case ev_k2 => k_is); (case ev_a3 => k_is); (case ev_l3 => k_is); (case ev_c3 => k_is); (case ev_k3 => k_is); (case ev_a4 => k_is); (case ev_l4 => k_is); (case ev_c4 => k_is); (case ev_k4 => k_is); (case ev_a5 => k_is); (case ev_l5 => k_is); (case ev_c5 => k_is); (case ev_k5 => k_is); (case ev_a6 => k_is); (case ev_l6 => k_is); (case ev_c6 => k_is); (case ev_k6 => k_is); (case ev_a7 => k_is); (case ev_l7 => k_is); (case ev_c7 => k_is); (case ev_k7 => k_is); (case ev_a8 => k_is); (case ev_l8 => k_is); (case ev_c8 => k_is); (case ev_k8 => k_is); (case ev_a9 => k_is); (case ev_l9 => k_is); (case ev_c9 => k_is); (case ev_k9 => k_is); (case ev_a10 => k_is); (case ev_l10 => k_is); (case ev_c10 => k_is); (case ev_k10 => k_is); (case ev_a11 => k_is); (case ev_l11 => k_is); (case ev_c11 => k_is); (case ev_k11 => k_is); (case ev_a12 => k_is); (case ev_l12 => k_is); (case ev_c12 => k_is); (case ev_k12 => k_is); (case ev_a13 => k_is); (case ev_l13 => k_is); (case ev_c13 => k_is); (case ev_k13 => k_is); (case ev_a14 => k_is); (case ev_l14 => k_is); (case ev_c14 => k_is); (case ev_k14 => k_is); (case ev_a15 => k_is); (case ev_l15 => k_is); (case ev_c15 => k_is); (case ev_k15 => k_is); (case ev_a16 => k_is); (case ev_l16 => k_is); (case ev_c16 => k_is); (case ev_k16 => k_is); (case ev_a17 => k_is); (case ev_l17 => k_is); (case ev_c17 => k_is); (case ev_k17 => k_is); (case ev_a18 => k_is); (case ev_l18 => k_is); (case ev_c18 => k_is); (case ev_k18 => k_is); (case ev_a19 => k_is); (case ev_l19 => k_is); (case ev_c19 => k_is); (case ev_k19 => k_is); (case ev_a20 => k_is); (case ev_l20 => k_is); (case ev_c20 => k_is); (case ev_k20 => k_is); (case ev_a21 => k_is); (case ev_l21 => k_is); (case ev_c21 => k_is); (case ev_k21 => k_is); (case ev_a22 => k_is); (case ev_l22 => k_is); (case ev_c22 => k_is); (case ev_k22 => k_is); (case ev_a23 => k_is); (case ev_l23 => k_is); (case ev_c23 => k_is); (case ev_k23 => k_is); (case ev_g0 => k_is); (case ev_g1 => k_is); (case ev_g2 => k_is); (case ev_z0 => k_is); (case ev_z1 => k_is); (case ev_z2 => k_is); (case ev_z3 => k_is); (case ev_z4 => k_is); (case ev_z5 => k_is); (case ev_z6 => k_is); (case ev_z7 => k_is); (case ev_z8 => k_is); (case ev_z9 => k_is); (case ev_z10 => k_is); (case ev_z11 => k_is); (case ev_z12 => k_is); (case ev_z13 => k_is); (case ev_z14 => k_is)
